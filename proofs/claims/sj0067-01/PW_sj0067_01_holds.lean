import PyProof.Rows.All
import Wide.All
import OpenK.AllK
import Wide.FinOn
import KE.KNestM
import Lean
import PySem.Challenge.RW_sj0067_01
set_option Elab.async false
set_option autoImplicit false
set_option tactic.hygienic false
set_option backward.match.sparseCases false
set_option genCtorIdx false
set_option genInjectivity false
set_option genSizeOf false
set_option linter.all false
set_option compiler.extract_closed false
set_option maxRecDepth 100000
set_option maxHeartbeats 8000000
open PySem PySem.W PySem.Calls PyProof.Rows PySem.Builtin PySem.Builtin.Str PySem.Builtin.ObjectAttr
namespace Mine
noncomputable def runT (stp : SharedT → Thread → Option (SharedT × Thread)) (ok : Thread → Bool) : Nat → SharedT → Thread → Option SharedT
 | 0, _, _ => none
 | n + 1, s, t => match through t with
  | true => some s
  | false => match ok t with
   | false => none
   | true => match stp s t with
    | some (s', t') => runT stp ok n s' t'
    | none => none
theorem runT_spec {tb : String → Option Builtin} {p : Program} {w : World} {n₀ : Nat} {ann : Option Value} {n : Nat} {s s' : SharedT} {t : Thread}
  (h : runT (stepT (denote tb) p w) (stepOk n₀ ann) n s t = some s') : topRun tb p w n₀ ann n s.abs t = some s'.abs := by
 induction n generalizing s t with
 | zero => cases h
 | succ n ih =>
  have h : (match through t with
   | true => some s
   | false => match stepOk n₀ ann t with
    | false => none
    | true => match stepT (denote tb) p w s t with
     | some (s', t') => runT (stepT (denote tb) p w) (stepOk n₀ ann) n s' t'
     | none => none) = some s' := h
  unfold topRun
  cases ht : through t with
  | true => rw [ht] at h; cases h; rfl
  | false =>
   rw [ht] at h
   cases hk : stepOk n₀ ann t with
   | false => rw [hk] at h; cases h
   | true =>
    rw [hk] at h
    cases hs : stepT (denote tb) p w s t with
    | none => rw [hs] at h; cases h
    | some r => obtain ⟨s₂, t₂⟩ := r; rw [hs] at h; rw [stepT_spec hs]; exact ih h
noncomputable def treeOf (l : List Obj) : BT := ((List.range l.length).zip l).foldl (fun t p => t.ins p.1 p.2) .nil
noncomputable def lookAll (p q : Program) (loose : List Str) (Xt : Shared → Bool) {α : Type} (Yf : Shared → α) (g0 : Bool) (h₀ : Heap) (s : Shared) :=
 ((staticsOk (importedModules p.main.body) h₀ s.heap && namesBound p s.heap && gensDone s && laidKept h₀ s.heap), openSeen q loose (importedModules p.main.body) Xt g0 s, Yf s)
theorem LeftO_of {p q : Program} {loose : List Str} {Xt : Shared → Bool} {α : Type} {Yf : Shared → α} {Ya : World → α} {N : Nat} {g0 : Bool} {H₀ : Params → Heap} {d₀ : Drawn} {k₀ : Nat} {m₀ : Nat} {ann : Option Value} {M : Nat}
  (open_ : ∀ w : World, (fencedOpening treeTable p w N).map (fun s => (s.heap, s.gens, s.drawn, s.toks)) = some (H₀ w.params, #[], d₀, k₀))
  (abs : ∀ P, absHeap (treeOf (H₀ P).objs.toList) m₀ (H₀ P).life = H₀ P)
  (size : ∀ w : World, ((H₀ w.params).isNs mainGlobals, (H₀ w.params).objs.size, (H₀ w.params).nsMap mainGlobals "__annotations__") = (true, m₀, ann))
  (le : Nat.ble M N = true)
  (run : ∀ (w : World) (os : OsState), (runT (stepT (denote treeTable) p w) (stepOk m₀ ann) M ⟨treeOf (H₀ w.params).objs.toList, m₀, (H₀ w.params).life, #[], d₀, k₀, os⟩ (topStub p)).map (fun s => lookAll p q loose Xt Yf g0 (H₀ w.params) s.abs) = some (true, openGood q loose, Ya w)) : LeftO p q loose Xt Yf Ya N g0 := fun w => by
 obtain ⟨⟨h, gs, d, k, os⟩, e, e'⟩ := Option.map_eq_some_iff.mp (open_ w)
 obtain ⟨rfl, rfl, rfl, rfl⟩ : h = H₀ w.params ∧ gs = #[] ∧ d = d₀ ∧ k = k₀ := by simpa using e'
 obtain ⟨z1, z2, z3⟩ : _ ∧ _ ∧ _ := by simpa only [Prod.mk.injEq] using size w
 obtain ⟨s', r, l⟩ := Option.map_eq_some_iff.mp (run w os)
 have r := runT_spec r
 unfold SharedT.abs at r
 dsimp only at r
 rw [abs] at r
 have r := topRun_mono (N - M) _ _ _ _ r
 rw [Nat.add_sub_cancel' (Nat.le_of_ble_eq_true le)] at r
 obtain ⟨l1, l2, l3⟩ : _ ∧ _ ∧ _ := by simpa only [lookAll, Prod.mk.injEq] using l
 have t : topFrom treeTable p w N ⟨H₀ w.params, #[], d, k, os⟩ = some s'.abs := by
  unfold topFrom
  dsimp only
  rw [z1, z2, z3, r]
  show (match staticsOk (importedModules p.main.body) (H₀ w.params) s'.abs.heap && namesBound p s'.abs.heap && gensDone s'.abs && laidKept (H₀ w.params) s'.abs.heap with | true => _ | false => _) = _
  rw [l1]; rfl
 unfold openEnds
 rw [e]
 show (topFrom treeTable p w N _).map _ = _
 rw [t]
 exact congrArg some (Prod.ext l2 l3)
noncomputable abbrev P0 : Program := Challenge.pw_sj0067_01
noncomputable def sAt (i : Nat) : Stmt := P0.main.body.getD i (.Pass ⟨0, 0, 0, 0⟩)
noncomputable def sIn (i j : Nat) : Stmt := match sAt i with
 | .ClassDef _ _ _ b .. => b.getD j (.Pass ⟨0, 0, 0, 0⟩)
 | s => s
noncomputable def fO (n q : Str) (s : Stmt) (g : Addr) (d m c : Value) (b : Addr) : Obj := match s with
 | .FunctionDef _ as bd _ _ _ sc .. => ⟨.type "function", none, .func { name := n, qualname := q, params := as, body := .stmts bd, scope := sc, globals := g, closure := [], defaults := d, kwdefaults := .none, pyModule := m, code := c, builtins := b }, #[]⟩
 | _ => ⟨.none, none, .plain, #[]⟩
noncomputable def dE (P : Params) (x : Str) (t : Tok) (v : Value) : DictEntry := ⟨PyData.keyHash P x, .str x t, v⟩
noncomputable def dO (es : List DictEntry) (n : Nat) : Obj := ⟨.type "dict", none, .dict es.toArray n, #[]⟩
noncomputable def K0 (P : Params) : Frag :=
 (nat_lit 3, dO [dE P "__name__" 165 (.str "law_sj0067_01" 1333), dE P "__doc__" 166 .none, dE P "__package__" 167 .none, dE P "__loader__" 168 (.builtin "__main__.__loader__#opaque"), dE P "__spec__" 169 .none, dE P "__annotations__" 170 (.ref 6), dE P "__builtins__" 171 (.ref 4), dE P "__file__" 173 (.str "/claim/cut.py" 172), dE P "__cached__" 174 .none, dE P "_wall" 193 (.ref 21), dE P "GateloomError" 231 (.ref 39), dE P "SourceError" 247 (.ref 52), dE P "DesignError" 263 (.ref 64), dE P "FormatError" 279 (.ref 76), dE P "mask" 288 (.ref 85), dE P "vec" 299 (.ref 93), dE P "zeros" 306 (.ref 100), dE P "all_x" 314 (.ref 107), dE P "from_int" 322 (.ref 114), dE P "is_known" 329 (.ref 121), dE P "to_int" 340 (.ref 128), dE P "code" 348 (.ref 135), dE P "slice_vec" 364 (.ref 142), dE P "concat" 375 (.ref 149), dE P "extend" 388 (.ref 156), dE P "z_to_x" 395 (.ref 163), dE P "truth" 402 (.ref 170), dE P "add" 412 (.ref 177), dE P "sub" 420 (.ref 184), dE P "mul" 428 (.ref 191), dE P "neg" 435 (.ref 198), dE P "quotient" 444 (.ref 205), dE P "div" 455 (.ref 212), dE P "mod" 466 (.ref 219), dE P "raise_whole" 479 (.ref 226), dE P "power" 492 (.ref 233), dE P "shift_left" 502 (.ref 240), dE P "shift_right" 511 (.ref 247), dE P "shift_arith" 526 (.ref 254), dE P "ordered" 537 (.ref 261), dE P "less" 547 (.ref 268), dE P "less_equal" 557 (.ref 275), dE P "greater" 566 (.ref 282), dE P "greater_equal" 575 (.ref 289), dE P "one_bit" 584 (.ref 296), dE P "bit_not" 594 (.ref 303), dE P "bit_and" 608 (.ref 310), dE P "bit_or" 623 (.ref 317), dE P "bit_xor" 632 (.ref 324), dE P "bit_xnor" 640 (.ref 331), dE P "reduce_and" 650 (.ref 338), dE P "reduce_nand" 657 (.ref 345), dE P "reduce_or" 664 (.ref 352), dE P "reduce_nor" 671 (.ref 359), dE P "reduce_xor" 680 (.ref 366), dE P "reduce_xnor" 687 (.ref 373), dE P "logic_not" 694 (.ref 380), dE P "logic_and" 702 (.ref 387), dE P "logic_or" 710 (.ref 394), dE P "equal" 719 (.ref 401), dE P "not_equal" 727 (.ref 408), dE P "case_equal" 735 (.ref 415), dE P "case_not_equal" 743 (.ref 422), dE P "choose" 756 (.ref 429), dE P "unary" 766 (.ref 436), dE P "arithmetic" 776 (.ref 443), dE P "comparison" 786 (.ref 450), dE P "bitwise" 795 (.ref 457), dE P "binary" 806 (.ref 464), dE P "whole_of" 815 (.ref 471), dE P "memory_word" 825 (.ref 478), dE P "picked" 835 (.ref 485), dE P "conditional" 845 (.ref 492), dE P "bits_needed" 853 (.ref 499), dE P "system_value" 864 (.ref 506), dE P "evaluate" 870 (.ref 511), dE P "MOST_BITS" 874 (.int 65536 873), dE P "PLAIN_BITS" 876 (.int 32 875), dE P "digit_bits" 883 (.ref 518), dE P "decimal_value" 892 (.ref 525), dE P "size_value" 901 (.ref 532), dE P "digit_pair" 909 (.ref 539), dE P "grouped" 924 (.ref 546), dE P "padded_vec" 936 (.ref 553), dE P "numeral" 954 (.ref 560), dE P "fits_base" 966 (.ref 567), dE P "string_text" 977 (.ref 574), dE P "arg_values" 991 (.ref 581), dE P "text_arg" 1002 (.ref 588), dE P "whole_arg" 1016 (.ref 595), dE P "load_memory" 1038 (.ref 602), dE P "placed_rows" 1054 (.ref 609), dE P "gap_end" 1064 (.ref 616), dE P "read_memory" 1079 (.ref 623), dE P "address_value" 1091 (.ref 630), dE P "net_kinds" 1099 (.ref 637), dE P "Signal" 1184 (.ref 689), dE P "Design" 1284 (.ref 752), dE P "Thread" 1332 (.ref 773), dE P "_law_pool" 1340 (.ref 782), dE P "_law_drawn" 1349 (.ref 789), dE P "_law_whole" 1356 (.ref 796), dE P "_law_word" 1362 (.ref 801), dE P "_law_kernel" 1374 (.ref 808), dE P "_law_refused" 1388 (.ref 815), dE P "law" 1432 (.ref 822)] 106) ::
 (nat_lit 29, ⟨(.type "tuple"), none, .seq #[(.int (-1) 209), (.str "" 210)] 0, #[]⟩) ::
 (nat_lit 35, ⟨(.type "code"), none, .fields #[(.str "__init__" 211), (.str "GateloomError.__init__" 212), (.str "/claim/cut.py" 213), (.int 7 0), (.int 4 0), (.int 0 0), (.int 0 0), (.int 3 0), (.ref 30), (.bool true), (.int 181 0), (.ref 31), .none, (.ref 32), (.ref 33), (.ref 34), (.int 218 0), (.int 7 0), (.str "/claim/cut.py" 219)], #[]⟩) ::
 (nat_lit 36, fO "__init__" "GateloomError.__init__" (sIn 2 0) 3 (.ref 29) (.str "gateloom.errors" 194) (.ref 35) 0) ::
 (nat_lit 38, dO [dE P "__module__" 203 (.str "gateloom.errors" 194), dE P "__firstlineno__" 207 (.int 5 206), dE P "__init__" 220 (.ref 36), dE P "__static_attributes__" 224 (.ref 37), dE P "__weakref__" 226 (.ref 40), dE P "__doc__" 227 .none] 3) ::
 (nat_lit 39, ⟨(.type "type"), none, .cls ⟨"GateloomError", [(.type "Exception")], [(.ref 39), (.type "Exception"), (.type "BaseException"), (.type "object")], 38, "GateloomError", true, [], [(.ref 52), (.ref 64), (.ref 76)], false, none, false⟩, #[some (.ref 22), none, some (.str "GateloomError" 196), some (.str "GateloomError" 204), some (.builtin "Exception.__new__"), some (.bool true)]⟩) ::
 (nat_lit 51, dO [dE P "__module__" 239 (.str "gateloom.errors" 194), dE P "__firstlineno__" 243 (.int 11 242), dE P "__static_attributes__" 244 (.ref 50), dE P "__doc__" 245 .none] 2) ::
 (nat_lit 52, ⟨(.type "type"), none, .cls ⟨"SourceError", [(.ref 39)], [(.ref 52), (.ref 39), (.type "Exception"), (.type "BaseException"), (.type "object")], 51, "SourceError", true, [], [], false, none, false⟩, #[some (.ref 43), none, some (.str "SourceError" 232), some (.str "SourceError" 240), some (.builtin "Exception.__new__"), some (.bool true)]⟩) ::
 (nat_lit 63, dO [dE P "__module__" 255 (.str "gateloom.errors" 194), dE P "__firstlineno__" 259 (.int 13 258), dE P "__static_attributes__" 260 (.ref 62), dE P "__doc__" 261 .none] 2) ::
 (nat_lit 64, ⟨(.type "type"), none, .cls ⟨"DesignError", [(.ref 39)], [(.ref 64), (.ref 39), (.type "Exception"), (.type "BaseException"), (.type "object")], 63, "DesignError", true, [], [], false, none, false⟩, #[some (.ref 55), none, some (.str "DesignError" 248), some (.str "DesignError" 256), some (.builtin "Exception.__new__"), some (.bool true)]⟩) ::
 (nat_lit 75, dO [dE P "__module__" 271 (.str "gateloom.errors" 194), dE P "__firstlineno__" 275 (.int 15 274), dE P "__static_attributes__" 276 (.ref 74), dE P "__doc__" 277 .none] 2) ::
 (nat_lit 76, ⟨(.type "type"), none, .cls ⟨"FormatError", [(.ref 39)], [(.ref 76), (.ref 39), (.type "Exception"), (.type "BaseException"), (.type "object")], 75, "FormatError", true, [], [], false, none, false⟩, #[some (.ref 67), none, some (.str "FormatError" 264), some (.str "FormatError" 272), some (.builtin "Exception.__new__"), some (.bool true)]⟩) ::
 (nat_lit 84, ⟨(.type "code"), none, .fields #[(.str "mask" 282), (.str "mask" 283), (.str "/claim/cut.py" 284), (.int 18 0), (.int 1 0), (.int 0 0), (.int 0 0), (.int 3 0), (.ref 79), (.bool true), (.int 181 0), (.ref 80), .none, (.ref 81), (.ref 82), (.ref 83), (.int 286 0), (.int 18 0), (.str "/claim/cut.py" 287)], #[]⟩) ::
 (nat_lit 85, fO "mask" "mask" (sAt 7) 3 .none (.str "gateloom.vec" 280) (.ref 84) 0) ::
 (nat_lit 86, ⟨(.type "tuple"), none, .seq #[(.int 0 289)] 0, #[]⟩) ::
 (nat_lit 92, ⟨(.type "code"), none, .fields #[(.str "vec" 290), (.str "vec" 291), (.str "/claim/cut.py" 292), (.int 20 0), (.int 3 0), (.int 0 0), (.int 0 0), (.int 3 0), (.ref 87), (.bool true), (.int 181 0), (.ref 88), .none, (.ref 89), (.ref 90), (.ref 91), (.int 297 0), (.int 20 0), (.str "/claim/cut.py" 298)], #[]⟩) ::
 (nat_lit 93, fO "vec" "vec" (sAt 8) 3 (.ref 86) (.str "gateloom.vec" 280) (.ref 92) 0) ::
 (nat_lit 127, ⟨(.type "code"), none, .fields #[(.str "to_int" 330), (.str "to_int" 331), (.str "/claim/cut.py" 332), (.int 32 0), (.int 2 0), (.int 0 0), (.int 0 0), (.int 3 0), (.ref 122), (.bool true), (.int 181 0), (.ref 123), .none, (.ref 124), (.ref 125), (.ref 126), (.int 338 0), (.int 32 0), (.str "/claim/cut.py" 339)], #[]⟩) ::
 (nat_lit 128, fO "to_int" "to_int" (sAt 13) 3 .none (.str "gateloom.vec" 280) (.ref 127) 0) ::
 (nat_lit 510, ⟨(.type "code"), none, .fields #[(.str "evaluate" 865), (.str "evaluate" 866), (.str "/claim/cut.py" 867), (.int 379 0), (.int 2 0), (.int 0 0), (.int 0 0), (.int 3 0), (.ref 507), (.bool true), (.int 181 0), (.ref 508), .none, .none, .none, (.ref 509), (.int 868 0), (.int 379 0), (.str "/claim/cut.py" 869)], #[]⟩) ::
 (nat_lit 511, fO "evaluate" "evaluate" (sAt 71) 3 .none (.str "gateloom.evaluate" 757) (.ref 510) 0) ::
 (nat_lit 517, ⟨(.type "code"), none, .fields #[(.str "digit_bits" 877), (.str "digit_bits" 878), (.str "/claim/cut.py" 879), (.int 413 0), (.int 1 0), (.int 0 0), (.int 0 0), (.int 3 0), (.ref 512), (.bool true), (.int 181 0), (.ref 513), .none, (.ref 514), (.ref 515), (.ref 516), (.int 881 0), (.int 413 0), (.str "/claim/cut.py" 882)], #[]⟩) ::
 (nat_lit 518, fO "digit_bits" "digit_bits" (sAt 75) 3 .none (.str "gateloom.numerals" 871) (.ref 517) 0) ::
 (nat_lit 524, ⟨(.type "code"), none, .fields #[(.str "decimal_value" 884), (.str "decimal_value" 885), (.str "/claim/cut.py" 886), (.int 419 0), (.int 1 0), (.int 0 0), (.int 0 0), (.int 3 0), (.ref 519), (.bool true), (.int 181 0), (.ref 520), .none, (.ref 521), (.ref 522), (.ref 523), (.int 890 0), (.int 419 0), (.str "/claim/cut.py" 891)], #[]⟩) ::
 (nat_lit 525, fO "decimal_value" "decimal_value" (sAt 76) 3 .none (.str "gateloom.numerals" 871) (.ref 524) 0) ::
 (nat_lit 531, ⟨(.type "code"), none, .fields #[(.str "size_value" 893), (.str "size_value" 894), (.str "/claim/cut.py" 895), (.int 424 0), (.int 2 0), (.int 0 0), (.int 0 0), (.int 3 0), (.ref 526), (.bool true), (.int 181 0), (.ref 527), .none, (.ref 528), (.ref 529), (.ref 530), (.int 899 0), (.int 424 0), (.str "/claim/cut.py" 900)], #[]⟩) ::
 (nat_lit 532, fO "size_value" "size_value" (sAt 77) 3 .none (.str "gateloom.numerals" 871) (.ref 531) 0) ::
 (nat_lit 538, ⟨(.type "code"), none, .fields #[(.str "digit_pair" 902), (.str "digit_pair" 903), (.str "/claim/cut.py" 904), (.int 429 0), (.int 2 0), (.int 0 0), (.int 0 0), (.int 3 0), (.ref 533), (.bool true), (.int 181 0), (.ref 534), .none, (.ref 535), (.ref 536), (.ref 537), (.int 907 0), (.int 429 0), (.str "/claim/cut.py" 908)], #[]⟩) ::
 (nat_lit 539, fO "digit_pair" "digit_pair" (sAt 78) 3 .none (.str "gateloom.numerals" 871) (.ref 538) 0) ::
 (nat_lit 545, ⟨(.type "code"), none, .fields #[(.str "grouped" 910), (.str "grouped" 911), (.str "/claim/cut.py" 912), (.int 435 0), (.int 2 0), (.int 0 0), (.int 0 0), (.int 3 0), (.ref 540), (.bool true), (.int 181 0), (.ref 541), .none, (.ref 542), (.ref 543), (.ref 544), (.int 922 0), (.int 435 0), (.str "/claim/cut.py" 923)], #[]⟩) ::
 (nat_lit 546, fO "grouped" "grouped" (sAt 79) 3 .none (.str "gateloom.numerals" 871) (.ref 545) 0) ::
 (nat_lit 552, ⟨(.type "code"), none, .fields #[(.str "padded_vec" 925), (.str "padded_vec" 926), (.str "/claim/cut.py" 927), (.int 445 0), (.int 5 0), (.int 0 0), (.int 0 0), (.int 3 0), (.ref 547), (.bool true), (.int 181 0), (.ref 548), .none, (.ref 549), (.ref 550), (.ref 551), (.int 934 0), (.int 445 0), (.str "/claim/cut.py" 935)], #[]⟩) ::
 (nat_lit 553, fO "padded_vec" "padded_vec" (sAt 80) 3 .none (.str "gateloom.numerals" 871) (.ref 552) 0) ::
 (nat_lit 559, ⟨(.type "code"), none, .fields #[(.str "numeral" 937), (.str "numeral" 938), (.str "/claim/cut.py" 939), (.int 453 0), (.int 2 0), (.int 0 0), (.int 0 0), (.int 3 0), (.ref 554), (.bool true), (.int 181 0), (.ref 555), .none, (.ref 556), (.ref 557), (.ref 558), (.int 952 0), (.int 453 0), (.str "/claim/cut.py" 953)], #[]⟩) ::
 (nat_lit 560, fO "numeral" "numeral" (sAt 81) 3 .none (.str "gateloom.numerals" 871) (.ref 559) 0) ::
 (nat_lit 566, ⟨(.type "code"), none, .fields #[(.str "fits_base" 957), (.str "fits_base" 958), (.str "/claim/cut.py" 959), (.int 477 0), (.int 2 0), (.int 0 0), (.int 0 0), (.int 3 0), (.ref 561), (.bool true), (.int 181 0), (.ref 562), .none, (.ref 563), (.ref 564), (.ref 565), (.int 964 0), (.int 477 0), (.str "/claim/cut.py" 965)], #[]⟩) ::
 (nat_lit 567, fO "fits_base" "fits_base" (sAt 83) 3 .none (.str "gateloom.tokens" 955) (.ref 566) 0) ::
 (nat_lit 573, ⟨(.type "code"), none, .fields #[(.str "string_text" 969), (.str "string_text" 970), (.str "/claim/cut.py" 971), (.int 494 0), (.int 1 0), (.int 0 0), (.int 0 0), (.int 3 0), (.ref 568), (.bool true), (.int 181 0), (.ref 569), .none, (.ref 570), (.ref 571), (.ref 572), (.int 975 0), (.int 494 0), (.str "/claim/cut.py" 976)], #[]⟩) ::
 (nat_lit 574, fO "string_text" "string_text" (sAt 85) 3 .none (.str "gateloom.vectext" 967) (.ref 573) 0) ::
 (nat_lit 580, ⟨(.type "code"), none, .fields #[(.str "arg_values" 980), (.str "arg_values" 981), (.str "/claim/cut.py" 982), (.int 503 0), (.int 3 0), (.int 0 0), (.int 0 0), (.int 3 0), (.ref 575), (.bool true), (.int 181 0), (.ref 576), .none, (.ref 577), (.ref 578), (.ref 579), (.int 989 0), (.int 503 0), (.str "/claim/cut.py" 990)], #[]⟩) ::
 (nat_lit 581, fO "arg_values" "arg_values" (sAt 87) 3 .none (.str "gateloom.systasks" 978) (.ref 580) 0) ::
 (nat_lit 587, ⟨(.type "code"), none, .fields #[(.str "text_arg" 992), (.str "text_arg" 993), (.str "/claim/cut.py" 994), (.int 515 0), (.int 4 0), (.int 0 0), (.int 0 0), (.int 3 0), (.ref 582), (.bool true), (.int 181 0), (.ref 583), .none, (.ref 584), (.ref 585), (.ref 586), (.int 1000 0), (.int 515 0), (.str "/claim/cut.py" 1001)], #[]⟩) ::
 (nat_lit 588, fO "text_arg" "text_arg" (sAt 88) 3 .none (.str "gateloom.systasks" 978) (.ref 587) 0) ::
 (nat_lit 594, ⟨(.type "code"), none, .fields #[(.str "whole_arg" 1003), (.str "whole_arg" 1004), (.str "/claim/cut.py" 1005), (.int 522 0), (.int 6 0), (.int 0 0), (.int 0 0), (.int 3 0), (.ref 589), (.bool true), (.int 181 0), (.ref 590), .none, (.ref 591), (.ref 592), (.ref 593), (.int 1014 0), (.int 522 0), (.str "/claim/cut.py" 1015)], #[]⟩) ::
 (nat_lit 595, fO "whole_arg" "whole_arg" (sAt 89) 3 .none (.str "gateloom.systasks" 978) (.ref 594) 0) ::
 (nat_lit 601, ⟨(.type "code"), none, .fields #[(.str "load_memory" 1017), (.str "load_memory" 1018), (.str "/claim/cut.py" 1019), (.int 533 0), (.int 5 0), (.int 0 0), (.int 0 0), (.int 3 0), (.ref 596), (.bool true), (.int 181 0), (.ref 597), .none, (.ref 598), (.ref 599), (.ref 600), (.int 1036 0), (.int 533 0), (.str "/claim/cut.py" 1037)], #[]⟩) ::
 (nat_lit 602, fO "load_memory" "load_memory" (sAt 90) 3 .none (.str "gateloom.systasks" 978) (.ref 601) 0) ::
 (nat_lit 608, ⟨(.type "code"), none, .fields #[(.str "placed_rows" 1039), (.str "placed_rows" 1040), (.str "/claim/cut.py" 1041), (.int 553 0), (.int 3 0), (.int 0 0), (.int 0 0), (.int 3 0), (.ref 603), (.bool true), (.int 181 0), (.ref 604), .none, (.ref 605), (.ref 606), (.ref 607), (.int 1052 0), (.int 553 0), (.str "/claim/cut.py" 1053)], #[]⟩) ::
 (nat_lit 609, fO "placed_rows" "placed_rows" (sAt 91) 3 .none (.str "gateloom.systasks" 978) (.ref 608) 0) ::
 (nat_lit 615, ⟨(.type "code"), none, .fields #[(.str "gap_end" 1055), (.str "gap_end" 1056), (.str "/claim/cut.py" 1057), (.int 570 0), (.int 2 0), (.int 0 0), (.int 0 0), (.int 3 0), (.ref 610), (.bool true), (.int 181 0), (.ref 611), .none, (.ref 612), (.ref 613), (.ref 614), (.int 1062 0), (.int 570 0), (.str "/claim/cut.py" 1063)], #[]⟩) ::
 (nat_lit 616, fO "gap_end" "gap_end" (sAt 92) 3 .none (.str "gateloom.systasks" 978) (.ref 615) 0) ::
 (nat_lit 622, ⟨(.type "code"), none, .fields #[(.str "read_memory" 1065), (.str "read_memory" 1066), (.str "/claim/cut.py" 1067), (.int 586 0), (.int 2 0), (.int 0 0), (.int 0 0), (.int 3 0), (.ref 617), (.bool true), (.int 181 0), (.ref 618), .none, (.ref 619), (.ref 620), (.ref 621), (.int 1077 0), (.int 586 0), (.str "/claim/cut.py" 1078)], #[]⟩) ::
 (nat_lit 623, fO "read_memory" "read_memory" (sAt 93) 3 .none (.str "gateloom.systasks" 978) (.ref 622) 0) ::
 (nat_lit 629, ⟨(.type "code"), none, .fields #[(.str "address_value" 1080), (.str "address_value" 1081), (.str "/claim/cut.py" 1082), (.int 609 0), (.int 2 0), (.int 0 0), (.int 0 0), (.int 3 0), (.ref 624), (.bool true), (.int 181 0), (.ref 625), .none, (.ref 626), (.ref 627), (.ref 628), (.int 1089 0), (.int 609 0), (.str "/claim/cut.py" 1090)], #[]⟩) ::
 (nat_lit 630, fO "address_value" "address_value" (sAt 94) 3 .none (.str "gateloom.systasks" 978) (.ref 629) 0) ::
 (nat_lit 636, ⟨(.type "code"), none, .fields #[(.str "net_kinds" 1094), (.str "net_kinds" 1095), (.str "/claim/cut.py" 1096), (.int 621 0), (.int 0 0), (.int 0 0), (.int 0 0), (.int 3 0), (.ref 631), (.bool true), (.int 181 0), (.ref 632), .none, (.ref 633), (.ref 634), (.ref 635), (.int 1097 0), (.int 621 0), (.str "/claim/cut.py" 1098)], #[]⟩) ::
 (nat_lit 637, fO "net_kinds" "net_kinds" (sAt 96) 3 .none (.str "gateloom.design" 1092) (.ref 636) 0) ::
 (nat_lit 650, ⟨(.type "code"), none, .fields #[(.str "__init__" 1112), (.str "Signal.__init__" 1113), (.str "/claim/cut.py" 1114), (.int 625 0), (.int 8 0), (.int 0 0), (.int 0 0), (.int 3 0), (.ref 645), (.bool true), (.int 181 0), (.ref 646), .none, (.ref 647), (.ref 648), (.ref 649), (.int 1123 0), (.int 625 0), (.str "/claim/cut.py" 1124)], #[]⟩) ::
 (nat_lit 651, fO "__init__" "Signal.__init__" (sIn 97 0) 3 .none (.str "gateloom.design" 1092) (.ref 650) 0) ::
 (nat_lit 657, ⟨(.type "code"), none, .fields #[(.str "is_net" 1126), (.str "Signal.is_net" 1127), (.str "/claim/cut.py" 1128), (.int 639 0), (.int 1 0), (.int 0 0), (.int 0 0), (.int 3 0), (.ref 652), (.bool true), (.int 181 0), (.ref 653), .none, (.ref 654), (.ref 655), (.ref 656), (.int 1130 0), (.int 639 0), (.str "/claim/cut.py" 1131)], #[]⟩) ::
 (nat_lit 658, fO "is_net" "Signal.is_net" (sIn 97 1) 3 .none (.str "gateloom.design" 1092) (.ref 657) 0) ::
 (nat_lit 671, ⟨(.type "code"), none, .fields #[(.str "words" 1140), (.str "Signal.words" 1141), (.str "/claim/cut.py" 1142), (.int 645 0), (.int 1 0), (.int 0 0), (.int 0 0), (.int 3 0), (.ref 666), (.bool true), (.int 181 0), (.ref 667), .none, (.ref 668), (.ref 669), (.ref 670), (.int 1144 0), (.int 645 0), (.str "/claim/cut.py" 1145)], #[]⟩) ::
 (nat_lit 672, fO "words" "Signal.words" (sIn 97 3) 3 .none (.str "gateloom.design" 1092) (.ref 671) 0) ::
 (nat_lit 685, ⟨(.type "code"), none, .fields #[(.str "place" 1156), (.str "Signal.place" 1157), (.str "/claim/cut.py" 1158), (.int 659 0), (.int 2 0), (.int 0 0), (.int 0 0), (.int 3 0), (.ref 680), (.bool true), (.int 181 0), (.ref 681), .none, (.ref 682), (.ref 683), (.ref 684), (.int 1162 0), (.int 659 0), (.str "/claim/cut.py" 1163)], #[]⟩) ::
 (nat_lit 686, fO "place" "Signal.place" (sIn 97 5) 3 .none (.str "gateloom.design" 1092) (.ref 685) 0) ::
 (nat_lit 688, dO [dE P "__module__" 1107 (.str "gateloom.design" 1092), dE P "__firstlineno__" 1111 (.int 623 1110), dE P "__init__" 1125 (.ref 651), dE P "is_net" 1132 (.ref 658), dE P "is_memory" 1139 (.ref 665), dE P "words" 1146 (.ref 672), dE P "offset" 1155 (.ref 679), dE P "place" 1164 (.ref 686), dE P "__static_attributes__" 1177 (.ref 687), dE P "__dict__" 1179 (.ref 690), dE P "__weakref__" 1181 (.ref 691), dE P "__doc__" 1182 .none] 4) ::
 (nat_lit 689, ⟨(.type "type"), none, .cls ⟨"Signal", [(.type "object")], [(.ref 689), (.type "object")], 688, "Signal", true, [], [], false, none, false⟩, #[none, none, some (.str "Signal" 1100), some (.str "Signal" 1108), some (.builtin "object.__new__"), some (.bool true)]⟩) ::
 (nat_lit 706, ⟨(.type "code"), none, .fields #[(.str "__init__" 1197), (.str "Design.__init__" 1198), (.str "/claim/cut.py" 1199), (.int 671 0), (.int 1 0), (.int 0 0), (.int 0 0), (.int 3 0), (.ref 701), (.bool true), (.int 181 0), (.ref 702), .none, (.ref 703), (.ref 704), (.ref 705), (.int 1201 0), (.int 671 0), (.str "/claim/cut.py" 1202)], #[]⟩) ::
 (nat_lit 707, fO "__init__" "Design.__init__" (sIn 98 0) 3 .none (.str "gateloom.design" 1092) (.ref 706) 0) ::
 (nat_lit 713, ⟨(.type "code"), none, .fields #[(.str "add_signal" 1204), (.str "Design.add_signal" 1205), (.str "/claim/cut.py" 1206), (.int 685 0), (.int 8 0), (.int 0 0), (.int 0 0), (.int 3 0), (.ref 708), (.bool true), (.int 181 0), (.ref 709), .none, (.ref 710), (.ref 711), (.ref 712), (.int 1216 0), (.int 685 0), (.str "/claim/cut.py" 1217)], #[]⟩) ::
 (nat_lit 714, fO "add_signal" "Design.add_signal" (sIn 98 1) 3 .none (.str "gateloom.design" 1092) (.ref 713) 0) ::
 (nat_lit 751, dO [dE P "__module__" 1192 (.str "gateloom.design" 1092), dE P "__firstlineno__" 1196 (.int 669 1195), dE P "__init__" 1203 (.ref 707), dE P "add_signal" 1218 (.ref 714), dE P "add_scope" 1226 (.ref 721), dE P "add_routine" 1237 (.ref 728), dE P "add_process" 1248 (.ref 735), dE P "find" 1256 (.ref 742), dE P "routine" 1264 (.ref 749), dE P "__static_attributes__" 1277 (.ref 750), dE P "__dict__" 1279 (.ref 753), dE P "__weakref__" 1281 (.ref 754), dE P "__doc__" 1282 .none] 4) ::
 (nat_lit 752, ⟨(.type "type"), none, .cls ⟨"Design", [(.type "object")], [(.ref 752), (.type "object")], 751, "Design", true, [], [], false, none, false⟩, #[none, none, some (.str "Design" 1185), some (.str "Design" 1193), some (.builtin "object.__new__"), some (.bool true)]⟩) ::
 (nat_lit 769, ⟨(.type "code"), none, .fields #[(.str "__init__" 1299), (.str "Thread.__init__" 1300), (.str "/claim/cut.py" 1301), (.int 711 0), (.int 6 0), (.int 0 0), (.int 0 0), (.int 3 0), (.ref 764), (.bool true), (.int 181 0), (.ref 765), .none, (.ref 766), (.ref 767), (.ref 768), (.int 1308 0), (.int 711 0), (.str "/claim/cut.py" 1309)], #[]⟩) ::
 (nat_lit 770, fO "__init__" "Thread.__init__" (sIn 100 0) 3 .none (.str "gateloom.process" 1285) (.ref 769) 0) ::
 (nat_lit 772, dO [dE P "__module__" 1294 (.str "gateloom.process" 1285), dE P "__firstlineno__" 1298 (.int 709 1297), dE P "__init__" 1310 (.ref 770), dE P "__static_attributes__" 1325 (.ref 771), dE P "__dict__" 1327 (.ref 774), dE P "__weakref__" 1329 (.ref 775), dE P "__doc__" 1330 .none] 4) ::
 (nat_lit 773, ⟨(.type "type"), none, .cls ⟨"Thread", [(.type "object")], [(.ref 773), (.type "object")], 772, "Thread", true, [], [], false, none, false⟩, #[none, none, some (.str "Thread" 1287), some (.str "Thread" 1295), some (.builtin "object.__new__"), some (.bool true)]⟩) ::
 (nat_lit 781, ⟨(.type "code"), none, .fields #[(.str "_law_pool" 1335), (.str "_law_pool" 1336), (.str "/claim/cut.py" 1337), (.int 727 0), (.int 1 0), (.int 0 0), (.int 0 0), (.int 3 0), (.ref 778), (.bool true), (.int 181 0), (.ref 779), .none, .none, .none, (.ref 780), (.int 1338 0), (.int 727 0), (.str "/claim/cut.py" 1339)], #[]⟩) ::
 (nat_lit 782, fO "_law_pool" "_law_pool" (sAt 102) 3 .none (.str "law_sj0067_01" 1333) (.ref 781) 0) ::
 (nat_lit 788, ⟨(.type "code"), none, .fields #[(.str "_law_drawn" 1341), (.str "_law_drawn" 1342), (.str "/claim/cut.py" 1343), (.int 731 0), (.int 2 0), (.int 0 0), (.int 0 0), (.int 3 0), (.ref 783), (.bool true), (.int 181 0), (.ref 784), .none, (.ref 785), (.ref 786), (.ref 787), (.int 1347 0), (.int 731 0), (.str "/claim/cut.py" 1348)], #[]⟩) ::
 (nat_lit 789, fO "_law_drawn" "_law_drawn" (sAt 103) 3 .none (.str "law_sj0067_01" 1333) (.ref 788) 0) ::
 (nat_lit 795, ⟨(.type "code"), none, .fields #[(.str "_law_whole" 1350), (.str "_law_whole" 1351), (.str "/claim/cut.py" 1352), (.int 740 0), (.int 1 0), (.int 0 0), (.int 0 0), (.int 3 0), (.ref 790), (.bool true), (.int 181 0), (.ref 791), .none, (.ref 792), (.ref 793), (.ref 794), (.int 1354 0), (.int 740 0), (.str "/claim/cut.py" 1355)], #[]⟩) ::
 (nat_lit 796, fO "_law_whole" "_law_whole" (sAt 104) 3 .none (.str "law_sj0067_01" 1333) (.ref 795) 0) ::
 (nat_lit 800, ⟨(.type "code"), none, .fields #[(.str "_law_word" 1357), (.str "_law_word" 1358), (.str "/claim/cut.py" 1359), (.int 742 0), (.int 3 0), (.int 0 0), (.int 0 0), (.int 3 0), (.ref 797), (.bool true), (.int 181 0), (.ref 798), .none, .none, .none, (.ref 799), (.int 1360 0), (.int 742 0), (.str "/claim/cut.py" 1361)], #[]⟩) ::
 (nat_lit 801, fO "_law_word" "_law_word" (sAt 105) 3 .none (.str "law_sj0067_01" 1333) (.ref 800) 0) ::
 (nat_lit 807, ⟨(.type "code"), none, .fields #[(.str "_law_kernel" 1363), (.str "_law_kernel" 1364), (.str "/claim/cut.py" 1365), (.int 756 0), (.int 2 0), (.int 0 0), (.int 0 0), (.int 3 0), (.ref 802), (.bool true), (.int 181 0), (.ref 803), .none, (.ref 804), (.ref 805), (.ref 806), (.int 1372 0), (.int 756 0), (.str "/claim/cut.py" 1373)], #[]⟩) ::
 (nat_lit 808, fO "_law_kernel" "_law_kernel" (sAt 106) 3 .none (.str "law_sj0067_01" 1333) (.ref 807) 0) ::
 (nat_lit 814, ⟨(.type "code"), none, .fields #[(.str "_law_refused" 1375), (.str "_law_refused" 1376), (.str "/claim/cut.py" 1377), (.int 778 0), (.int 5 0), (.int 0 0), (.int 0 0), (.int 3 0), (.ref 809), (.bool true), (.int 181 0), (.ref 810), .none, (.ref 811), (.ref 812), (.ref 813), (.int 1386 0), (.int 778 0), (.str "/claim/cut.py" 1387)], #[]⟩) ::
 (nat_lit 815, fO "_law_refused" "_law_refused" (sAt 107) 3 .none (.str "law_sj0067_01" 1333) (.ref 814) 0) ::
 (nat_lit 821, ⟨(.type "code"), none, .fields #[(.str "law" 1389), (.str "law" 1390), (.str "/claim/cut.py" 1391), (.int 788 0), (.int 1 0), (.int 0 0), (.int 0 0), (.int 3 0), (.ref 816), (.bool true), (.int 181 0), (.ref 817), .none, (.ref 818), (.ref 819), (.ref 820), (.int 1430 0), (.int 788 0), (.str "/claim/cut.py" 1431)], #[]⟩) ::
 (nat_lit 822, fO "law" "law" (sAt 108) 3 .none (.str "law_sj0067_01" 1333) (.ref 821) 0) :: []
noncomputable def ks0 : List Addr := [3, 29, 35, 36, 38, 39, 51, 52, 63, 64, 75, 76, 84, 85, 86, 92, 93, 127, 128, 510, 511, 517, 518, 524, 525, 531, 532, 538, 539, 545, 546, 552, 553, 559, 560, 566, 567, 573, 574, 580, 581, 587, 588, 594, 595, 601, 602, 608, 609, 615, 616, 622, 623, 629, 630, 636, 637, 650, 651, 657, 658, 671, 672, 685, 686, 688, 689, 706, 707, 713, 714, 751, 752, 769, 770, 772, 773, 781, 782, 788, 789, 795, 796, 800, 801, 807, 808, 814, 815, 821, 822]
theorem pf0 (P : Params) : ks0 = (K0 P).map (·.1) := by kernel_rfl
noncomputable def q0 : Program := view P0 [108]
noncomputable def loose0 : List Str := (P0.main.scope.names.map (·.1)).filter fun x => !(x == ("law" : Str)) && !(x == ("__name__" : Str))
theorem runA (w : World) (os : OsState) : (runT (stepT (denote treeTable) P0 w) (stepOk 11 (some (.ref 6))) 9952 ⟨treeOf (boot_heap w.params).objs.toList, 11, (boot_heap w.params).life, #[], boot_drawn, boot_toks, os⟩ (topStub P0)).map
  (fun s => lookAll P0 q0 loose0 (fun s => xlAt q0 [] s && recOk [] s) (kmHook K0 ks0 pf0 [803]).obs true (boot_heap w.params) s.abs) = some (true, openGood q0 loose0, (kmHook K0 ks0 pf0 [803]).val w) := by
 rw [PySem.W.Fast.te10156331382660048174, PySem.W.Fast.te11892475500146522536, PySem.W.Fast.te14364793385576792824]
 kernel_rfl
theorem left0 : LeftO P0 q0 loose0 (fun s => xlAt q0 [] s && recOk [] s) (kmHook K0 ks0 pf0 [803]).obs (kmHook K0 ks0 pf0 [803]).val 9952 true :=
 LeftO_of (M := 9952) (m₀ := 11) (ann := some (.ref 6)) (boot_open (by kernel_rfl) (by decide +kernel) (fun _ => by kernel_rfl)) (fun _ => by kernel_rfl) (fun _ => by kernel_rfl) (by decide +kernel) fun w os => runA w os
theorem well : OpenLaw.wellSaid PySem.Challenge.rw_sj0067_01 = true := by
 rw [PySem.W.Fast.te9446332074065402090]
 unfold PySem.W.Fast.tw9446332074065402090
 repeat' (with_reducible refine look_both ?_ ?_)
 unfold PySem.W.Fast.tw17960256430627541270
 repeat' (with_reducible refine look_both ?_ ?_)
 unfold PySem.W.Fast.tw2436336058641802641
 repeat' (with_reducible refine look_both ?_ ?_)
 unfold PySem.W.Fast.tw12908688711261696721
 repeat' (with_reducible refine look_both ?_ ?_)
 all_goals as_aux_lemma => kernel_rfl
set_option genCtorIdx true in
inductive V where
 | none
 | bool (b : Bool)
 | int (i : Int)
 | str (s : Str)
 | tup (xs : List V)
 | ref (i : Nat)
 | clo (k : Nat) (cs : List Nat)
 | exn (C : Addr) (kind : Str)
 | sc (ns : List Int)
set_option genCtorIdx true in
inductive LO where
 | lst (xs : List V)
 | dct (es : List (Str × V))
 | ins (C : Addr) (d : Nat)
 | cel (v : Option V)
 | tab (k : Nat)
noncomputable abbrev H := List LO
noncomputable abbrev Loc := List (Option V)
structure FI where
 name : Str
 qual : Str
 params : Arguments
 body : List Stmt
 scope : Scope
structure GW where
 prog : Program
 w : World
 K : Frag
 p : Program
 loose : List Str
 mean : ExcName → Option Value
 mg : Str → Option Value
 mb : Str → Option Value
 CI : Nat → FI
 CP : Nat → Pos
 P : Addr
 cls : List Addr
 xcs : List Addr
 an : List Str
 fa : Nat → Addr
 sa : Addr
 so : Obj
structure Idx where
 ρ : List Addr
 imm : List (Addr × Obj)
structure Idx.Le (a b : Idx) : Prop where
 pre : ∃ t, b.ρ = a.ρ ++ t
 sub : ∀ p ∈ a.imm, p ∈ b.imm
theorem Idx.Le.refl (a : Idx) : a.Le a := ⟨⟨[], by simp⟩, fun _ h => h⟩
theorem Idx.Le.trans {a b c : Idx} (x : a.Le b) (y : b.Le c) : a.Le c := by
 obtain ⟨⟨t, ht⟩, hi⟩ := x
 obtain ⟨⟨u, hu⟩, hj⟩ := y
 exact ⟨⟨t ++ u, by rw [hu, ht, List.append_assoc]⟩, fun p hp => hj p (hi p hp)⟩
theorem Idx.Le.at {a b : Idx} (x : a.Le b) {i : Nat} {d : Addr} (h : a.ρ[i]? = some d) : b.ρ[i]? = some d := by
 obtain ⟨⟨t, ht⟩, _⟩ := x
 rw [ht, List.getElem?_append_left (List.getElem?_eq_some_iff.mp h).1]; exact h
theorem Idx.Le.back {a b : Idx} (x : a.Le b) {i : Nat} (hi : i < a.ρ.length) : a.ρ[i]? = b.ρ[i]? := by
 obtain ⟨⟨t, ht⟩, _⟩ := x
 rw [ht, List.getElem?_append_left hi]
noncomputable abbrev tupO (vs : List Value) (n : Nat) : Obj := { cls := .type "tuple", data := .seq vs.toArray n }
noncomputable def cloObj (G : GW) (k : Nat) (cl : List (Str × Addr)) (o : Obj) (cdv : Value) : Prop :=
 ∃ doc pm ct, o.cls = .type "function" ∧ o.data = .func (fnX (G.CI k).name (G.CI k).qual (G.CI k).params (G.CI k).body (G.CI k).scope cl .none .none doc pm none cdv ct)
noncomputable def freeNames (sc : Scope) : List Str := (sc.names.filter fun p => p.2 == .free).map (·.1)
inductive RClo (G : GW) (ι : Idx) (k : Nat) (cs : List Nat) (u : Value) : Prop
 | mk (a : Addr) (o oc : Obj) (cl : List (Str × Addr)) (c : Addr) (cvs : Array Value) (t : Tok) (e : u = .ref a) (m : (a, o) ∈ ι.imm) (q : cloObj G k cl o (.ref c)) (m2 : (c, oc) ∈ ι.imm) (d : oc.data = .fields cvs) (d1 : cvs[1]? = some (.str (G.CI k).qual t))
   (n1 : cl.map (·.1) = freeNames (G.CI k).scope) (n2 : cl.map (fun p => some p.2) = cs.map (fun i => ι.ρ[i]?))
inductive RExn (G : GW) (ι : Idx) (C : Addr) (kind : Str) (u : Value) : Prop
 | mk (e dx : Addr) (o : Obj) (es : List DictEntry) (n : Nat) (t : Tok) (q : u = .ref e) (m : (e, o) ∈ ι.imm) (hC : C ∈ G.xcs) (nc : notCls o = true) (c : o.cls = .ref C) (d : o.dict = some dx) (m2 : (dx, dictOf es n) ∈ ι.imm) (g : getL "kind" es = some (some (.str kind t)))
inductive RSc (G : GW) (ns : List Int) (u : Value) : Prop
 | mk (vs : Array Value) (n : Nat) (q : u = .ref G.sa) (c : G.so.cls = .type "list") (d : G.so.data = .seq vs n) (h : IntsAre vs.toList ns)
inductive RTup (P : List Value → Prop) (ι : Idx) (u : Value) : Prop
 | mk (a : Addr) (vs : List Value) (n : Nat) (q : u = .ref a) (m : (a, tupO vs n) ∈ ι.imm) (r : P vs)
mutual
noncomputable def RV (G : GW) (ι : Idx) : V → Value → Prop
 | .none, u => u = .none
 | .bool b, u => u = .bool b
 | .int i, u => ∃ t, u = .int i t
 | .str s, u => ∃ t, u = .str s t
 | .tup xs, u => RTup (fun vs => RVs G ι xs vs) ι u
 | .ref i, u => ∃ a, u = .ref a ∧ ι.ρ[i]? = some a
 | .clo k cs, u => RClo G ι k cs u
 | .exn C kind, u => RExn G ι C kind u
 | .sc ns, u => RSc G ns u
noncomputable def RVs (G : GW) (ι : Idx) : List V → List Value → Prop
 | [], vs => vs = []
 | x :: xs, vs => ∃ v ws, vs = v :: ws ∧ RV G ι x v ∧ RVs G ι xs ws
end
section
variable {G : GW} {ι κ : Idx}
theorem RV.none : RV G ι .none .none := rfl
theorem RV.bool (b : Bool) : RV G ι (.bool b) (.bool b) := rfl
theorem RV.int (i : Int) (t : Tok) : RV G ι (.int i) (.int i t) := ⟨t, rfl⟩
theorem RV.str (s : Str) (t : Tok) : RV G ι (.str s) (.str s t) := ⟨t, rfl⟩
theorem RV.tup {a : Addr} {xs : List V} {vs : List Value} {n : Nat} (m : (a, tupO vs n) ∈ ι.imm) (r : RVs G ι xs vs) : RV G ι (.tup xs) (.ref a) := RTup.mk a vs n rfl m r
theorem RV.ref {i : Nat} {a : Addr} (e : ι.ρ[i]? = some a) : RV G ι (.ref i) (.ref a) := ⟨a, rfl, e⟩
theorem RVs.nil : RVs G ι [] [] := rfl
theorem RVs.cons {x : V} {v : Value} {xs : List V} {vs : List Value} (a : RV G ι x v) (b : RVs G ι xs vs) : RVs G ι (x :: xs) (v :: vs) := ⟨v, vs, rfl, a, b⟩
theorem map_mono (h : ι.Le κ) (cl : List (Str × Addr)) (cs : List Nat) (c : cl.map (fun p => some p.2) = cs.map (fun i => ι.ρ[i]?)) : cl.map (fun p => some p.2) = cs.map (fun i => κ.ρ[i]?) := by
 rw [c]
 refine List.map_congr_left fun i hi => ?_
 have : ι.ρ[i]? ∈ cl.map (fun p => some p.2) := by rw [c]; exact List.mem_map.mpr ⟨i, hi, rfl⟩
 obtain ⟨p, _, hp⟩ := List.mem_map.mp this
 rw [← hp, h.at hp.symm]
theorem RTup.mono {P Q : List Value → Prop} (h : ι.Le κ) (x : ∀ vs, P vs → Q vs) {u : Value} (r : RTup P ι u) : RTup Q κ u := by
 cases r with
 | mk a vs n e m r => exact .mk a vs n e (h.sub _ m) (x _ r)
theorem RClo.mono (h : ι.Le κ) {k : Nat} {cs : List Nat} {u : Value} (r : RClo G ι k cs u) : RClo G κ k cs u := by
 cases r with
 | mk a o oc cl c cvs t e m q m2 d e1 e2 e3 => exact .mk a o oc cl c cvs t e (h.sub _ m) q (h.sub _ m2) d e1 e2 (map_mono h cl cs e3)
theorem RExn.mono (h : ι.Le κ) {C : Addr} {kind : Str} {u : Value} (r : RExn G ι C kind u) : RExn G κ C kind u := by
 cases r with
 | mk e dx o es n t e1 m q z a b m2 g => exact .mk e dx o es n t e1 (h.sub _ m) q z a b (h.sub _ m2) g
theorem RV.mono2 (h : ι.Le κ) : (∀ x u, RV G ι x u → RV G κ x u) ∧ ∀ xs us, RVs G ι xs us → RVs G κ xs us := by
 have key := fun P1 P2 a b c d e f g i j k l => And.intro (@V.rec P1 P2 a b c d e f g i j k l) (@V.rec_1 P1 P2 a b c d e f g i j k l)
 refine key (fun x => ∀ u, RV G ι x u → RV G κ x u) (fun xs => ∀ us, RVs G ι xs us → RVs G κ xs us) (fun _ r => r) (fun _ _ r => r) (fun _ _ r => r) (fun _ _ r => r) (fun xs ih u r => RTup.mono h ih r)
  (fun i u r => ?_) (fun k cs u r => RClo.mono h r) (fun C kd u r => RExn.mono h r) (fun _ _ r => r) (fun _ r => r) (fun x xs i1 i2 u r => ?_)
 ·obtain ⟨a, e, m⟩ := r; exact ⟨a, e, h.at m⟩
 ·obtain ⟨v, ws, e, a, b⟩ := r; exact ⟨v, ws, e, i1 _ a, i2 _ b⟩
theorem RV.mono (h : ι.Le κ) {x : V} {v : Value} : RV G ι x v → RV G κ x v := (RV.mono2 h).1 x v
theorem RVs.mono (h : ι.Le κ) {xs : List V} {vs : List Value} : RVs G ι xs vs → RVs G κ xs vs := (RV.mono2 h).2 xs vs
theorem RVs.length {xs : List V} {vs : List Value} (p : RVs G ι xs vs) : xs.length = vs.length := by
 induction xs generalizing vs with
 | nil => rw [show vs = [] from p]; rfl
 | cons x xs ih => obtain ⟨v, ws, e, _, b⟩ := p; rw [e]; exact congrArg Nat.succ (ih b)
theorem RVs.get {xs : List V} {vs : List Value} (p : RVs G ι xs vs) {i : Nat} {x : V} (q : xs[i]? = some x) : ∃ v, vs[i]? = some v ∧ RV G ι x v := by
 induction xs generalizing vs i with
 | nil => exact nomatch (show Option.none = some x from q)
 | cons y xs ih =>
  obtain ⟨v, ws, e, a, b⟩ := p
  subst e
  cases i with
  | zero => exact ⟨v, rfl, (Option.some.inj (show some y = some x from q)) ▸ a⟩
  | succ i => exact ih b q
theorem RVs.append {xs ys : List V} {vs ws : List Value} (p : RVs G ι xs vs) (q : RVs G ι ys ws) : RVs G ι (xs ++ ys) (vs ++ ws) := by
 induction xs generalizing vs with
 | nil => rw [show vs = [] from p]; exact q
 | cons x xs ih => obtain ⟨v, us, rfl, a, b⟩ := p; exact ⟨v, us ++ ws, rfl, a, ih b⟩
theorem RVs.take {xs : List V} {vs : List Value} (n : Nat) (p : RVs G ι xs vs) : RVs G ι (xs.take n) (vs.take n) := by
 induction xs generalizing vs n with
 | nil => rw [show vs = [] from p, List.take_nil, List.take_nil]; exact rfl
 | cons x xs ih =>
  obtain ⟨v, us, rfl, a, b⟩ := p
  cases n with
  | zero => exact rfl
  | succ n => exact ⟨v, us.take n, rfl, a, ih n b⟩
theorem RVs.reverse {xs : List V} {vs : List Value} (p : RVs G ι xs vs) : RVs G ι xs.reverse vs.reverse := by
 induction xs generalizing vs with
 | nil => rw [show vs = [] from p]; exact rfl
 | cons x xs ih =>
  obtain ⟨v, us, rfl, a, b⟩ := p
  rw [List.reverse_cons, List.reverse_cons]; exact RVs.append (ih b) (.cons a .nil)
theorem RVs.set {xs : List V} {vs : List Value} (i : Nat) {x : V} {v : Value} (p : RVs G ι xs vs) (r : RV G ι x v) : RVs G ι (xs.set i x) (vs.set i v) := by
 induction xs generalizing vs i with
 | nil => rw [show vs = [] from p]; exact rfl
 | cons y xs ih =>
  obtain ⟨w, us, rfl, a, b⟩ := p
  cases i with
  | zero => exact ⟨v, us, rfl, r, b⟩
  | succ i => exact ⟨w, us.set i v, rfl, a, ih i b⟩
end
noncomputable def RDs (G : GW) (ι : Idx) : List (Str × V) → List DictEntry → Prop
 | [], ds => ds = []
 | (x, v) :: es, ds => ∃ t u ds', ds = ⟨PyData.keyHash G.w.params x, .str x t, u⟩ :: ds' ∧ RV G ι v u ∧ RDs G ι es ds'
section
variable {G : GW} {ι κ : Idx}
theorem RDs.nil : RDs G ι [] [] := rfl
theorem RDs.cons {x : Str} {t : Tok} {v : V} {u : Value} {es : List (Str × V)} {ds : List DictEntry} (a : RV G ι v u) (b : RDs G ι es ds) : RDs G ι ((x, v) :: es) (⟨PyData.keyHash G.w.params x, .str x t, u⟩ :: ds) := ⟨t, u, ds, rfl, a, b⟩
theorem RDs.mono (h : ι.Le κ) {es : List (Str × V)} {ds : List DictEntry} (p : RDs G ι es ds) : RDs G κ es ds := by
 induction es generalizing ds with
 | nil => exact p
 | cons x es ih => obtain ⟨t, u, ds', e, a, b⟩ := p; exact ⟨t, u, ds', e, a.mono h, ih b⟩
end
noncomputable def RTab (G : GW) (ι : Idx) (k : Nat) (ps : Array Value) : Prop :=
 TriplesOk ps.toList ∧ (∀ j, k ≤ j → codeAmong (G.CP j) ps.toList = none) ∧
 ∀ j, j < k → ∃ c oc cvs t, codeAmong (G.CP j) ps.toList = some (.ref c) ∧ (c, oc) ∈ ι.imm ∧ oc.data = .fields cvs ∧ cvs[1]? = some (.str (G.CI j).qual t)
noncomputable def ORel (G : GW) (ι : Idx) : LO → Obj → Prop
 | .lst xs, o => ∃ vs n, o = listOf vs.toArray n ∧ RVs G ι xs vs
 | .dct es, o => ∃ ds n, o = dictOf ds n ∧ RDs G ι es ds
 | .ins C d, o => C ∈ G.cls ∧ ∃ dx, ι.ρ[d]? = some dx ∧ o = instObj C dx
 | .cel none, o => o.data = .cell none
 | .cel (some x), o => ∃ v, o.data = .cell (some v) ∧ RV G ι x v
 | .tab k, o => ∃ ps, o = tabObj ps ∧ RTab G ι k ps
theorem ORel.mono {G : GW} {ι κ : Idx} (h : ι.Le κ) {l : LO} {o : Obj} (r : ORel G ι l o) : ORel G κ l o := by
 cases l with
 | lst xs => obtain ⟨vs, n, e, r⟩ := r; exact ⟨vs, n, e, r.mono h⟩
 | dct es => obtain ⟨vs, n, e, r⟩ := r; exact ⟨vs, n, e, r.mono h⟩
 | ins C d => obtain ⟨q, dx, e, r⟩ := r; exact ⟨q, dx, h.at e, r⟩
 | cel v =>
  cases v with
  | none => exact r
  | some x => obtain ⟨v, e, r⟩ := r; exact ⟨v, e, r.mono h⟩
 | tab k =>
  obtain ⟨ps, e, r1, r2, r3⟩ := r
  refine ⟨ps, e, r1, r2, fun j hj => ?_⟩
  obtain ⟨c, oc, cvs, t, a1, a2, a3⟩ := r3 j hj
  exact ⟨c, oc, cvs, t, a1, h.sub _ a2, a3⟩
structure Cx where
 A : Around
 g : Heap
 L : Addr
 qual : Str
 scope : Scope
 fa : Addr
 cd : Value
 cl : List (Str × Addr)
 names : List Str
 cids : List (Str × Nat)
 below : List (Addr × (Str → Option Value))
 outer : List Env
 S : Shared
noncomputable abbrev Cx.env (c : Cx) : Env := envX c.qual c.scope c.L c.fa c.cd c.cl
noncomputable def Cx.fas (c : Cx) : List Addr := c.L :: c.below.map (·.1)
noncomputable def Outs : List Env → List (Addr × (Str → Option Value)) → Prop
 | [], [] => True
 | e :: l, q :: r => e.scope.kind ≠ .module ∧ e.frame = some q.1 ∧ Outs l r
 | _, _ => False
structure Cx.Ok (G : GW) (c : Cx) (n : Nat) : Prop where
 X : G.K.In c.g
 T : Top G.p G.loose G.mean G.mg G.mb c.g
 fr : c.A.frames = some (c.env :: c.outer)
 hh : c.A.handled = none
 gd : c.A.guards = some []
 dep : c.A.depth + n < 900
 un : c.A.units + 20 * n < 9000
 hk : c.scope.kind = .function
 nm : ∀ x ∈ c.names, c.scope.names.lookup x = some .local ∧ (x == ("__debug__" : Str)) = false
 nn : c.names.Nodup
 cn : ∀ q ∈ c.cids, (c.scope.names.lookup q.1 = some .cell ∨ c.scope.names.lookup q.1 = some .free) ∧ (q.1 == ("__debug__" : Str)) = false ∧ (q.1 == ("__classdict__" : Str)) = false
 ab : ∀ a ∈ c.fas, c.g.objs.size ≤ a
 fd : c.fas.Nodup
 ou : Outs c.outer c.below
 sm : ∃ o, c.g.get? sysModules = some o
 sc : c.g.get? G.sa = some G.so
theorem Cx.Ok.le {G : GW} {c : Cx} {n m : Nat} (k : c.Ok G n) (h : m ≤ n) : c.Ok G m :=
 { k with dep := Nat.lt_of_le_of_lt (Nat.add_le_add_left h _) k.dep, un := Nat.lt_of_le_of_lt (Nat.add_le_add_left (Nat.mul_le_mul_left 20 h) _) k.un }
noncomputable def At (c : Cx) (hp : Heap) (a : Addr) (o : Obj) : Prop := hp.get? a = some o ∧ c.g.get? a = none ∧ a ∉ c.fas
structure Rep (G : GW) (c : Cx) (ι : Idx) (loc : Loc) (h : H) (s : Shared) : Prop where
 keep : ∀ b o, c.g.get? b = some o → s.heap.get? b = some o
 ns : ∃ m, s.heap.Ns c.L m ∧ ∀ (i : Nat) (x : Str) (v : V), c.names[i]? = some x → loc[i]? = some (some v) → ∃ u, m x = some u ∧ RV G ι v u
 bel : ∀ q ∈ c.below, s.heap.Ns q.1 q.2
 len : ι.ρ.length = h.length
 nd : ι.ρ.Nodup
 mu : ∀ (i : Nat) (a : Addr) (lo : LO), ι.ρ[i]? = some a → h[i]? = some lo → ∃ o, At c s.heap a o ∧ ORel G ι lo o
 im : ∀ p ∈ ι.imm, At c s.heap p.1 p.2
 dis : ∀ p ∈ ι.imm, p.1 ∉ ι.ρ
 cel : ∀ q ∈ c.cids, ∃ a, c.cl.lookup q.1 = some a ∧ ι.ρ[q.2]? = some a
 gens : s.gens = c.S.gens
 drawn : s.drawn = c.S.drawn
 os : s.os = c.S.os
 tb : ι.ρ[0]? = some G.P
noncomputable def Own (c : Cx) (ι : Idx) (a : Addr) : Prop := c.g.get? a = none ∧ a ∉ c.fas ∧ a ∉ ι.ρ ∧ ∀ p ∈ ι.imm, p.1 ≠ a
inductive FlT (c : Cx) (ι : Idx) (hp : Heap) (vs : Array Value) (e : Addr) (f : Option Addr) : Prop
 | mk (T : Addr) (oT : Obj) (ts : Array Value) (x1 : vs[1]? = some (.ref T)) (x2 : hp.get? T = some oT) (x3 : oT.data = .fields ts) (x4 : ts[3]? = some (f.elim Value.none fun a => rawInt a)) (x5 : Own c ι T) (x6 : T ≠ e)
noncomputable def FlAt (c : Cx) (ι : Idx) (hp : Heap) (vs : Array Value) (e : Addr) : Option (Option Addr) → Prop
 | none => vs[1]? = some .none
 | some f => FlT c ι hp vs e f
inductive ExcAt (G : GW) (c : Cx) (ι : Idx) (hp : Heap) (C : Addr) (k : Str) (e : Addr) (fl : Option (Option Addr)) : Prop
 | mk (oe : Obj) (vs : Array Value) (dx : Addr) (es : List DictEntry) (n : Nat) (t : Tok) (a1 : hp.get? e = some oe) (a2 : oe.cls = .ref C) (a3 : oe.dict = some dx) (a4 : oe.data = .fields vs) (a5 : vs.size = 6) (a6 : Own c ι e)
  (a7 : hp.get? dx = some (dictOf es n)) (a8 : Own c ι dx) (a9 : getL "kind" es = some (some (.str k t))) (a10 : FlAt c ι hp vs e fl)
noncomputable def RepXL (G : GW) (c : Cx) (ι : Idx) (loc : Loc) (h : H) (C : Addr) (k : Str) (e : Addr) (s : Shared) : Prop :=
 ∃ fl, Rep G c ι loc h s ∧ ExcAt G c ι s.heap C k e fl ∧ (fl = none ∨ fl = some none ∨ fl = some (some c.L))
noncomputable def RepX (G : GW) (c : Cx) (ι : Idx) (h : H) (C : Addr) (k : Str) (e : Addr) (s : Shared) : Prop :=
 ∃ loc fl, Rep G c ι loc h s ∧ ExcAt G c ι s.heap C k e fl ∧ (fl = none ∨ fl = some none ∨ fl = some (some c.L))
set_option genCtorIdx true in
inductive Res (α : Type) where
 | ok (a : α) (h : H)
 | exc (C : Addr) (k : Str) (h : H)
 | bad
noncomputable def Res.bind {α β : Type} : Res α → (α → H → Res β) → Res β
 | .ok a h, f => f a h
 | .exc C k h, _ => .exc C k h
 | .bad, _ => .bad
noncomputable def Res.map {α β : Type} (f : α → β) : Res α → Res β
 | .ok a h => .ok (f a) h
 | .exc C k h => .exc C k h
 | .bad => .bad
section
variable {α β γ δ : Type} (G : GW) (c : Cx) (ι : Idx) (loc : Loc) (h : H)
noncomputable def Sim (lc : β → Loc) (R : Idx → β → α → Prop) (t : Sem α) (r : Res β) : Prop :=
 ∀ s, Rep G c ι loc h s → ∀ (Q : α → Shared → Prop) (E : Value → Shared → Prop),
  (∀ b h' ι' s' a, r = .ok b h' → ι.Le ι' → Rep G c ι' (lc b) h' s' → R ι' b a → Q a s') →
  (∀ C k h' ι' s' e, r = .exc C k h' → ι.Le ι' → RepX G c ι' h' C k e s' → E (.ref e) s') →
  r ≠ .bad → wpAny (model G.prog G.w) c.A t Q E s
end
section
variable {α β γ δ : Type} {G : GW} {c : Cx} {ι : Idx} {loc : Loc} {h : H} {lc : β → Loc} {lc' : γ → Loc} {R : Idx → β → α → Prop} {R' : Idx → γ → δ → Prop}
theorem Sim.bind {t : Sem α} {r : Res β} {k : α → Sem δ} {f : β → H → Res γ} (x : Sim G c ι loc h lc R t r)
  (y : ∀ b h' ι' a, r = .ok b h' → ι.Le ι' → R ι' b a → Sim G c ι' (lc b) h' lc' R' (k a) (f b h')) : Sim G c ι loc h lc' R' (t >>= k) (r.bind f) := by
 intro s rep Q E hok hex hnb
 refine wpAny_bind (x s rep _ _ (fun b h' ι' s' a e l rep' hr => ?_) (fun C k h' ι' s' x e l rx => ?_) ?_)
 ·refine y b h' ι' a e l hr s' rep' Q E (fun b2 h2 ι2 s2 a2 e2 l2 rep2 hr2 => ?_) (fun C k h2 ι2 s2 x2 e2 l2 rx2 => ?_) ?_
  ·exact hok b2 h2 ι2 s2 a2 (by rw [e]; exact e2) (l.trans l2) rep2 hr2
  ·exact hex C k h2 ι2 s2 x2 (by rw [e]; exact e2) (l.trans l2) rx2
  ·intro q; apply hnb; rw [e]; exact q
 ·exact hex C k h' ι' s' x (by rw [e]; rfl) l rx
 ·intro q; apply hnb; rw [q]; rfl
theorem Sim.pure {a : α} {b : β} (hl : lc b = loc) (hr : R ι b a) : Sim G c ι loc h lc R (pure a) (.ok b h) := by
 intro s rep Q E hok _ _
 exact wpAny_pure (hok b h ι s a rfl (.refl _) (by rw [hl]; exact rep) hr)
theorem Sim.map {R2 : Idx → γ → α → Prop} {t : Sem α} {r : Res β} {f : β → γ} (x : Sim G c ι loc h lc R t r) (hl : ∀ b, lc' (f b) = lc b) (hr : ∀ ι' b a, ι.Le ι' → R ι' b a → R2 ι' (f b) a) :
  Sim G c ι loc h lc' R2 t (r.map f) := by
 intro s rep Q E hok hex hnb
 refine x s rep _ _ (fun b h' ι' s' a e l rep' hr' => ?_) (fun C k h' ι' s' x e l rx => ?_) ?_
 ·exact hok (f b) h' ι' s' a (by rw [e]; rfl) l (by rw [hl]; exact rep') (hr _ _ _ l hr')
 ·exact hex C k h' ι' s' x (by rw [e]; rfl) l rx
 ·intro q; apply hnb; rw [q]; rfl
theorem Sim.mono {R2 : Idx → β → α → Prop} {t : Sem α} {r : Res β} (x : Sim G c ι loc h lc R t r) (hr : ∀ ι' b a, ι.Le ι' → R ι' b a → R2 ι' b a) : Sim G c ι loc h lc R2 t r := by
 intro s rep Q E hok hex hnb
 exact x s rep _ _ (fun b h' ι' s' a e l rep' hr' => hok b h' ι' s' a e l rep' (hr _ _ _ l hr')) hex hnb
theorem Sim.of_wp {t : Sem α} {r : Res β} (x : ∀ s, Rep G c ι loc h s → ∀ (Q : α → Shared → Prop) (E : Value → Shared → Prop),
  (∀ b h' ι' s' a, r = .ok b h' → ι.Le ι' → Rep G c ι' (lc b) h' s' → R ι' b a → Q a s') → (∀ C k h' ι' s' e, r = .exc C k h' → ι.Le ι' → RepX G c ι' h' C k e s' → E (.ref e) s') → r ≠ .bad →
  wpAny (model G.prog G.w) c.A t Q E s) : Sim G c ι loc h lc R t r := x
theorem Sim.bad {t : Sem α} : Sim G c ι loc h lc R t .bad := fun _ _ _ _ _ _ h => absurd rfl h
theorem Sim.holding {vs : List Value} {t : Sem α} {r : Res β} (x : Sim G c ι loc h lc R t r) : Sim G c ι loc h lc R (holding vs t) r :=
 fun s rep Q E a b d => wpAny_holding (x s rep Q E a b d)
theorem Sim.standAt {p : Pos} {t : Sem α} {r : Res β} (x : Sim G c ι loc h lc R t r) : Sim G c ι loc h lc R (standAt p >>= fun _ => t) r :=
 fun s rep Q E a b d => wpAny_bind (wpAny_standAt (x s rep Q E a b d))
theorem Sim.operate {vs : List Value} {t : Sem Value} {R : Idx → β → Value → Prop} {r : Res β} (x : Sim G c ι loc h lc R t r) : Sim G c ι loc h lc R (operate vs t) r :=
 fun s rep Q E a b d => fun Γ p hΓ => by
  rw [Sem.wp_operate]
  exact x s rep Q E a b d Γ p hΓ
end
theorem Rep.toks {G : GW} {c : Cx} {ι : Idx} {loc : Loc} {h : H} {s : Shared} (r : Rep G c ι loc h s) (tk : Nat) : Rep G c ι loc h { s with toks := tk } := { r with }
theorem At.keeps {c : Cx} {hp hp' : Heap} {a : Addr} {o : Obj} (x : At c hp a o) (k : ∀ b o, hp.get? b = some o → hp'.get? b = some o) : At c hp' a o := ⟨k _ _ x.1, x.2⟩
theorem Rep.grow {G : GW} {c : Cx} {ι : Idx} {loc : Loc} {h : H} {s : Shared} (r : Rep G c ι loc h s) {hp : Heap} {tk : Nat} (k : ∀ b o, s.heap.get? b = some o → hp.get? b = some o) :
  Rep G c ι loc h { s with heap := hp, toks := tk } where
 keep := fun b o e => k _ _ (r.keep b o e)
 ns := r.ns.imp fun m z => ⟨z.1.keeps k, z.2⟩
 bel := fun q hq => (r.bel q hq).keeps k
 len := r.len
 nd := r.nd
 mu := fun i a lo e1 e2 => (r.mu i a lo e1 e2).imp fun o z => ⟨z.1.keeps k, z.2⟩
 im := fun p hp => (r.im p hp).keeps k
 dis := r.dis
 cel := r.cel
 gens := r.gens
 drawn := r.drawn
 os := r.os
 tb := r.tb
theorem Rep.lt {G : GW} {c : Cx} {ι : Idx} {loc : Loc} {h : H} {s : Shared} (r : Rep G c ι loc h s) {a : Addr} (ha : a ∈ ι.ρ) : a < s.heap.objs.size := by
 obtain ⟨i, hi, e⟩ := List.getElem_of_mem ha
 have e2 : ι.ρ[i]? = some a := by rw [List.getElem?_eq_getElem hi, e]
 have hl : i < h.length := r.len ▸ hi
 obtain ⟨o, x, _⟩ := r.mu i a h[i] e2 (List.getElem?_eq_getElem hl)
 exact Heap.lt_size x.1
theorem Rep.ltI {G : GW} {c : Cx} {ι : Idx} {loc : Loc} {h : H} {s : Shared} (r : Rep G c ι loc h s) {p : Addr × Obj} (hp : p ∈ ι.imm) : p.1 < s.heap.objs.size := Heap.lt_size (r.im p hp).1
theorem Rep.ltF {G : GW} {c : Cx} {ι : Idx} {loc : Loc} {h : H} {s : Shared} (r : Rep G c ι loc h s) {a : Addr} (ha : a ∈ c.fas) : a < s.heap.objs.size := by
 rcases List.mem_cons.mp ha with rfl | ha
 ·obtain ⟨m, n, _⟩ := r.ns; exact n.lt
 ·obtain ⟨q, hq, rfl⟩ := List.mem_map.mp ha; exact (r.bel q hq).lt
theorem Rep.freshG {G : GW} {c : Cx} {ι : Idx} {loc : Loc} {h : H} {s : Shared} (r : Rep G c ι loc h s) {a : Addr} (ha : s.heap.objs.size ≤ a) : c.g.get? a = none := by
 cases q : c.g.get? a with
 | none => rfl
 | some o => exact absurd (Heap.lt_size (r.keep a o q)) (Nat.not_lt.mpr ha)
theorem Rep.freshF {G : GW} {c : Cx} {ι : Idx} {loc : Loc} {h : H} {s : Shared} (r : Rep G c ι loc h s) {a : Addr} (ha : s.heap.objs.size ≤ a) : a ∉ c.fas := fun q => absurd (r.ltF q) (Nat.not_lt.mpr ha)
theorem Rep.freshR {G : GW} {c : Cx} {ι : Idx} {loc : Loc} {h : H} {s : Shared} (r : Rep G c ι loc h s) {a : Addr} (ha : s.heap.objs.size ≤ a) : a ∉ ι.ρ := fun q => absurd (r.lt q) (Nat.not_lt.mpr ha)
theorem Rep.freshI {G : GW} {c : Cx} {ι : Idx} {loc : Loc} {h : H} {s : Shared} (r : Rep G c ι loc h s) {a : Addr} (ha : s.heap.objs.size ≤ a) : ∀ p ∈ ι.imm, p.1 ≠ a := fun p hp q => absurd (r.ltI hp) (Nat.not_lt.mpr (q ▸ ha))
theorem Rep.own {G : GW} {c : Cx} {ι : Idx} {loc : Loc} {h : H} {s : Shared} (r : Rep G c ι loc h s) {a : Addr} (ha : s.heap.objs.size ≤ a) : Own c ι a := ⟨r.freshG ha, r.freshF ha, r.freshR ha, r.freshI ha⟩
theorem Rep.addI {G : GW} {c : Cx} {ι : Idx} {loc : Loc} {h : H} {s : Shared} (r : Rep G c ι loc h s) {hp : Heap} {tk : Nat} (k : ∀ b o, s.heap.get? b = some o → hp.get? b = some o)
  {a : Addr} {o : Obj} (ho : hp.get? a = some o) (ha : Own c ι a) :
  Rep G c ⟨ι.ρ, (a, o) :: ι.imm⟩ loc h { s with heap := hp, toks := tk } ∧ ι.Le ⟨ι.ρ, (a, o) :: ι.imm⟩ := by
 have le : ι.Le ⟨ι.ρ, (a, o) :: ι.imm⟩ := ⟨⟨[], by simp⟩, fun p hp => .tail _ hp⟩
 have r' := r.grow (tk := tk) k
 refine ⟨{ r' with ns := ?_, mu := ?_, im := ?_, dis := ?_ }, le⟩
 ·obtain ⟨m, n, x⟩ := r'.ns
  exact ⟨m, n, fun i y v e1 e2 => (x i y v e1 e2).imp fun u z => ⟨z.1, z.2.mono le⟩⟩
 ·exact fun i b lo e1 e2 => (r'.mu i b lo e1 e2).imp fun ob z => ⟨z.1, z.2.mono le⟩
 ·intro p hp
  rcases List.mem_cons.mp hp with rfl | hp
  ·exact ⟨ho, ha.1, ha.2.1⟩
  ·exact r'.im p hp
 ·intro p hp
  rcases List.mem_cons.mp hp with rfl | hp
  ·exact ha.2.2.1
  ·exact r'.dis p hp
theorem Rep.addM {G : GW} {c : Cx} {ι : Idx} {loc : Loc} {h : H} {s : Shared} (r : Rep G c ι loc h s) {hp : Heap} {tk : Nat} (k : ∀ b o, s.heap.get? b = some o → hp.get? b = some o)
  {a : Addr} {o : Obj} {lo : LO} (ho : hp.get? a = some o) (ha : Own c ι a) (hr : ORel G ⟨ι.ρ ++ [a], ι.imm⟩ lo o) :
  Rep G c ⟨ι.ρ ++ [a], ι.imm⟩ loc (h ++ [lo]) { s with heap := hp, toks := tk } ∧ ι.Le ⟨ι.ρ ++ [a], ι.imm⟩ := by
 have le : ι.Le ⟨ι.ρ ++ [a], ι.imm⟩ := ⟨⟨[a], rfl⟩, fun p hp => hp⟩
 have r' := r.grow (tk := tk) k
 refine ⟨{ r' with ns := ?_, mu := ?_, im := ?_, dis := ?_, len := ?_, nd := ?_, cel := ?_, tb := le.at r'.tb }, le⟩
 ·obtain ⟨m, n, x⟩ := r'.ns
  exact ⟨m, n, fun i y v e1 e2 => (x i y v e1 e2).imp fun u z => ⟨z.1, z.2.mono le⟩⟩
 ·simp [r.len]
 ·rw [List.nodup_append]
  refine ⟨r.nd, by simp, fun x hx y hy => ?_⟩
  rw [List.mem_singleton.mp hy]
  intro q; subst q; exact ha.2.2.1 hx
 ·intro i b l e1 e2
  by_cases hi : i < h.length
  ·have hi' : i < ι.ρ.length := r.len.symm ▸ hi
   rw [List.getElem?_append_left hi'] at e1
   rw [List.getElem?_append_left hi] at e2
   obtain ⟨ob, a1, a2⟩ := r'.mu i b l e1 e2
   exact ⟨ob, a1, a2.mono le⟩
  ·have hb := (List.getElem?_eq_some_iff.mp e2).1
   simp only [List.length_append, List.length_cons, List.length_nil] at hb
   have hi2 : i = h.length := Nat.le_antisymm (Nat.le_of_lt_succ hb) (Nat.not_lt.mp hi)
   subst hi2
   rw [List.getElem?_append_right (Nat.le_refl _)] at e2
   rw [List.getElem?_append_right (by rw [r.len]; exact Nat.le_refl _), r.len] at e1
   simp only [Nat.sub_self, List.getElem?_cons_zero, Option.some.injEq] at e1 e2
   subst e1 e2
   exact ⟨o, ⟨ho, ha.1, ha.2.1⟩, hr⟩
 ·exact r'.im
 ·intro p hp q
  rcases List.mem_append.mp q with q | q
  ·exact r'.dis p hp q
  ·exact ha.2.2.2 p hp (List.mem_singleton.mp q)
 ·intro q hq
  obtain ⟨b, e1, e2⟩ := r'.cel q hq
  exact ⟨b, e1, le.at e2⟩
theorem Rep.upd {G : GW} {c : Cx} {ι : Idx} {loc : Loc} {h : H} {s : Shared} (r : Rep G c ι loc h s) {hp : Heap} {tk : Nat} {i : Nat} {a : Addr} {o : Obj} {lo : LO} (hi : ι.ρ[i]? = some a)
  (hs : Heap.SameBut a s.heap hp) (ho : hp.get? a = some o) (hr : ORel G ι lo o) :
  Rep G c ι loc (h.set i lo) { s with heap := hp, toks := tk } := by
 have hih : i < h.length := r.len ▸ (List.getElem?_eq_some_iff.mp hi).1
 obtain ⟨oa, xa, _⟩ := r.mu i a h[i] hi (List.getElem?_eq_getElem hih)
 have hmem : a ∈ ι.ρ := List.mem_of_getElem? hi
 refine ⟨fun b ob e => ?_, ?_, fun q hq => ?_, by simp [r.len], r.nd, ?_, ?_, r.dis, r.cel, r.gens, r.drawn, r.os, r.tb⟩
 ·refine (hs.2 b fun q => ?_).trans (r.keep b ob e)
  rw [q, xa.2.1] at e; cases e
 ·obtain ⟨m, n, x⟩ := r.ns
  exact ⟨m, n.sameBut hs (fun q => xa.2.2 (q ▸ List.mem_cons_self)), x⟩
 ·exact (r.bel q hq).sameBut hs fun z => xa.2.2 (z ▸ List.mem_cons_of_mem _ (List.mem_map_of_mem hq))
 ·intro j b l e1 e2
  by_cases hj : j = i
  ·subst hj
   rw [hi] at e1
   cases e1
   rw [List.getElem?_set_self hih] at e2
   cases e2
   exact ⟨o, ⟨ho, xa.2⟩, hr⟩
  ·rw [List.getElem?_set_ne (Ne.symm hj)] at e2
   obtain ⟨ob, y, z⟩ := r.mu j b l e1 e2
   have hne : b ≠ a := by
    intro q; subst q
    obtain ⟨h1, e1'⟩ := List.getElem?_eq_some_iff.mp e1
    obtain ⟨h2, e2'⟩ := List.getElem?_eq_some_iff.mp hi
    exact hj ((List.getElem_inj r.nd).mp (e1'.trans e2'.symm))
   exact ⟨ob, ⟨(hs.2 b hne).trans y.1, y.2⟩, z⟩
 ·intro p hp'
  have y := r.im p hp'
  exact ⟨(hs.2 p.1 fun q => r.dis p hp' (q ▸ hmem)).trans y.1, y.2⟩
theorem Rep.store {G : GW} {c : Cx} {ι : Idx} {loc : Loc} {h : H} {s : Shared} {n : Nat} (k : c.Ok G n) (r : Rep G c ι loc h s) {hp : Heap} {tk : Nat} {i : Nat} {x : Str} {v : V} {u : Value}
  (hx : c.names[i]? = some x) (hs : Heap.SameBut c.L s.heap hp) (hn : ∃ m : Str → Option Value, (∀ (i : Nat) (x : Str) (v : V), c.names[i]? = some x → loc[i]? = some (some v) → ∃ u, m x = some u ∧ RV G ι v u) ∧ hp.Ns c.L (fun y => if y = x then some u else m y)) (hr : RV G ι v u) :
  Rep G c ι (loc.set i (some v)) h { s with heap := hp, toks := tk } := by
 refine ⟨fun b ob e => ?_, ?_, fun q hq => ?_, r.len, r.nd, ?_, ?_, r.dis, r.cel, r.gens, r.drawn, r.os, r.tb⟩
 ·exact (hs.2 b fun q => absurd (Heap.lt_size e) (Nat.not_lt.mpr (q ▸ k.ab c.L List.mem_cons_self))).trans (r.keep b ob e)
 ·obtain ⟨m, y, n⟩ := hn
  refine ⟨_, n, fun j z w e1 e2 => ?_⟩
  by_cases hj : j = i
  ·subst hj
   rw [hx] at e1
   cases e1
   have hl : j < loc.length := by
    have := (List.getElem?_eq_some_iff.mp e2).1
    simpa using this
   rw [List.getElem?_set_self hl] at e2
   cases e2
   exact ⟨u, by simp, hr⟩
  ·rw [List.getElem?_set_ne (Ne.symm hj)] at e2
   obtain ⟨w', f1, f2⟩ := y j z w e1 e2
   have hne : z ≠ x := by
    intro q; subst q
    obtain ⟨h1, e1'⟩ := List.getElem?_eq_some_iff.mp e1
    obtain ⟨h2, e2'⟩ := List.getElem?_eq_some_iff.mp hx
    exact hj ((List.getElem_inj k.nn).mp (e1'.trans e2'.symm))
   exact ⟨w', by rw [if_neg hne]; exact f1, f2⟩
 ·refine (r.bel q hq).sameBut hs fun z => ?_
  have := (List.nodup_cons.mp k.fd).1
  exact this (z ▸ List.mem_map_of_mem hq)
 ·intro j b l e1 e2
  obtain ⟨ob, y, z⟩ := r.mu j b l e1 e2
  exact ⟨ob, ⟨(hs.2 b fun q => y.2.2 (q ▸ List.mem_cons_self)).trans y.1, y.2⟩, z⟩
 ·intro p hp'
  have y := r.im p hp'
  exact ⟨(hs.2 p.1 fun q => y.2.2 (q ▸ List.mem_cons_self)).trans y.1, y.2⟩
inductive FrV (G : GW) (c : Cx) (ι : Idx) (loc : Loc) (s : Shared) : Prop
 | mk (m : Str → Option Value) (F : Fr c.g c.L s.heap m) (hm : ∀ (i : Nat) (x : Str) (v : V), c.names[i]? = some x → loc[i]? = some (some v) → ∃ u, m x = some u ∧ RV G ι v u)
theorem Rep.fr {G : GW} {c : Cx} {ι : Idx} {loc : Loc} {h : H} {s : Shared} {n : Nat} (k : c.Ok G n) (r : Rep G c ι loc h s) : FrV G c ι loc s := by
 obtain ⟨m, n, x⟩ := r.ns
 exact ⟨m, ⟨n, r.keep, k.ab c.L List.mem_cons_self⟩, x⟩
theorem Rep.news1 {c : Cx} {s : Shared} {a : Addr} {o : Obj} (x : At c s.heap a o) : News c.g c.L s.heap [(a, o)] := fun p hp => by
 rw [List.mem_singleton.mp hp]
 exact ⟨x.1, fun q => x.2.2 (by rw [show a = c.L from q]; exact List.mem_cons_self), x.2.1⟩
set_option genCtorIdx true in
inductive BF where
 | len | min | max | int | list | sum | chr | ord | str | isStr | abs
set_option genCtorIdx true in
inductive BM where
 | append | pop | reverse | lower | replace | find | lstrip | index | join
inductive Ex where
 | k (v : V)
 | g (x : Str) (i : Int)
 | l (i : Nat)
 | ce (j : Nat)
 | bin (op : Operator) (a b : Ex)
 | neg (a : Ex)
 | nt (a : Ex)
 | cmp (op : CmpOp) (a b : Ex)
 | cmp2 (o1 o2 : CmpOp) (a b c : Ex)
 | bop (op : BoolOp) (xs : List Ex)
 | ite (c a b : Ex)
 | tup (xs : List Ex)
 | lst (xs : List Ex)
 | dct (x : Str) (e : Ex)
 | dct0
 | sub (a i : Ex)
 | slc (a : Ex) (lo hi : Option Ex)
 | att (a : Ex) (n : Str)
 | call (f : Nat) (xs : List Ex)
 | new (C f : Nat) (xs : List Ex)
 | bf (b : BF) (xs : List Ex)
 | bm (b : BM) (o : Ex) (xs : List Ex)
 | mc (C f : Nat) (n : Str) (o : Ex) (xs : List Ex)
 | mi (n : Str) (o : Ex) (xs : List Ex)
 | js (xs : List Ex)
 | fmt (e : Ex)
 | cPow (n : Ex) (j : Nat) (s : Str)
 | stop
 | rng (e : Ex)
 | psl (lo hi : Option Ex)
inductive St where
 | asg (i : Nat) (e : Ex)
 | asgC (j : Nat) (e : Ex)
 | asgA (o : Ex) (n : Str) (e : Ex)
 | asgS (o i e : Ex)
 | asgT (is : List Nat) (e : Ex)
 | asgI (i : Nat) (a : Ex)
 | shr (i : Nat) (e : Ex)
 | ex (e : Ex)
 | ret (e : Ex)
 | ite (c : Ex) (a b : List St)
 | whl (c : Ex) (b : List St)
 | forL (i : Nat) (e : Ex) (b : List St)
 | forT (is : List Nat) (e : Ex) (b : List St)
 | forR (i : Nat) (e : Ex) (b : List St)
 | rai (C : Nat) (xs : List Ex)
 | tryE (e : Ex) (x i : Nat) (hs : List (Nat × Str))
 | defn (i k : Nat)
 | pas
 | stop
structure Orc where
 fn : Nat → List V → H → Res V
 cl : Nat → List Nat → List V → H → Res V
mutual
noncomputable def V.plain : V → Bool
 | .none => true
 | .bool _ => true
 | .int _ => true
 | .str x => PyData.strOk x
 | .tup xs => V.plains xs
 | _ => false
noncomputable def V.plains : List V → Bool
 | [] => true
 | x :: xs => V.plain x && V.plains xs
end
mutual
noncomputable def V.py : V → PyData
 | .bool b => .bool b
 | .int i => .int i
 | .str x => .str x
 | .tup xs => .tuple (V.pys xs)
 | _ => .none
noncomputable def V.pys : List V → List PyData
 | [] => []
 | x :: xs => V.py x :: V.pys xs
end
mutual
noncomputable def V.dep : V → Nat
 | .tup xs => V.deps xs + 1
 | _ => 0
noncomputable def V.deps : List V → Nat
 | [] => 0
 | x :: xs => Nat.max (V.dep x) (V.deps xs)
end
noncomputable def newM (h : H) (lo : LO) : Res V := .ok (.ref h.length) (h ++ [lo])
noncomputable def okP (c : Prop) [Decidable c] (r : Res V) : Res V := if c then r else .bad
noncomputable def V.i? : V → Option Int
 | .int i => some i
 | _ => Option.none
noncomputable def V.s? : V → Option Str
 | .str x => some x
 | _ => Option.none
noncomputable def V.r? : V → Option Nat
 | .ref r => some r
 | _ => Option.none
noncomputable def V.t? : V → Option (List V)
 | .tup xs => some xs
 | _ => Option.none
theorem i_of {v : V} {i : Int} (e : v.i? = some i) : v = .int i := by cases v <;> cases e; rfl
theorem s_of {v : V} {i : Str} (e : v.s? = some i) : v = .str i := by cases v <;> cases e; rfl
theorem r_of {v : V} {i : Nat} (e : v.r? = some i) : v = .ref i := by cases v <;> cases e; rfl
theorem t_of {v : V} {i : List V} (e : v.t? = some i) : v = .tup i := by cases v <;> cases e; rfl
noncomputable def LO.l? : LO → Option (List V)
 | .lst xs => some xs
 | _ => none
noncomputable def LO.d? : LO → Option (List (Str × V))
 | .dct es => some es
 | _ => none
noncomputable def LO.n? : LO → Option (Addr × Nat)
 | .ins C d => some (C, d)
 | _ => none
noncomputable def lst? (h : H) (i : Nat) : Option (List V) := h[i]?.bind LO.l?
noncomputable def dct? (h : H) (i : Nat) : Option (List (Str × V)) := h[i]?.bind LO.d?
noncomputable def ins? (h : H) (i : Nat) : Option (Addr × Nat) := h[i]?.bind LO.n?
theorem lst_of {h : H} {i : Nat} {xs : List V} (e : lst? h i = some xs) : h[i]? = some (.lst xs) := by
 unfold lst? at e
 cases q : h[i]? with
 | none => rw [q] at e; cases e
 | some o => rw [q] at e; cases o <;> cases e; rfl
theorem dct_of {h : H} {i : Nat} {xs : List (Str × V)} (e : dct? h i = some xs) : h[i]? = some (.dct xs) := by
 unfold dct? at e
 cases q : h[i]? with
 | none => rw [q] at e; cases e
 | some o => rw [q] at e; cases o <;> cases e; rfl
theorem ins_of {h : H} {i C d : Nat} (e : ins? h i = some (C, d)) : h[i]? = some (.ins C d) := by
 unfold ins? at e
 cases q : h[i]? with
 | none => rw [q] at e; cases e
 | some o => rw [q] at e; cases o <;> cases e; rfl
theorem lst_eq {h : H} {i : Nat} {xs : List V} (e : h[i]? = some (.lst xs)) : lst? h i = some xs := by unfold lst?; rw [e]; rfl
theorem dct_eq {h : H} {i : Nat} {xs : List (Str × V)} (e : h[i]? = some (.dct xs)) : dct? h i = some xs := by unfold dct?; rw [e]; rfl
theorem ins_eq {h : H} {i C d : Nat} (e : h[i]? = some (.ins C d)) : ins? h i = some (C, d) := by unfold ins?; rw [e]; rfl
noncomputable def a1? : List V → Option V
 | [x] => some x
 | _ => none
noncomputable def a2? : List V → Option (V × V)
 | [x, y] => some (x, y)
 | _ => none
theorem a1_of {xs : List V} {x : V} (e : a1? xs = some x) : xs = [x] := by
 cases xs with
 | nil => cases e
 | cons a r => cases r with
  | nil => cases e; rfl
  | cons _ _ => cases e
theorem a2_of {xs : List V} {x y : V} (e : a2? xs = some (x, y)) : xs = [x, y] := by
 cases xs with
 | nil => cases e
 | cons a r => cases r with
  | nil => cases e
  | cons b r => cases r with
   | nil => cases e; rfl
   | cons _ _ => cases e
noncomputable def ii (a b : V) (f : Int → Int → Res V) : Res V := a.i?.elim .bad fun i => b.i?.elim .bad fun j => f i j
noncomputable def addV (a b : V) (h : H) : Res V :=
 match a with
 | .int i => b.i?.elim .bad fun j => .ok (.int (i + j)) h
 | .str a => b.s?.elim .bad fun b => okP (a.length + b.length ≤ 100000) (.ok (.str (a ++ b)) h)
 | .ref i => b.r?.elim .bad fun j => (lst? h i).elim .bad fun xs => (lst? h j).elim .bad fun ys => okP (xs.length + ys.length ≤ 100000) (newM h (.lst (xs ++ ys)))
 | _ => .bad
noncomputable def mulV (a b : V) (h : H) : Res V :=
 match a with
 | .int a => b.i?.elim .bad fun b => okP (a.natAbs < 2 ^ 40 ∧ b.natAbs < 2 ^ 20) (.ok (.int (a * b)) h)
 | .ref i => b.i?.elim .bad fun k => ((lst? h i).bind a1?).elim .bad fun x => okP (0 ≤ k ∧ k ≤ 1000) (newM h (.lst (List.replicate k.toNat x)))
 | _ => .bad
noncomputable def binV (op : Operator) (a b : V) (h : H) : Res V :=
 match op with
 | .Add => addV a b h
 | .Sub => ii a b fun a b => .ok (.int (a - b)) h
 | .Mult => mulV a b h
 | .FloorDiv => ii a b fun a b => okP (b ≠ 0 ∧ b.natAbs < 2 ^ 20) (.ok (.int (a.fdiv b)) h)
 | .Mod => ii a b fun a b => okP (b ≠ 0) (.ok (.int (a.fmod b)) h)
 | .Pow => ii a b fun a n => okP (a = 2 ∧ 0 ≤ n ∧ n ≤ 1000) (.ok (.int (2 ^ n.toNat)) h)
 | .LShift => ii a b fun a n => okP (0 ≤ n ∧ n ≤ 1000 ∧ a.natAbs < 2 ^ 64) (.ok (.int (a * 2 ^ n.toNat)) h)
 | .RShift => ii a b fun a n => okP (0 ≤ n) (.ok (.int (a.fdiv (2 ^ n.toNat))) h)
 | .BitAnd => ii a b fun a b => .ok (.int (Builtin.bitAnd a b)) h
 | .BitOr => ii a b fun a b => .ok (.int (Builtin.bitOr a b)) h
 | .BitXor => ii a b fun a b => .ok (.int (Builtin.bitXor a b)) h
 | _ => .bad
noncomputable def plainL (xs : List V) : Bool := V.plains xs && decide (V.deps xs ≤ 20)
noncomputable def eqV (h : H) (a b : V) : Option Bool :=
 match a with
 | .int a => b.i?.map fun b => a == b
 | .str a => b.s?.map fun b => a == b
 | .tup xs => b.t?.bind fun ys => if plainL xs && plainL ys then some (PyData.eqv (.tuple (V.pys xs)) (.tuple (V.pys ys))) else none
 | .ref i => b.r?.bind fun j => (lst? h i).bind fun xs => (lst? h j).bind fun ys => if plainL xs && plainL ys then some (PyData.eqv (.list (V.pys xs)) (.list (V.pys ys))) else none
 | _ => none
noncomputable def isNoneV : V → Option Bool
 | .none => some true
 | .int _ => some false
 | .str _ => some false
 | .tup _ => some false
 | .ref _ => some false
 | _ => none
noncomputable def strsV : List V → Option (List Str)
 | [] => some []
 | x :: r => x.s?.bind fun x => (strsV r).map (x :: ·)
noncomputable def inV (h : H) (a b : V) : Option Bool :=
 a.s?.bind fun y => match b with
  | .str x => some (!(occurrences x y 0 x.length 1).isEmpty)
  | .tup xs => (strsV xs).map (·.any (· == y))
  | .ref d => (dct? h d).map fun es => (es.lookup y).isSome
  | _ => none
noncomputable def ltV (a b : V) (f : Int → Int → Bool) : Option Bool := a.i?.bind fun a => b.i?.map fun b => f a b
noncomputable def V.n? : V → Option Unit
 | .none => some ()
 | _ => Option.none
theorem n_of {v : V} {i : Unit} (e : v.n? = some i) : v = .none := by cases v <;> cases e; rfl
noncomputable def cmpV (op : CmpOp) (a b : V) (h : H) : Option Bool :=
 match op with
 | .Eq => eqV h a b
 | .NotEq => (eqV h a b).map not
 | .Lt => ltV a b fun a b => decide (a < b)
 | .LtE => ltV a b fun a b => decide (a ≤ b)
 | .Gt => ltV a b fun a b => decide (b < a)
 | .GtE => ltV a b fun a b => decide (b ≤ a)
 | .Is => b.n?.bind fun _ => isNoneV a
 | .IsNot => b.n?.bind fun _ => (isNoneV a).map not
 | .In => inV h a b
 | .NotIn => (inV h a b).map not
noncomputable def optB (r : Option Bool) (h : H) : Res Bool := match r with
 | some r => .ok r h
 | none => .bad
noncomputable def cmpR (op : CmpOp) (a b : V) (h : H) : Res Bool := optB (cmpV op a b h) h
noncomputable def truthV (h : H) : V → Option Bool
 | .none => some false
 | .bool b => some b
 | .int i => some (i != 0)
 | .str x => if x.length ≤ 100000 then some (x.length != 0) else none
 | _ => none
noncomputable def truthR (v : V) (h : H) : Res Bool := optB (truthV h v) h
noncomputable def pickS (xs : List V) (k : Int) (h : H) : Res V := ((seqIndex? k xs.length).bind (xs[·]?)).elim .bad fun v => okP (-(2 ^ 60) ≤ k ∧ k < 2 ^ 60) (.ok v h)
noncomputable def subV (a i : V) (h : H) : Res V :=
 match a with
 | .tup xs => i.i?.elim .bad fun k => pickS xs k h
 | .ref r => match i with
  | .int k => (lst? h r).elim .bad fun xs => pickS xs k h
  | .str y => ((dct? h r).bind (·.lookup y)).elim .bad fun v => .ok v h
  | _ => .bad
 | .str x => i.i?.elim .bad fun k => ((seqIndex? k x.length).bind (x.cps[·]?)).elim .bad fun c => okP (-(2 ^ 60) ≤ k ∧ k < 2 ^ 60) (.ok (.str ⟨#[c]⟩) h)
 | _ => .bad
noncomputable def slcB (x : Option V) : Option (Option Int) := match x with
 | none => some none
 | some v => v.i?.bind fun i => if 0 ≤ i then some (some i) else none
noncomputable def slcV (a : V) (lo hi : Option V) (h : H) : Res V :=
 (slcB lo).elim .bad fun lo => (slcB hi).elim .bad fun hi => match a with
  | .str x => lo.elim .bad fun i => match hi with
   | some j => okP (x.length ≤ 100000) (.ok (.str (Txt.slice x (some i) (some j))) h)
   | none => okP (x.length ≤ 100000) (.ok (.str (Txt.slice x (some i) none)) h)
  | .ref r => (lst? h r).elim .bad fun xs => match lo with
   | none => hi.elim .bad fun j => okP (xs.length ≤ 100000) (newM h (.lst (xs.take j.toNat)))
   | some _ => .bad
  | _ => .bad
noncomputable def dic? (v : V) (h : H) : Option (Nat × List (Str × V)) := v.r?.bind fun i => (ins? h i).bind fun p => (dct? h p.2).map fun es => (p.2, es)
noncomputable def attV (v : V) (n : Str) (h : H) : Res V := ((dic? v h).bind (·.2.lookup n)).elim .bad fun v => .ok v h
noncomputable def putA (n : Str) (v : V) : List (Str × V) → List (Str × V)
 | [] => [(n, v)]
 | (x, u) :: r => if x = n then (x, v) :: r else (x, u) :: putA n v r
noncomputable def setAttV (o : V) (n : Str) (v : V) (h : H) : Res Unit :=
 (dic? o h).elim .bad fun p => if p.2.length ≤ 900 then .ok () (h.set p.1 (.dct (putA n v p.2))) else .bad
noncomputable def setSubV (o i v : V) (h : H) : Res Unit :=
 o.r?.elim .bad fun r => match i with
 | .int k => (lst? h r).elim .bad fun xs => if 0 ≤ k ∧ k < xs.length ∧ k < 2 ^ 60 then .ok () (h.set r (.lst (xs.set k.toNat v))) else .bad
 | .str y => (dct? h r).elim .bad fun es => if es.length ≤ 900 ∧ (es.lookup y).isNone = true then .ok () (h.set r (.dct (es ++ [(y, v)]))) else .bad
 | _ => .bad
noncomputable def intsV : List V → Option (List Int)
 | [] => some []
 | x :: r => x.i?.bind fun x => (intsV r).map (x :: ·)
noncomputable def lenV (v : V) (h : H) : Res V := match v with
 | .str x => okP (x.length ≤ 100000) (.ok (.int x.length) h)
 | .ref r => (lst? h r).elim .bad fun xs => okP (xs.length ≤ 100000) (.ok (.int xs.length) h)
 | _ => .bad
noncomputable def listV (v : V) (h : H) : Res V := match v with
 | .ref r => (lst? h r).elim .bad fun xs => okP (xs.length ≤ 100000) (newM h (.lst xs))
 | .sc ns => okP (ns.length ≤ 100000) (newM h (.lst (ns.map .int)))
 | _ => .bad
noncomputable def isStrV (v : V) (h : H) : Res V := match v with
 | .str _ => .ok (.bool true) h
 | .tup _ => .ok (.bool false) h
 | _ => .bad
noncomputable def i1 (vs : List V) (f : Int → Res V) : Res V := ((a1? vs).bind V.i?).elim .bad f
noncomputable def i2 (vs : List V) (f : Int → Int → Res V) : Res V := (a2? vs).elim .bad fun p => ii p.1 p.2 f
noncomputable def bfV (b : BF) (vs : List V) (h : H) : Res V :=
 match b with
 | .len => (a1? vs).elim .bad fun v => lenV v h
 | .min => i2 vs fun a b => .ok (.int (min a b)) h
 | .max => i2 vs fun a b => .ok (.int (max a b)) h
 | .int => i1 vs fun a => .ok (.int a) h
 | .abs => i1 vs fun a => .ok (.int a.natAbs) h
 | .list => (a1? vs).elim .bad fun v => listV v h
 | .sum => ((a1? vs).bind V.r?).elim .bad fun r => ((lst? h r).bind intsV).elim .bad fun ns => okP (ns.length ≤ 1000 ∧ ∀ n ∈ ns, n.natAbs < 2 ^ 40) (.ok (.int ns.sum) h)
 | .chr => i1 vs fun a => okP (0 ≤ a ∧ a < 256) (.ok (.str ⟨#[a.toNat]⟩) h)
 | .ord => ((a1? vs).bind V.s?).elim .bad fun x => match x.cps.toList with
  | [c] => .ok (.int c) h
  | _ => .bad
 | .str => i1 vs fun a => okP (a.natAbs < 10 ^ 10) (.ok (.str (Str.ofString (toString a))) h)
 | .isStr => (a1? vs).elim .bad fun v => isStrV v h
noncomputable def l0 (o : V) (vs : List V) (h : H) (f : Nat → List V → Res V) : Res V := o.r?.elim .bad fun r => if vs.isEmpty then (lst? h r).elim .bad fun xs => f r xs else .bad
noncomputable def t1 (o : V) (vs : List V) (f : Str → Str → Res V) : Res V := o.s?.elim .bad fun x => ((a1? vs).bind V.s?).elim .bad fun y => f x y
noncomputable def bmV (b : BM) (o : V) (vs : List V) (h : H) : Res V :=
 match b with
 | .append => o.r?.elim .bad fun r => (a1? vs).elim .bad fun v => (lst? h r).elim .bad fun xs => okP (xs.length ≤ 100000) (.ok .none (h.set r (.lst (xs ++ [v]))))
 | .pop => l0 o vs h fun r xs => xs.getLast?.elim .bad fun v => okP (xs.length ≤ 100000) (.ok v (h.set r (.lst xs.dropLast)))
 | .reverse => l0 o vs h fun r xs => okP (xs.length ≤ 100000) (.ok .none (h.set r (.lst xs.reverse)))
 | .lower => o.s?.elim .bad fun x => if vs.isEmpty then okP (x.length ≤ 100000) (.ok (.str (Txt.lower x)) h) else .bad
 | .replace => o.s?.elim .bad fun x => (a2? vs).elim .bad fun p => p.1.s?.elim .bad fun y => p.2.s?.elim .bad fun z => okP ((occurrences x y 0 x.length (x.length + 1)).isEmpty = true) (.ok (.str x) h)
 | .find => t1 o vs fun x y => okP (x.length ≤ 100000) (.ok (.int (Txt.find x y)) h)
 | .lstrip => t1 o vs fun x y => okP (x.length ≤ 100000) (.ok (.str (Txt.lstripChars x y)) h)
 | .index => t1 o vs fun x y => okP (x.length ≤ 100000 ∧ 0 ≤ Txt.find x y) (.ok (.int (Txt.find x y)) h)
 | .join => o.s?.elim .bad fun x => ((a1? vs).bind V.r?).elim .bad fun r => ((lst? h r).bind strsV).elim .bad fun ss => okP (x.length = 0 ∧ ss.length ≤ 1000 ∧ ∀ z ∈ ss, z.length ≤ 10) (.ok (.str (Txt.join x ss)) h)
noncomputable def BM.isL : BM → Bool
 | .append | .pop | .reverse => true
 | _ => false
noncomputable def BM.on (b : BM) (o : V) (h : H) : Bool := if b.isL then (o.r?.bind (lst? h)).isSome else o.s?.isSome
noncomputable def insOf (C : Addr) (n : Str) (v : V) (h : H) : Bool :=
 ((v.r?.bind (ins? h)).any fun p => p.1 == C && (dct? h p.2).any fun es => (es.lookup n).isNone)
noncomputable def partV : V → Option Str
 | .str x => if x.length ≤ 100000 then some x else none
 | .int i => if i.natAbs < 10 ^ 10 then some (Str.ofString (toString i)) else none
 | _ => none
noncomputable def cPowV (ms : List V) (s : Str) : Nat → Option (List V)
 | 0 => some []
 | n + 1 => (cPowV ms s n).bind fun r => (ms[n]?.bind V.s?).map fun x => if !(occurrences s x 0 s.length 1).isEmpty then r ++ [.int (2 ^ n)] else r
noncomputable def LO.c? : LO → Option V
 | .cel v => v
 | _ => none
noncomputable def LO.t? : LO → Option Nat
 | .tab n => some n
 | _ => none
noncomputable def tab? (h : H) : Option Nat := h[0]?.bind LO.t?
theorem tab_of {h : H} {n : Nat} (e : tab? h = some n) : h[0]? = some (.tab n) := by
 unfold tab? at e
 cases q : h[0]? with
 | none => rw [q] at e; cases e
 | some o => rw [q] at e; cases o <;> cases e; rfl
noncomputable def celL? (h : H) (i : Nat) : Option (List V) := ((h[i]?.bind LO.c?).bind V.r?).bind (lst? h)
theorem celL_of {h : H} {i : Nat} {ms : List V} (e : celL? h i = some ms) : ∃ r, h[i]? = some (.cel (some (.ref r))) ∧ h[r]? = some (.lst ms) := by
 obtain ⟨r, e1, e2⟩ := Option.bind_eq_some_iff.mp e
 obtain ⟨v, e3, e4⟩ := Option.bind_eq_some_iff.mp e1
 obtain ⟨o, e5, e6⟩ := Option.bind_eq_some_iff.mp e3
 refine ⟨r, ?_, lst_of e2⟩
 rw [e5, ← show LO.cel (some (.ref r)) = o from ?_]
 rw [r_of e4] at e6
 cases o with
 | cel w => exact congrArg LO.cel e6.symm
 | _ => cases e6
noncomputable def k3? (vs : List V) : Option Str := (vs.head?.bind V.s?).bind fun k => (a2? vs.tail).map fun _ => k
theorem k3_of {vs : List V} {k : Str} (e : k3? vs = some k) : ∃ a b, vs = [.str k, a, b] := by
 obtain ⟨k', e1, e2⟩ := Option.bind_eq_some_iff.mp e
 obtain ⟨⟨a, b⟩, e3, e4⟩ := Option.map_eq_some_iff.mp e2
 subst e4
 cases vs with
 | nil => cases e1
 | cons x r => exact ⟨a, b, congr (congrArg List.cons (s_of e1)) (a2_of e3)⟩
section
variable (O : Orc) (cs : List Nat)
mutual
noncomputable def ev : Ex → Loc → H → Res V
 | .k v, _, h => .ok v h
 | .g _ i, _, h => .ok (.int i) h
 | .l i, loc, h => match loc[i]? with
  | some (some v) => .ok v h
  | _ => .bad
 | .ce j, _, h => match cs[j]? with
  | some i => match h[i]? with
   | some (.cel (some v)) => .ok v h
   | _ => .bad
  | none => .bad
 | .bin op a b, loc, h => (ev a loc h).bind fun x h => (ev b loc h).bind fun y h => binV op x y h
 | .neg a, loc, h => (ev a loc h).bind fun x h => x.i?.elim .bad fun i => .ok (.int (-i)) h
 | .nt _, _, _ => .bad
 | .cmp op a b, loc, h => (ev a loc h).bind fun x h => (ev b loc h).bind fun y h => (cmpR op x y h).bind fun r h => .ok (.bool r) h
 | .cmp2 _ _ _ _ _, _, _ => .bad
 | .bop op xs, loc, h => bops op xs loc h
 | .ite c a b, loc, h => (tr c loc h).bind fun t h => match t with
  | true => ev a loc h
  | false => ev b loc h
 | .tup xs, loc, h => (evs xs loc h).bind fun vs h => okP (vs.length ≤ 1000) (.ok (.tup vs) h)
 | .lst xs, loc, h => (evs xs loc h).bind fun vs h => okP (vs.length ≤ 1000) (newM h (.lst vs))
 | .dct x e, loc, h => (ev e loc (h ++ [.dct []])).bind fun v h' => (dct? h' h.length).elim .bad fun es => if es.isEmpty then .ok (.ref h.length) (h'.set h.length (.dct [(x, v)])) else .bad
 | .dct0, _, h => newM h (.dct [])
 | .sub a i, loc, h => (ev a loc h).bind fun x h => (ev i loc h).bind fun y h => subV x y h
 | .slc a lo hi, loc, h => (ev a loc h).bind fun x h => (evo lo loc h).bind fun l h => (evo hi loc h).bind fun u h => slcV x l u h
 | .att a n, loc, h => (ev a loc h).bind fun x h => attV x n h
 | .call f xs, loc, h => (evs xs loc h).bind fun vs h => O.fn f vs h
 | .new C f xs, loc, h => (evs xs loc h).bind fun vs h =>
   (O.fn f (.ref (h.length + 1) :: vs) (h ++ [.dct [], .ins C h.length])).bind fun v h' => match v with
    | .none => .ok (.ref (h.length + 1)) h'
    | _ => .bad
 | .bf b xs, loc, h => (evs xs loc h).bind fun vs h => bfV b vs h
 | .bm b o xs, loc, h => (ev o loc h).bind fun x h => if b.on x h = true then (evs xs loc h).bind fun vs h => bmV b x vs h else .bad
 | .mc C f n o xs, loc, h => (ev o loc h).bind fun x h => if insOf C n x h = true then (evs xs loc h).bind fun vs h => O.fn f (x :: vs) h else .bad
 | .mi n o xs, loc, h => (ev o loc h).bind fun x h => (attV x n h).bind fun f h => match f with
  | .clo k cs => (evs xs loc h).bind fun vs h => O.cl k cs vs h
  | _ => .bad
 | .js xs, loc, h => jss Str.empty xs loc h
 | .fmt _, _, _ => .bad
 | .stop, _, _ => .bad
 | .rng _, _, _ => .bad
 | .psl _ _, _, _ => .bad
 | .cPow n j s, loc, h => (ev n loc h).bind fun x h => x.i?.elim .bad fun w => cs[j]?.elim .bad fun i => (celL? h i).elim .bad fun ms => (cPowV ms s w.toNat).elim .bad fun vs => okP (0 ≤ w ∧ w ≤ 64) (newM h (.lst vs))
noncomputable def evs : List Ex → Loc → H → Res (List V)
 | [], _, h => .ok [] h
 | e :: r, loc, h => (ev e loc h).bind fun v h => (evs r loc h).bind fun vs h => .ok (v :: vs) h
noncomputable def evo : Option Ex → Loc → H → Res (Option V)
 | none, _, h => .ok none h
 | some e, loc, h => (ev e loc h).bind fun v h => .ok (some v) h
noncomputable def bops : BoolOp → List Ex → Loc → H → Res V
 | _, [], _, _ => .bad
 | op, e :: r, loc, h => (ev e loc h).bind fun v h => match r with
  | [] => .ok v h
  | _ :: _ => (truthR v h).bind fun b h => match op, b with
   | .And, false => .ok v h
   | .Or, true => .ok v h
   | _, _ => bops op r loc h
noncomputable def tr : Ex → Loc → H → Res Bool
 | .nt a, loc, h => (tr a loc h).bind fun b h => .ok (!b) h
 | .cmp op a b, loc, h => (ev a loc h).bind fun x h => (ev b loc h).bind fun y h => cmpR op x y h
 | .cmp2 o1 o2 a b c, loc, h => (ev a loc h).bind fun x h => (ev b loc h).bind fun y h => (cmpR o1 x y h).bind fun r h => match r with
  | true => (ev c loc h).bind fun z h => cmpR o2 y z h
  | false => .ok false h
 | .bop op xs, loc, h => trs op xs loc h
 | .ite c a b, loc, h => (tr c loc h).bind fun t h => match t with
  | true => tr a loc h
  | false => tr b loc h
 | .k v, _, h => truthR v h
 | .l i, loc, h => match loc[i]? with
  | some (some v) => truthR v h
  | _ => .bad
 | .call f xs, loc, h => (evs xs loc h).bind fun vs h => (O.fn f vs h).bind fun v h => truthR v h
 | .bf b xs, loc, h => (evs xs loc h).bind fun vs h => (bfV b vs h).bind fun v h => truthR v h
 | .mc C f n o xs, loc, h => (ev o loc h).bind fun x h => if insOf C n x h = true then (evs xs loc h).bind fun vs h => (O.fn f (x :: vs) h).bind fun v h => truthR v h else .bad
 | _, _, _ => .bad
noncomputable def trs : BoolOp → List Ex → Loc → H → Res Bool
 | op, [], _, h => .ok (match op with | .And => true | .Or => false) h
 | op, e :: r, loc, h => (tr e loc h).bind fun b h => match op, b with
  | .And, false => .ok false h
  | .Or, true => .ok true h
  | _, _ => trs op r loc h
noncomputable def jss : Str → List Ex → Loc → H → Res V
 | out, [], _, h => .ok (.str out) h
 | out, e :: r, loc, h => (evp e loc h).bind fun v h => match partV v with
  | some x => if out.length + x.length ≤ 100000 then jss (out ++ x) r loc h else .bad
  | none => .bad
noncomputable def evp : Ex → Loc → H → Res V
 | .k v, _, h => .ok v h
 | .fmt e, loc, h => ev e loc h
 | _, _, _ => .bad
end
end
set_option genCtorIdx true in
inductive Fl where
 | next
 | ret (v : V)
noncomputable def loopL (body : Loc → H → Res (Fl × Loc)) (put : V → Loc → Option Loc) (still : H → Bool) : List V → Loc → H → Res (Fl × Loc)
 | [], loc, h => .ok (.next, loc) h
 | v :: r, loc, h => match put v loc with
  | none => .bad
  | some loc => (body loc h).bind fun q h => match q with
   | (.next, loc) => if still h then loopL body put still r loc h else .bad
   | (.ret v, loc) => .ok (.ret v, loc) h
noncomputable def loopR (body : Loc → H → Res (Fl × Loc)) (i : Nat) : Nat → Nat → Loc → H → Res (Fl × Loc)
 | _, 0, loc, h => .ok (.next, loc) h
 | j, n + 1, loc, h => (body (loc.set i (some (.int j))) h).bind fun q h => match q with
   | (.next, loc) => loopR body i (j + 1) n loc h
   | (.ret v, loc) => .ok (.ret v, loc) h
noncomputable def loopW (test : Loc → H → Res Bool) (body : Loc → H → Res (Fl × Loc)) : Nat → Loc → H → Res (Fl × Loc)
 | 0, _, _ => .bad
 | n + 1, loc, h => (test loc h).bind fun b h => match b with
  | false => .ok (.next, loc) h
  | true => (body loc h).bind fun q h => match q with
   | (.next, loc) => loopW test body n loc h
   | (.ret v, loc) => .ok (.ret v, loc) h
noncomputable def putAll : List Nat → List V → Loc → Option Loc
 | [], [], loc => some loc
 | i :: is, v :: vs, loc => putAll is vs (loc.set i (some v))
 | _, _, _ => none
noncomputable def putT (is : List Nat) (v : V) (loc : Loc) : Option Loc := match v with
 | .tup vs => putAll is vs loc
 | _ => none
noncomputable def sameList (r : Nat) (xs : List V) (h : H) : Bool := @decide _ (Classical.propDecidable (h[r]? = some (.lst xs)))
noncomputable def chars (x : Str) : List V := x.cps.toList.map fun c => .str ⟨#[c]⟩
noncomputable def loopV (body : Loc → H → Res (Fl × Loc)) (put : V → Loc → Option Loc) (v : V) (loc : Loc) (h : H) : Res (Fl × Loc) := match v with
 | .ref r => (lst? h r).elim .bad fun xs => loopL body put (sameList r xs) xs loc h
 | .str x => loopL body put (fun _ => true) (chars x) loc h
 | _ => .bad
section
variable (O : Orc) (cs : List Nat) (N : Nat)
mutual
noncomputable def xs1 : St → Loc → H → Res (Fl × Loc)
 | .asg i e, loc, h => (ev O cs e loc h).bind fun v h => .ok (.next, loc.set i (some v)) h
 | .asgC j e, loc, h => (ev O cs e loc h).bind fun v h => match cs[j]? with
  | some i => match h[i]? with
   | some (.cel _) => .ok (.next, loc) (h.set i (.cel (some v)))
   | _ => .bad
  | none => .bad
 | .asgA o n e, loc, h => (ev O cs e loc h).bind fun v h => (ev O cs o loc h).bind fun x h => (setAttV x n v h).bind fun _ h => .ok (.next, loc) h
 | .asgS o i e, loc, h => (ev O cs e loc h).bind fun v h => (ev O cs o loc h).bind fun x h => (ev O cs i loc h).bind fun y h => (setSubV x y v h).bind fun _ h => .ok (.next, loc) h
 | .asgT is e, loc, h => (ev O cs e loc h).bind fun v h => match putT is v loc with
  | some loc => .ok (.next, loc) h
  | none => .bad
 | .asgI i a, loc, h => (ev O cs a loc h).bind fun x h => x.r?.elim .bad fun r => (lst? h r).elim .bad fun xs => if (intsV xs).isSome = true ∧ xs.length ≤ 1000 then .ok (.next, loc.set i (some (.ref h.length))) (h ++ [.lst xs]) else .bad
 | .shr i e, loc, h => match loc[i]? with
  | some (some x) => (ev O cs e loc h).bind fun y h => (binV .RShift x y h).bind fun v h => .ok (.next, loc.set i (some v)) h
  | _ => .bad
 | .ex e, loc, h => (ev O cs e loc h).bind fun v h => .ok (.next, loc) h
 | .ret e, loc, h => (ev O cs e loc h).bind fun v h => .ok (.ret v, loc) h
 | .ite c a b, loc, h => (tr O cs c loc h).bind fun t h => match t with
  | true => xss a loc h
  | false => xss b loc h
 | .whl c b, loc, h => loopW (tr O cs c) (xss b) N loc h
 | .forL i e b, loc, h => (ev O cs e loc h).bind fun v h => loopV (xss b) (fun v loc => some (loc.set i (some v))) v loc h
 | .forT is e b, loc, h => (ev O cs e loc h).bind fun v h => loopV (xss b) (putT is) v loc h
 | .forR i e b, loc, h => (ev O cs e loc h).bind fun v h => match v with
  | .int n => if 0 ≤ n ∧ n ≤ 1000 then loopR (xss b) i 0 n.toNat loc h else .bad
  | _ => .bad
 | .rai C xs, loc, h => (evs O cs xs loc h).bind fun vs h => (k3? vs).elim .bad fun k => .exc C k h
 | .tryE e x i hs, loc, h => match ev O cs e loc h with
  | .ok _ h => .ok (.next, loc) h
  | .bad => .bad
  | .exc C k h => (hs.lookup C).elim .bad fun s => .ok (.next, (loc.set i (some (.tup [.str s, .str k]))).set x none) h
 | .defn i k, loc, h => (tab? h).elim .bad fun n => if k ≤ n then .ok (.next, loc.set i (some (.clo k cs))) (h.set 0 (LO.tab (Nat.max n (k + 1)))) else .bad
 | .pas, loc, h => .ok (.next, loc) h
 | .stop, _, _ => .bad
noncomputable def xss : List St → Loc → H → Res (Fl × Loc)
 | [], loc, h => .ok (.next, loc) h
 | s :: r, loc, h => (xs1 s loc h).bind fun q h => match q with
  | (.next, loc) => xss r loc h
  | (.ret v, loc) => .ok (.ret v, loc) h
end
end
structure CT where
 sc : Scope
 loc : List Str
 cel : List Str
 fns : List (Str × Nat)
 cls : List (Str × (Nat × Nat))
 gl : List (Str × Int)
 mth : List (Str × (Nat × Nat))
 an : List Str
 exc : List (Str × Nat)
 defs : List (Str × Nat)
 P : Nat
 dq : Str
noncomputable def idx (x : Str) : List Str → Nat → Option Nat
 | [], _ => none
 | y :: r, i => if y == x then some i else idx x r (i + 1)
noncomputable def bfTab : List (Str × BF) := [("len", .len), ("min", .min), ("max", .max), ("list", .list), ("sum", .sum), ("chr", .chr), ("ord", .ord), ("str", .str), ("abs", .abs)]
noncomputable def bmTab : List (Str × BM) := [("append", .append), ("pop", .pop), ("reverse", .reverse), ("lower", .lower), ("replace", .replace), ("find", .find), ("lstrip", .lstrip), ("index", .index), ("join", .join)]
noncomputable def cBF (x : Str) : Option BF := bfTab.lookup x
noncomputable def cBM (x : Str) : Option BM := bmTab.lookup x
theorem lookup_mem {β : Type} {x : Str} {v : β} {l : List (Str × β)} (h : l.lookup x = some v) : (x, v) ∈ l := by
 induction l with
 | nil => cases h
 | cons p r ih =>
  rw [List.lookup_cons] at h
  by_cases q : x = p.1
  ·rw [q, beq_self_eq_true] at h
   cases h
   rw [q]; exact .head _
  ·rw [beq_eq_false_iff_ne.mpr q] at h
   exact .tail _ (ih h)
noncomputable def l1? {α : Type} (l : List α) : Option { x : α // l = [x] } := match l with
 | [] => none
 | x :: r => match r with
  | [] => some ⟨x, rfl⟩
  | _ :: _ => none
noncomputable def l2? {α : Type} (l : List α) : Option { x : α × α // l = [x.1, x.2] } := match l with
 | [] => none
 | x :: r => (l1? r).map fun y => ⟨(x, y.1), congrArg _ y.2⟩
noncomputable def oS? {α : Type} (o : Option α) : Option { x : α // o = some x } := match o with
 | none => none
 | some x => some ⟨x, rfl⟩
noncomputable def nm? (e : Expr) : Option { q : Str × Pos // e = .Name q.1 q.2 } := match e with
 | .Name x p => some ⟨(x, p), rfl⟩
 | _ => none
noncomputable def strC? (e : Expr) : Option { q : Str × Nat × Pos // e = .Constant (.str q.1) q.2.1 q.2.2 } := match e with
 | .Constant c k p => match c with
  | .str x => some ⟨(x, k, p), rfl⟩
  | _ => none
 | _ => none
noncomputable def intC? (e : Expr) : Option { q : Int × Nat × Pos // e = .Constant (.int q.1) q.2.1 q.2.2 } := match e with
 | .Constant c k p => match c with
  | .int x => some ⟨(x, k, p), rfl⟩
  | _ => none
 | _ => none
noncomputable def call? (e : Expr) : Option { q : Expr × List Expr × List Keyword × Pos // e = .Call q.1 q.2.1 q.2.2.1 q.2.2.2 } := match e with
 | .Call f as ks p => some ⟨(f, as, ks, p), rfl⟩
 | _ => none
noncomputable def att? (e : Expr) : Option { q : Expr × Str × Pos // e = .Attribute q.1 q.2.1 q.2.2 } := match e with
 | .Attribute f as p => some ⟨(f, as, p), rfl⟩
 | _ => none
noncomputable def subs? (e : Expr) : Option { q : Expr × Expr × Pos // e = .Subscript q.1 q.2.1 q.2.2 } := match e with
 | .Subscript f as p => some ⟨(f, as, p), rfl⟩
 | _ => none
noncomputable def bin? (e : Expr) : Option { q : Expr × Operator × Expr × Pos // e = .BinOp q.1 q.2.1 q.2.2.1 q.2.2.2 } := match e with
 | .BinOp a o b p => some ⟨(a, o, b, p), rfl⟩
 | _ => none
noncomputable def cmp? (e : Expr) : Option { q : Expr × List CmpOp × List Expr × Pos // e = .Compare q.1 q.2.1 q.2.2.1 q.2.2.2 } := match e with
 | .Compare a o b p => some ⟨(a, o, b, p), rfl⟩
 | _ => none
noncomputable def tup? (e : Expr) : Option { q : List Expr × Nat × Pos // e = .Tuple q.1 q.2.1 q.2.2 } := match e with
 | .Tuple a o b => some ⟨(a, o, b), rfl⟩
 | _ => none
noncomputable def lcmp? (e : Expr) : Option { q : Expr × List Comprehension × Scope × Pos // e = .ListComp q.1 q.2.1 q.2.2.1 q.2.2.2 } := match e with
 | .ListComp a o b p => some ⟨(a, o, b, p), rfl⟩
 | _ => none
noncomputable def asg? (e : Stmt) : Option { q : List Expr × Expr × Pos // e = .Assign q.1 q.2.1 q.2.2 } := match e with
 | .Assign a o b => some ⟨(a, o, b), rfl⟩
 | _ => none
noncomputable def sex? (e : Stmt) : Option { q : Expr × Pos // e = .Expr q.1 q.2 } := match e with
 | .Expr a b => some ⟨(a, b), rfl⟩
 | _ => none
noncomputable def noStar : Expr → Bool
 | .Starred .. => false
 | _ => true
noncomputable def plainArgs (es : List Expr) : Bool := es.all noStar && decide (es.length < 30)
noncomputable def noCall : Expr → Bool
 | .Call .. => false
 | _ => true
section
variable (Γ : CT)
noncomputable def isGlo (x : Str) : Bool := Γ.sc.names.lookup x == some .globalImplicit && !(x == ("__debug__" : Str))
noncomputable def cConst : Const → Ex
 | .none => .k .none
 | .bool b => .k (.bool b)
 | .int i => .k (.int i)
 | .str x => .k (.str x)
 | _ => .stop
noncomputable def cName (x : Str) : Ex := match idx x Γ.loc 0 with
 | some i => .l i
 | none => match idx x Γ.cel 0 with
  | some j => .ce j
  | none => if isGlo Γ x then (Γ.gl.lookup x).elim .stop fun i => .g x i else .stop
noncomputable def cCall (x : Str) (xs : List Ex) (lone : Option (Ex × Str)) : Ex := if isGlo Γ x then match Γ.fns.lookup x with
  | some f => .call f xs
  | none => match Γ.cls.lookup x with
   | some p => .new p.1 p.2 xs
   | none => if x == "isinstance" then lone.elim .stop fun p => if p.2 == "str" && isGlo Γ p.2 then .bf .isStr [p.1] else .stop
    else if x == "range" then (l1? xs).elim .stop fun m => .rng m.1
    else (cBF x).elim .stop fun b => .bf b xs
 else .stop
noncomputable def cMeth (x : Str) (o : Ex) (xs : List Ex) : Ex := match cBM x with
 | some b => .bm b o xs
 | none => match Γ.mth.lookup x with
  | some p => .mc p.1 p.2 x o xs
  | none => if Γ.an.contains x then .mi x o xs else .stop
noncomputable def cCmp (a : Ex) (ops : List CmpOp) (es : List Ex) : Ex := match l1? ops with
 | some op => (l1? es).elim .stop fun b => .cmp op.1 a b.1
 | none => (l2? ops).elim .stop fun o => (l2? es).elim .stop fun p => .cmp2 o.1.1 o.1.2 a p.1.1 p.1.2
noncomputable def cDict (ks : List (Option Expr)) (es : List Ex) : Ex := if ks.isEmpty && es.isEmpty then .dct0 else
 (l1? ks).elim .stop fun K => (oS? K.1).elim .stop fun k => (strC? k.1).elim .stop fun x => (l1? es).elim .stop fun e => .dct x.1.1 e.1
noncomputable def cSub (a : Ex) : Ex → Ex
 | .psl lo hi => .slc a lo hi
 | .rng _ => .stop
 | i => .sub a i
noncomputable def scOk (sc : Scope) (x : Str) : Bool := sc.kind == .function && sc.names.all (fun p => p.2 != .cell && (p.2 != .local || sc.names.lookup p.1 == some .local)) && sc.names.lookup x == some .local
noncomputable def cComp (e : Expr) (gs : List Comprehension) (sc : Scope) : Ex :=
 (bin? e).elim .stop fun B => (intC? B.1.1).elim .stop fun I => (nm? B.1.2.2.1).elim .stop fun X => (l1? gs).elim .stop fun g => (nm? g.1.target).elim .stop fun Y => (call? g.1.iter).elim .stop fun C =>
 (nm? C.1.1).elim .stop fun F => (l1? C.1.2.1).elim .stop fun M0 => (nm? M0.1).elim .stop fun M => (l1? g.1.ifs).elim .stop fun P0 => (cmp? P0.1).elim .stop fun P => (subs? P.1.1).elim .stop fun S =>
 (nm? S.1.1).elim .stop fun Z => (nm? S.1.2.1).elim .stop fun U => (l1? P.1.2.2.1).elim .stop fun T0 => (strC? T0.1).elim .stop fun T => (l1? P.1.2.1).elim .stop fun W =>
 if (decide (B.1.2.1 = .Pow) && decide (I.1.1 = 2) && decide (g.1.is_async = 0) && C.1.2.2.1.isEmpty && decide (W.1 = .In)) && (F.1.1 == "range" && isGlo Γ F.1.1 && X.1.1 == Y.1.1 && U.1.1 == Y.1.1 && scOk sc Y.1.1 && (freeNames sc == [Z.1.1] && sc.names.lookup Z.1.1 == some .free && Γ.sc.names.lookup Z.1.1 == some .cell && !(Y.1.1 == ("__debug__" : Str)))) then
  (idx Z.1.1 Γ.cel 0).elim .stop fun j => .cPow (cName Γ M.1.1) j T.1.1
 else .stop
mutual
noncomputable def cE : Expr → Ex
 | .Constant c _ _ => cConst c
 | .Name x _ => cName Γ x
 | .BinOp l op r _ => .bin op (cE l) (cE r)
 | .UnaryOp op x _ => match op with
  | .USub => .neg (cE x)
  | .Not => .nt (cE x)
  | _ => .stop
 | .Compare l ops rs _ => cCmp (cE l) ops (cEs rs)
 | .BoolOp op vs _ => .bop op (cEs vs)
 | .IfExp c a b _ => .ite (cE c) (cE a) (cE b)
 | .Tuple es _ _ => if plainArgs es then .tup (cEs es) else .stop
 | .List es _ => if plainArgs es then .lst (cEs es) else .stop
 | .Dict ks vs _ => cDict ks (cEs vs)
 | .Subscript v i _ => cSub (cE v) (cE i)
 | .Attribute v x _ => if Γ.an.contains x && noCall v then .att (cE v) x else .stop
 | .Call f args kws pos => if kws.isEmpty && plainArgs args then match f with
    | .Name x _ => cCall Γ x (cEs args) ((l2? args).bind fun p => (nm? p.1.2).bind fun y => (cEs args).head?.map fun a => (a, y.1.1))
    | .Attribute o x apos => if noCall o && apos.endLine == pos.line then cMeth Γ x (cE o) (cEs args) else .stop
    | _ => .stop
   else .stop
 | .JoinedStr parts _ => if 2 ≤ parts.length then .js (cPs parts) else .stop
 | .ListComp e gs sc _ => cComp Γ e gs sc
 | .Slice lo hi st _ => match st with
  | none => .psl (cO lo) (cO hi)
  | some _ => .stop
 | _ => .stop
noncomputable def cEs : List Expr → List Ex
 | [] => []
 | e :: r => cE e :: cEs r
noncomputable def cO : Option Expr → Option Ex
 | none => none
 | some e => some (cE e)
noncomputable def cP : Expr → Ex
 | .Constant c _ _ => match c with
  | .str x => .k (.str x)
  | _ => .stop
 | .FormattedValue v c sp _ => match sp with
  | none => if c = -1 then Ex.fmt (cE v) else .stop
  | some _ => .stop
 | _ => .stop
noncomputable def cPs : List Expr → List Ex
 | [] => []
 | e :: r => cP e :: cPs r
end
noncomputable def cNames : List Expr → Option (List Nat)
 | [] => some []
 | e :: r => (nm? e).bind fun X => (idx X.1.1 Γ.loc 0).bind fun i => (cNames r).map fun is => i :: is
structure HQ where
 (c y f s z k : Str)
inductive HV (q : HQ) (h : ExceptHandler) : Prop
 | mk (p0 p1 p2 p3 p4 p5 p6 p7 : Pos) (k1 k2 : Nat) (e : h = .ExceptHandler (some (.Name q.c p1)) (some q.y) [.Assign [.Name q.f p2] (.Tuple [.Constant (.str q.s) k1 p3, .Attribute (.Name q.z p4) q.k p5] k2 p6) p7] p0)
theorem eh_eq {t t' : Option Expr} {n n' : Option Str} {b b' : List Stmt} {p : Pos} (h1 : t = t') (h2 : n = n') (h3 : b = b') : ExceptHandler.ExceptHandler t n b p = .ExceptHandler t' n' b' p := by rw [h1, h2, h3]
theorem asg_eq {ts ts' : List Expr} {v v' : Expr} {p : Pos} {s : Stmt} {b : List Stmt} (h0 : b = [s]) (h1 : s = .Assign ts v p) (h2 : ts = ts') (h3 : v = v') : b = [.Assign ts' v' p] := by rw [h0, h1, h2, h3]
theorem tup_eq {es : List Expr} {a a' d d' : Expr} {v : Expr} {k : Nat} {p : Pos} (h0 : v = .Tuple es k p) (h1 : es = [a, d]) (h2 : a = a') (h3 : d = d') : v = .Tuple [a', d'] k p := by rw [h0, h1, h2, h3]
noncomputable def hq? (hd : ExceptHandler) : Option { q : HQ // HV q hd } := match hd with
 | .ExceptHandler t n b p => (oS? t).bind fun T => (nm? T.1).bind fun C => (oS? n).bind fun Y => (l1? b).bind fun B => (asg? B.1).bind fun A => (l1? A.1.1).bind fun F0 => (nm? F0.1).bind fun F => (tup? A.1.2.1).bind fun U =>
  (l2? U.1.1).bind fun P => (strC? P.1.1).bind fun S => (att? P.1.2).bind fun K => (nm? K.1.1).map fun Z => ⟨⟨C.1.1, Y.1, F.1.1, S.1.1, Z.1.1, K.1.2.1⟩,
   .mk p C.1.2 F.1.2 S.1.2.2 Z.1.2 K.1.2.2 U.1.2.2 A.1.2.2 S.1.2.1 U.1.2.1 (eh_eq (T.2.trans (congrArg _ C.2)) Y.2 (asg_eq B.2 A.2 (F0.2.trans (congrArg (fun x => [x]) F.2)) (tup_eq U.2 P.2 S.2 (K.2.trans (congrArg (fun z => Expr.Attribute z K.1.2.1 K.1.2.2) Z.2)))))⟩
noncomputable def hOk (x i : Nat) (q : HQ) : Bool := isGlo Γ q.c && idx q.y Γ.loc 0 == some x && idx q.z Γ.loc 0 == some x && idx q.f Γ.loc 0 == some i && q.k == "kind"
noncomputable def cHs (x : Nat) (i : Nat) : List ExceptHandler → Option (List (Nat × Str))
 | [] => some []
 | h :: r => (hq? h).bind fun q => if hOk Γ x i q.1 then (Γ.exc.lookup q.1.c).bind fun C => (cHs x i r).map fun hs => (C, q.1.s) :: hs else none
noncomputable def cH0 : List ExceptHandler → Option (Nat × Nat)
 | [] => none
 | h :: _ => (hq? h).bind fun q => (idx q.1.y Γ.loc 0).bind fun x => (idx q.1.f Γ.loc 0).map fun i => (x, i)
noncomputable def notComp : Expr → Bool
 | .ListComp .. | .SetComp .. | .DictComp .. => false
 | _ => true
noncomputable def notTup : Expr → Bool
 | .Tuple .. => false
 | _ => true
noncomputable def notSlice : Expr → Bool
 | .Slice .. => false
 | _ => true
noncomputable def cInts (x : Str) (xp : Pos) (i : Nat) (v : Expr) : St :=
 (lcmp? v).elim .stop fun L => (call? L.1.1).elim .stop fun C => (nm? C.1.1).elim .stop fun F => (l1? C.1.2.1).elim .stop fun Y0 => (nm? Y0.1).elim .stop fun Y => (l1? L.1.2.1).elim .stop fun g => (nm? g.1.target).elim .stop fun Z =>
 if (C.1.2.2.1.isEmpty && g.1.ifs.isEmpty && decide (g.1.is_async = 0)) && (F.1.1 == "int" && L.1.2.2.1.names.lookup F.1.1 == some .globalImplicit && Y.1.1 == Z.1.1 && scOk L.1.2.2.1 Z.1.1 && L.1.2.2.1.names.all (fun p => p.2 != .free) && (xp.line == L.1.2.2.2.line && !(L.1.2.2.1.names.any fun p => p.1 == x && (p.2 == .local || p.2 == .cell)) && !(Z.1.1 == ("__debug__" : Str)))) then
  .asgI i (cE Γ g.1.iter) else .stop
noncomputable def cAsgN (x : Str) (xp : Pos) (v : Expr) : St := match idx x Γ.loc 0 with
 | some i => if notComp v then .asg i (cE Γ v) else cInts Γ x xp i v
 | none => (idx x Γ.cel 0).elim .stop fun j => if notComp v && Γ.sc.names.lookup x == some .cell then .asgC j (cE Γ v) else .stop
noncomputable def cAsg (t v : Expr) : St := match t with
 | .Name x xp => cAsgN Γ x xp v
 | .Attribute o x _ => if notComp v && Γ.an.contains x then .asgA (cE Γ o) x (cE Γ v) else .stop
 | .Subscript o i _ => if notComp v && notSlice i then .asgS (cE Γ o) (cE Γ i) (cE Γ v) else .stop
 | .Tuple es _ _ => if notComp v && notTup v then (cNames Γ es).elim .stop fun is => .asgT is (cE Γ v) else .stop
 | _ => .stop
noncomputable def Ex.rng? (e : Ex) : Option { m : Ex // e = .rng m } := match e with
 | .rng m => some ⟨m, rfl⟩
 | _ => none
noncomputable def cForN (it : Ex) (b : List St) (i : Nat) : St := match it.rng? with
 | some m => .forR i m.1 b
 | none => .forL i it b
noncomputable def cFor (t : Expr) (it : Ex) (b : List St) : St := match t with
 | .Name x _ => (idx x Γ.loc 0).elim .stop (cForN it b)
 | .Tuple es _ _ => (cNames Γ es).elim .stop fun is => .forT is it b
 | _ => .stop
noncomputable def isNm : Expr → Bool
 | .Name .. => true
 | _ => false
noncomputable def trShape (e : Expr) : Bool := (call? e).any fun C => (nm? C.1.1).any fun F => C.1.2.2.1.isEmpty && isGlo Γ F.1.1 && (Γ.fns.lookup F.1.1).isSome && plainArgs C.1.2.1 && C.1.2.1.all isNm
noncomputable def cTry (b : List Stmt) (hs : List ExceptHandler) : St :=
 (l1? b).elim .stop fun s => (sex? s.1).elim .stop fun E => if trShape Γ E.1.1 then (cH0 Γ hs).elim .stop fun p => (cHs Γ p.1 p.2 hs).elim .stop fun hs => .tryE (cE Γ E.1.1) p.1 p.2 hs else .stop
mutual
noncomputable def cS : Stmt → St
 | .Expr v _ => if notComp v then .ex (cE Γ v) else .stop
 | .Pass _ => .pas
 | .Return v _ => v.elim .stop fun v => .ret (cE Γ v)
 | .Assign ts v _ => (l1? ts).elim .stop fun t => cAsg Γ t.1 v
 | .AugAssign t op v _ => (nm? t).elim .stop fun X => if op = .RShift then (idx X.1.1 Γ.loc 0).elim .stop fun i => .shr i (cE Γ v) else .stop
 | .If c a b _ => .ite (cE Γ c) (cSs a) (cSs b)
 | .While c b o _ => if o.isEmpty then .whl (cE Γ c) (cSs b) else .stop
 | .For t it b o _ => if o.isEmpty then cFor Γ t (cE Γ it) (cSs b) else .stop
 | .Raise e c _ => if c.isSome then .stop else (oS? e).elim .stop fun e => (call? e.1).elim .stop fun C => (nm? C.1.1).elim .stop fun X => if C.1.2.2.1.isEmpty && isGlo Γ X.1.1 && plainArgs C.1.2.1 then (Γ.exc.lookup X.1.1).elim .stop fun D => .rai D (cEs Γ C.1.2.1) else .stop
 | .Try b hs o f _ => if o.isEmpty && f.isEmpty then cTry Γ b hs else .stop
 | .FunctionDef name _ _ ds rt tp _ ts bind _ => if ds.isEmpty && rt.isNone && tp.isEmpty && ts.isNone && name == bind then (idx name Γ.loc 0).elim .stop fun i => (Γ.defs.lookup name).elim .stop fun k => .defn i k else .stop
 | _ => .stop
noncomputable def cSs : List Stmt → List St
 | [] => []
 | s :: r => cS s :: cSs r
end
end
section
variable {G : GW} {c : Cx} {ι : Idx} {loc : Loc} {h : H} {s : Shared} {n : Nat}
inductive Via (G : GW) (c : Cx) (ι : Idx) (loc : Loc) (h : H) (s : Shared) : Prop
 | mk (m : Str → Option Value) (news : List (Addr × Obj)) (F : Fr c.g c.L s.heap m) (N : News c.g c.L s.heap news) (own : ∀ D, c.g.get? D = none → D ≠ c.L → (∀ p ∈ news, p.1 ≠ D) → Own c ι D)
  (back : ∀ hp tk, Fr c.g c.L hp m → (∀ p ∈ news, hp.get? p.1 = some p.2) → Rep G c ι loc h { s with heap := hp, toks := tk })
theorem Rep.all (k : c.Ok G n) (r : Rep G c ι loc h s) : ∀ a ∈ ι.ρ ++ (ι.imm.map (·.1) ++ c.below.map (·.1)), ∃ o, s.heap.get? a = some o ∧ a ≠ c.L ∧ c.g.get? a = none := fun a ha => by
 rcases List.mem_append.mp ha with ha | ha
 ·obtain ⟨i, hi, e⟩ := List.getElem_of_mem ha
  have hl : i < h.length := r.len ▸ hi
  obtain ⟨o, x, _⟩ := r.mu i a h[i] (by rw [List.getElem?_eq_getElem hi, e]) (List.getElem?_eq_getElem hl)
  exact ⟨o, x.1, fun q => x.2.2 (q ▸ List.mem_cons_self), x.2.1⟩
 ·rcases List.mem_append.mp ha with ha | ha
  ·obtain ⟨p', hp', rfl⟩ := List.mem_map.mp ha
   have x := r.im p' hp'
   exact ⟨_, x.1, fun q => x.2.2 (q ▸ List.mem_cons_self), x.2.1⟩
  ·obtain ⟨q, hq, rfl⟩ := List.mem_map.mp ha
   obtain ⟨o, _, _, e, _⟩ := r.bel q hq
   have hin : q.1 ∈ c.fas := List.mem_cons_of_mem _ (List.mem_map_of_mem hq)
   refine ⟨o, e, fun z => (List.nodup_cons.mp k.fd).1 (z ▸ List.mem_map_of_mem hq), ?_⟩
   cases z : c.g.get? q.1 with
   | none => rfl
   | some o => exact absurd (Heap.lt_size z) (Nat.not_lt.mpr (k.ab _ hin))
theorem Rep.via (k : c.Ok G n) (r : Rep G c ι loc h s) : Via G c ι loc h s := by
 obtain ⟨m, F, hm⟩ := r.fr k
 let f : Addr → Addr × Obj := fun a => (a, (s.heap.get? a).getD default)
 refine ⟨m, (ι.ρ ++ (ι.imm.map (·.1) ++ c.below.map (·.1))).map f, F, ?_, fun D h1 h2 h3 => ?_, fun hp tk F' N' => ?_⟩
 ·intro p hp
  obtain ⟨a, ha, rfl⟩ := List.mem_map.mp hp
  have key := r.all k a ha
  obtain ⟨o, e, x⟩ := key
  exact ⟨by simp [f, e], x⟩
 ·have hn : ∀ a ∈ ι.ρ ++ (ι.imm.map (·.1) ++ c.below.map (·.1)), a ≠ D := fun a ha q => h3 (f a) (List.mem_map_of_mem ha) q
  refine ⟨h1, fun q => ?_, fun q => hn _ (List.mem_append_left _ q) rfl, fun p hp => hn _ (List.mem_append_right _ (List.mem_append_left _ (List.mem_map_of_mem hp)))⟩
  rcases List.mem_cons.mp q with q | q
  ·exact h2 q
  ·exact hn _ (List.mem_append_right _ (List.mem_append_right _ q)) rfl
 ·have get : ∀ a, a ∈ ι.ρ ++ (ι.imm.map (·.1) ++ c.below.map (·.1)) → ∀ o, s.heap.get? a = some o → hp.get? a = some o := fun a ha o e => by
   have := N' (f a) (List.mem_map_of_mem ha)
   simpa [f, e] using this
  refine ⟨F'.keep, ⟨m, F'.ns, hm⟩, fun q hq => ?_, r.len, r.nd, fun i a lo e1 e2 => ?_, fun p hp' => ?_, r.dis, r.cel, r.gens, r.drawn, r.os, r.tb⟩
  ·obtain ⟨o, es, ep, e, x⟩ := r.bel q hq
   exact ⟨o, es, ep, get q.1 (List.mem_append_right _ (List.mem_append_right _ (List.mem_map_of_mem hq))) o e, x⟩
  ·obtain ⟨o, x, y⟩ := r.mu i a lo e1 e2
   exact ⟨o, ⟨get a (List.mem_append_left _ (List.mem_of_getElem? e1)) o x.1, x.2⟩, y⟩
  ·have x := r.im p hp'
   exact ⟨get p.1 (List.mem_append_right _ (List.mem_append_left _ (List.mem_map_of_mem hp'))) _ x.1, x.2⟩
inductive LstV (G : GW) (c : Cx) (ι : Idx) (s : Shared) (i : Nat) (xs : List V) (v : Value) : Prop
 | mk (a : Addr) (vs : List Value) (n : Nat) (e : v = .ref a) (e2 : ι.ρ[i]? = some a) (e1 : At c s.heap a (listOf vs.toArray n)) (y : RVs G ι xs vs)
theorem Rep.lst (r : Rep G c ι loc h s) {i : Nat} {xs : List V} {v : Value} (hx : RV G ι (.ref i) v) (e : h[i]? = some (.lst xs)) : LstV G c ι s i xs v := by
 obtain ⟨a, rfl, e'⟩ := hx
 obtain ⟨o, x, vs, n, rfl, y⟩ := r.mu i _ _ e' e
 exact ⟨_, vs, n, rfl, e', x, y⟩
theorem At.isList {a : Addr} {vs : Array Value} {m : Nat} (x : At c s.heap a (listOf vs m)) : s.heap.IsList a vs := ⟨_, x.1, rfl, m, rfl⟩
inductive TupV (G : GW) (ι : Idx) (s : Shared) (xs : List V) (v : Value) : Prop
 | mk (a : Addr) (vs : List Value) (n : Nat) (e : v = .ref a) (m : (a, tupO vs n) ∈ ι.imm) (e1 : s.heap.get? a = some (tupO vs n)) (y : RVs G ι xs vs)
theorem Rep.tupAt (r : Rep G c ι loc h s) {xs : List V} {v : Value} (hx : RV G ι (.tup xs) v) : TupV G ι s xs v := by
 cases hx with
 | mk a vs n e m y => exact ⟨_, _, _, e, m, (r.im _ m).1, y⟩
end
section
variable {G : GW} {c : Cx} {ι : Idx} {loc : Loc} {h : H} {n : Nat}
theorem Sim.val {t : Sem Value} {v : V} (x : ∀ s, Rep G c ι loc h s → ∀ (Q : Value → Shared → Prop) (E : Value → Shared → Prop), (∀ u tk, RV G ι v u → Q u { s with toks := tk }) → wpAny (model G.prog G.w) c.A t Q E s) :
  Sim G c ι loc h (fun _ => loc) (RV G) t (.ok v h) := fun s rep Q E hok _ _ => x s rep Q E fun u tk hu => hok v h ι _ u rfl (.refl _) (rep.toks tk) hu
theorem Sim.int {t : Sem Value} {i : Int} (x : ∀ s (Q : Value → Shared → Prop) (E : Value → Shared → Prop), Rep G c ι loc h s → (∀ u tk, Q (.int i u) { s with toks := tk }) → wpAny (model G.prog G.w) c.A t Q E s) :
  Sim G c ι loc h (fun _ => loc) (RV G) t (.ok (.int i) h) := Sim.val fun s rep Q E hq => x s Q E rep fun u tk => hq _ tk (.int i u)
theorem Sim.str {t : Sem Value} {x : Str} (y : ∀ s (Q : Value → Shared → Prop) (E : Value → Shared → Prop), Rep G c ι loc h s → (∀ u tk, Q (.str x u) { s with toks := tk }) → wpAny (model G.prog G.w) c.A t Q E s) :
  Sim G c ι loc h (fun _ => loc) (RV G) t (.ok (.str x) h) := Sim.val fun s rep Q E hq => y s Q E rep fun u tk => hq _ tk (.str x u)
theorem Sim.okP {α : Type} {lc : V → Loc} {R : Idx → V → α → Prop} {t : Sem α} {r : Res V} {p : Prop} [Decidable p] (x : p → Sim G c ι loc h lc R t r) : Sim G c ι loc h lc R t (okP p r) := by
 unfold Mine.okP
 split
 ·exact x ‹_›
 ·exact Sim.bad
theorem Sim.strH {t : Sem Value} {x : Str} (y : ∀ s, Rep G c ι loc h s → ∀ (Q : Value → Shared → Prop) (E : Value → Shared → Prop), (∀ hp tk u, Rep G c ι loc h { s with heap := hp, toks := tk } → Q (.str x u) { s with heap := hp, toks := tk }) → wpAny (model G.prog G.w) c.A t Q E s) :
  Sim G c ι loc h (fun _ => loc) (RV G) t (.ok (.str x) h) := fun s rep Q E hok _ _ => y s rep Q E fun hp tk u r => hok _ h ι _ _ rfl (.refl _) r (.str x u)
theorem Sim.intH {t : Sem Value} {x : Int} (y : ∀ s, Rep G c ι loc h s → ∀ (Q : Value → Shared → Prop) (E : Value → Shared → Prop), (∀ hp tk u, Rep G c ι loc h { s with heap := hp, toks := tk } → Q (.int x u) { s with heap := hp, toks := tk }) → wpAny (model G.prog G.w) c.A t Q E s) :
  Sim G c ι loc h (fun _ => loc) (RV G) t (.ok (.int x) h) := fun s rep Q E hok _ _ => y s rep Q E fun hp tk u r => hok _ h ι _ _ rfl (.refl _) r (.int x u)
theorem Sim.newL {t : Sem Value} {xs : List V} (x : ∀ s, Rep G c ι loc h s → ∀ (Q : Value → Shared → Prop) (E : Value → Shared → Prop),
  (∀ hp tk a vs n, Rep G c ι loc h { s with heap := hp, toks := tk } → Own c ι a → hp.get? a = some (listOf vs.toArray n) → RVs G ι xs vs → Q (.ref a) { s with heap := hp, toks := tk }) → wpAny (model G.prog G.w) c.A t Q E s) :
  Sim G c ι loc h (fun _ => loc) (RV G) t (newM h (.lst xs)) := by
 intro s rep Q E hok _ _
 refine x s rep Q E fun hp tk a vs n rep1 ha ho hv => ?_
 have le0 : ι.Le ⟨ι.ρ ++ [a], ι.imm⟩ := ⟨⟨[a], rfl⟩, fun p hp => hp⟩
 obtain ⟨rep', le⟩ := rep1.addM (tk := tk) (fun _ _ e => e) (lo := .lst xs) ho ha ⟨vs, n, rfl, hv.mono le0⟩
 exact hok _ _ _ _ _ rfl le rep' (.ref (by rw [List.getElem?_append_right (by rw [rep.len]; exact Nat.le_refl _), rep.len]; simp))
theorem size_ok {a b : Nat} (h : a ≤ 100000) (e : b = a) : b ≤ sizeLine := by subst e; unfold sizeLine; omega
end
section
variable {G : GW} {c : Cx} {ι : Idx} {loc : Loc} {h : H} {n : Nat}
theorem rvs_rep {x : V} {v : Value} (r : RV G ι x v) : ∀ m : Nat, RVs G ι (List.replicate m x) (List.replicate m v)
 | 0 => .nil
 | m + 1 => .cons r (rvs_rep r m)
theorem foldl_rep (v : Value) (m : Nat) (a : Array Value) : List.foldl (fun x1 x2 => x1 ++ x2) a (List.replicate m #[v]) = a ++ (List.replicate m v).toArray := by
 induction m generalizing a with
 | zero => exact Array.append_empty.symm
 | succ m ih =>
  rw [List.replicate_succ, List.foldl_cons, ih, List.replicate_succ]
  apply Array.ext'
  simp
theorem Sim.elim {α β γ : Type} {lc : β → Loc} {R : Idx → β → α → Prop} {t : Sem α} {x : Option γ} {f : γ → Res β} (y : ∀ v, x = some v → Sim G c ι loc h lc R t (f v)) : Sim G c ι loc h lc R t (x.elim .bad f) := by
 cases x with
 | none => exact Sim.bad
 | some v => exact y v rfl
theorem s_ii {t : Value → Value → Sem Value} {a b : V} {x y : Value} {f : Int → Int → Res V} (hx : RV G ι a x) (hy : RV G ι b y) (z : ∀ i j t1 t2, Sim G c ι loc h (fun _ => loc) (RV G) (t (.int i t1) (.int j t2)) (f i j)) :
  Sim G c ι loc h (fun _ => loc) (RV G) (t x y) (ii a b f) :=
 Sim.elim fun i e => Sim.elim fun j e' => by
  rw [i_of e] at hx
  rw [i_of e'] at hy
  obtain ⟨t1, rfl⟩ := hx
  obtain ⟨t2, rfl⟩ := hy
  exact z i j t1 t2
theorem s_add (k : c.Ok G n) {a b : V} {x y : Value} (hx : RV G ι a x) (hy : RV G ι b y) : Sim G c ι loc h (fun _ => loc) (RV G) (binaryOp .Add x y) (addV a b h) := by
 cases a with
 | int i =>
  refine Sim.elim fun j e => ?_
  rw [i_of e] at hy
  obtain ⟨t1, rfl⟩ := hx
  obtain ⟨t2, rfl⟩ := hy
  exact Sim.int fun s Q E _ hq => add_int (hq _ _)
 | str z =>
  refine Sim.elim fun j e => Sim.okP fun hz => ?_
  rw [s_of e] at hy
  obtain ⟨t1, rfl⟩ := hx
  obtain ⟨t2, rfl⟩ := hy
  exact Sim.str fun s Q E _ hq => add_str (fun t' tk => hq _ _) (Nat.le_trans hz (by decide +kernel))
 | ref i =>
  refine Sim.elim fun j e => Sim.elim fun xs e1 => Sim.elim fun ys e2 => Sim.okP fun hz => Sim.newL fun s rep Q E hq => ?_
  rw [r_of e] at hy
  obtain ⟨a, vs, m1, rfl, _, x1, y1⟩ := rep.lst hx (lst_of e1)
  obtain ⟨b, ws, m2, rfl, _, x2, y2⟩ := rep.lst hy (lst_of e2)
  obtain ⟨m, news, F, N, own, back⟩ := rep.via k
  refine add_arrays F N x1.isList x2.isList (fun h' F' N' => ?_) ?_
  ·have nw := N' _ (.head _)
   exact hq h' s.toks _ (vs ++ ws) 0 (back h' s.toks F' fun p hp => (N' p (.tail _ hp)).1) (rep.own (Nat.le_refl _)) nw.1 (y1.append y2)
  ·rw [List.size_toArray, List.size_toArray, ← y1.length, ← y2.length]
   exact Nat.le_trans hz (by decide +kernel)
 | _ => exact Sim.bad
theorem s_mul (k : c.Ok G n) {a b : V} {x y : Value} (hx : RV G ι a x) (hy : RV G ι b y) : Sim G c ι loc h (fun _ => loc) (RV G) (binaryOp .Mult x y) (mulV a b h) := by
 cases a with
 | int i =>
  refine Sim.elim fun j e => Sim.okP fun hz => Sim.int fun s Q E _ hq => ?_
  rw [i_of e] at hy
  obtain ⟨t1, rfl⟩ := hx
  obtain ⟨t2, rfl⟩ := hy
  refine PyProof.Rows.mul_int (hq _ _) ?_
  exact PySem.IntMulOk.of_right (PySem.intBits_le_64 (by omega) (by omega))
 | ref i =>
  refine Sim.elim fun kk e => Sim.elim fun x1 e1 => Sim.okP fun hz => Sim.newL fun s rep Q E hq => ?_
  rw [i_of e] at hy
  obtain ⟨xs, e2, e3⟩ := Option.bind_eq_some_iff.mp e1
  cases a1_of e3
  obtain ⟨a, vs, m1, rfl, _, x1, y1⟩ := rep.lst hx (lst_of e2)
  obtain ⟨t2, rfl⟩ := hy
  obtain ⟨m, news, F, N, own, back⟩ := rep.via k
  obtain ⟨v, ws, rfl, u1, u2⟩ := y1
  cases u2
  refine mul_list F N x1.1 (by omega) (by omega) (by simp only [List.size_toArray, List.length_cons, List.length_nil]; omega) fun h' F' N' => ?_
  have nw := N' _ (.head _)
  refine hq h' s.toks _ (List.replicate kk.toNat v) 0 (back h' s.toks F' fun p hp => (N' p (.tail _ hp)).1) (rep.own (Nat.le_refl _)) ?_ (rvs_rep u1 _)
  rw [nw.1]
  simp [foldl_rep]
 | _ => exact Sim.bad
theorem s_bin (k : c.Ok G n) {op : Operator} {a b : V} {x y : Value} (hx : RV G ι a x) (hy : RV G ι b y) :
  Sim G c ι loc h (fun _ => loc) (RV G) (binaryOp op x y) (binV op a b h) := by
 cases op with
 | Add => exact s_add k hx hy
 | Sub => exact s_ii hx hy fun i j t1 t2 => Sim.int fun s Q E _ hq => sub_int (hq _ _)
 | Mult => exact s_mul k hx hy
 | FloorDiv => exact s_ii hx hy fun i j t1 t2 => Sim.okP fun hz => Sim.int fun s Q E _ hq => floordiv_int hz.1 (hq _ _) (Or.inl (PyProof.noPylong_small (by omega)))
 | Mod => exact s_ii hx hy fun i j t1 t2 => Sim.okP fun hz => Sim.int fun s Q E _ hq => mod_int hz (hq _ _)
 | Pow =>
  refine s_ii hx hy fun i j t1 t2 => Sim.okP fun hz => Sim.int fun s Q E _ hq => ?_
  obtain ⟨rfl, h1, h2⟩ := hz
  exact pow_int h1 (by rw [show Builtin.Int.intBits 2 = 2 from by decide +kernel]; omega) (hq _ _)
 | LShift => exact s_ii hx hy fun i j t1 t2 => Sim.okP fun hz => Sim.int fun s Q E _ hq => lshift_int_small hz.1 (by omega) hz.2.2 (hq _ _)
 | RShift => exact s_ii hx hy fun i j t1 t2 => Sim.okP fun hz => Sim.int fun s Q E _ hq => rshift_int hz (hq _ _)
 | BitAnd => exact s_ii hx hy fun i j t1 t2 => Sim.int fun s Q E _ hq => and_int (hq _ _)
 | BitOr => exact s_ii hx hy fun i j t1 t2 => Sim.int fun s Q E _ hq => or_int (hq _ _)
 | BitXor => exact s_ii hx hy fun i j t1 t2 => Sim.int fun s Q E _ hq => xor_int (hq _ _)
 | _ => exact Sim.bad
end
noncomputable def RB (_ : Idx) (b : Bool) (v : Value) : Prop := v = .bool b
noncomputable def RT (_ : Idx) (b : Bool) (v : Bool) : Prop := v = b
theorem V.both {P1 : V → Prop} {P2 : List V → Prop} (a : P1 .none) (b : ∀ x, P1 (.bool x)) (c : ∀ x, P1 (.int x)) (d : ∀ x, P1 (.str x)) (e : ∀ xs, P2 xs → P1 (.tup xs)) (f : ∀ x, P1 (.ref x)) (g : ∀ k cs, P1 (.clo k cs)) (i : ∀ C k, P1 (.exn C k)) (j : ∀ x, P1 (.sc x)) (k : P2 [])
  (l : ∀ x xs, P1 x → P2 xs → P2 (x :: xs)) : (∀ x, P1 x) ∧ ∀ xs, P2 xs := ⟨@V.rec P1 P2 a b c d e f g i j k l, @V.rec_1 P1 P2 a b c d e f g i j k l⟩
section
variable {G : GW} {ι : Idx} {hp : Heap}
theorem reads_both (im : ∀ p ∈ ι.imm, hp.get? p.1 = some p.2) : (∀ x : V, x.plain = true → ∀ v, RV G ι x v → ∃ as, Reads hp v x.py as) ∧ ∀ xs : List V, V.plains xs = true → ∀ vs, RVs G ι xs vs → ∃ as, ReadsAll hp vs (V.pys xs) as := by
 refine V.both (fun _ v r => ?_) (fun b _ v r => ?_) (fun b _ v r => ?_) (fun b _ v r => ?_) (fun xs ih e v r => ?_) (fun _ e => nomatch (show false = true from e)) (fun _ _ e => nomatch (show false = true from e)) (fun _ _ e => nomatch (show false = true from e)) (fun _ e => nomatch (show false = true from e))
  (fun _ vs r => ?_) (fun x xs i1 i2 e vs r => ?_)
 ·cases r; exact ⟨_, Reads.none⟩
 ·cases r; exact ⟨_, Reads.bool b⟩
 ·obtain ⟨t, rfl⟩ := r; exact ⟨_, Reads.int b t⟩
 ·obtain ⟨t, rfl⟩ := r; exact ⟨_, Reads.str b t⟩
 ·cases r with
  | mk a vs n e1 m y =>
   subst e1
   obtain ⟨as, q⟩ := ih e vs y
   exact ⟨as, reads_tuple_at (im _ m) rfl rfl q⟩
 ·cases r; exact ⟨_, ReadsAll.nil⟩
 ·obtain ⟨v, ws, rfl, a, b⟩ := r
  have e := Bool.and_eq_true_iff.mp e
  obtain ⟨as, p⟩ := i1 e.1 v a
  obtain ⟨bs, q⟩ := i2 e.2 ws b
  exact ⟨_, ReadsAll.cons p q⟩
theorem reads_of (im : ∀ p ∈ ι.imm, hp.get? p.1 = some p.2) {x : V} {v : Value} (r : RV G ι x v) (e : x.plain = true) : ∃ as, Reads hp v x.py as := (reads_both im).1 x e v r
theorem readsAll_of (im : ∀ p ∈ ι.imm, hp.get? p.1 = some p.2) {x : List V} {v : List Value} (r : RVs G ι x v) (e : V.plains x = true) : ∃ as, ReadsAll hp v (V.pys x) as := (reads_both im).2 x e v r
end
theorem canLay_both : (∀ x : V, x.plain = true → x.py.canLay0 = true ∧ x.py.depth ≤ x.dep + 1) ∧ ∀ xs : List V, V.plains xs = true → PyData.canLayAll0 (V.pys xs) = true ∧ PyData.depthAll (V.pys xs) ≤ V.deps xs + 1 := by
 refine V.both (fun _ => ⟨rfl, Nat.zero_le 1⟩) (fun _ _ => ⟨rfl, Nat.zero_le 1⟩) (fun _ _ => ⟨rfl, Nat.zero_le 1⟩) (fun x e => ⟨e, Nat.zero_le 1⟩) (fun xs ih e => ?_) (fun _ e => nomatch (show false = true from e)) (fun _ _ e => nomatch (show false = true from e)) (fun _ _ e => nomatch (show false = true from e))
  (fun _ e => nomatch (show false = true from e)) (fun _ => ⟨rfl, by decide⟩) (fun x xs i1 i2 e => ?_)
 ·obtain ⟨a, b⟩ := ih e
  exact ⟨a, Nat.succ_le_succ b⟩
 ·have e := Bool.and_eq_true_iff.mp e
  obtain ⟨a, b⟩ := i1 e.1
  obtain ⟨c, d⟩ := i2 e.2
  exact ⟨Bool.and_eq_true_iff.mpr ⟨a, c⟩, Nat.max_le.mpr ⟨Nat.le_trans b (Nat.succ_le_succ (Nat.le_max_left _ _)), Nat.le_trans d (Nat.succ_le_succ (Nat.le_max_right _ _))⟩⟩
theorem canLays_of (xs : List V) (e : V.plains xs = true) : PyData.canLayAll0 (V.pys xs) = true ∧ PyData.depthAll (V.pys xs) ≤ V.deps xs + 1 := canLay_both.2 xs e
theorem shaped_tup {xs : List V} (e : plainL xs = true) : SeqAt.shaped (.tuple (V.pys xs)) = true := by
 have e := Bool.and_eq_true_iff.mp e
 obtain ⟨a, b⟩ := canLays_of xs e.1
 have d := of_decide_eq_true e.2
 unfold SeqAt.shaped
 simp only [PyData.canLay0, PyData.depth, a, Bool.true_and]
 exact decide_eq_true (by omega)
theorem shaped_lst {xs : List V} (e : plainL xs = true) : SeqAt.shaped (.list (V.pys xs)) = true := by
 have e := Bool.and_eq_true_iff.mp e
 obtain ⟨a, b⟩ := canLays_of xs e.1
 have d := of_decide_eq_true e.2
 unfold SeqAt.shaped
 simp only [PyData.canLay0, PyData.depth, a, Bool.true_and]
 exact decide_eq_true (by omega)
section
variable {G : GW} {c : Cx} {ι : Idx} {loc : Loc} {h : H} {n : Nat}
theorem Sim.boolB {t : Sem Value} {r : Option Bool} (x : ∀ b, r = some b → ∀ s, Rep G c ι loc h s → ∀ (Q : Value → Shared → Prop) (E : Value → Shared → Prop), (∀ tk, Q (.bool b) { s with toks := tk }) → wpAny (model G.prog G.w) c.A t Q E s) :
  Sim G c ι loc h (fun _ => loc) RB t (optB r h) := by
 cases r with
 | none => exact Sim.bad
 | some b => exact fun s rep Q E hok _ _ => x b rfl s rep Q E fun tk => hok b h ι _ _ rfl (.refl _) (rep.toks tk) rfl
theorem plains_im {s : Shared} (rep : Rep G c ι loc h s) : ∀ p ∈ ι.imm, s.heap.get? p.1 = some p.2 := fun p hp => (rep.im p hp).1
theorem reads_tupV {s : Shared} (rep : Rep G c ι loc h s) {xs : List V} {v : Value} (hx : RV G ι (.tup xs) v) (e : plainL xs = true) : ∃ as, Reads s.heap v (.tuple (V.pys xs)) as :=
 reads_of (plains_im rep) hx (Bool.and_eq_true_iff.mp e).1
theorem reads_lstV {s : Shared} (rep : Rep G c ι loc h s) {i : Nat} {xs : List V} {v : Value} (hx : RV G ι (.ref i) v) (hi : h[i]? = some (.lst xs)) (e : plainL xs = true) : ∃ as, Reads s.heap v (.list (V.pys xs)) as := by
 obtain ⟨a, vs, m, rfl, _, x, y⟩ := rep.lst hx hi
 obtain ⟨as, q⟩ := readsAll_of (plains_im rep) y (Bool.and_eq_true_iff.mp e).1
 exact ⟨_, reads_list_at x.1 rfl rfl q⟩
theorem units_eq (k : c.Ok G n) : c.A.units + 64 < cLine := Nat.lt_of_lt_of_le (Nat.add_lt_add_right (Nat.lt_of_le_of_lt (Nat.le_add_right _ _) k.un) 64) (by decide)
theorem w_eq (k : c.Ok G n) {a b : V} {x y : Value} (hx : RV G ι a x) (hy : RV G ι b y) {r : Bool} (e : eqV h a b = some r) {s : Shared} (rep : Rep G c ι loc h s) {Q : Value → Shared → Prop} {E : Value → Shared → Prop} :
  ((∀ tk, Q (.bool r) { s with toks := tk }) → wpAny (model G.prog G.w) c.A (compareOp .Eq x y) Q E s) ∧
  ((∀ tk, Q (.bool (!r)) { s with toks := tk }) → wpAny (model G.prog G.w) c.A (compareOp .NotEq x y) Q E s) := by
 have no : ∀ {P : Prop}, (none : Option Bool) = some r → P := fun q => nomatch q
 cases a with
 | int i =>
  obtain ⟨j, e1, rfl⟩ := Option.map_eq_some_iff.mp e
  rw [i_of e1] at hy
  obtain ⟨t1, rfl⟩ := hx
  obtain ⟨t2, rfl⟩ := hy
  exact ⟨fun hq => PyProof.Rows.eq_int (hq _), fun hq => PyProof.Rows.ne_int (hq _)⟩
 | str i =>
  obtain ⟨j, e1, rfl⟩ := Option.map_eq_some_iff.mp e
  rw [s_of e1] at hy
  obtain ⟨t1, rfl⟩ := hx
  obtain ⟨t2, rfl⟩ := hy
  exact ⟨fun hq => PyProof.Rows.eq_str (hq _), fun hq => PyProof.Rows.ne_str (hq _)⟩
 | tup xs =>
  obtain ⟨ys, e1, e2⟩ := Option.bind_eq_some_iff.mp e
  rw [t_of e1] at hy
  cases he : plainL xs && plainL ys with
  | false => rw [he] at e2; exact no e2
  | true =>
   rw [he] at e2
   cases e2
   have he := Bool.and_eq_true_iff.mp he
   obtain ⟨as, ra⟩ := reads_tupV rep hx he.1
   obtain ⟨bs, rb⟩ := reads_tupV rep hy he.2
   exact ⟨fun hq => eq_dataH ra rb (shaped_tup he.1) (shaped_tup he.2) (units_eq k) (hq _), fun hq => ne_dataH ra rb (shaped_tup he.1) (shaped_tup he.2) (units_eq k) (hq _)⟩
 | ref i =>
  obtain ⟨j, e1, e2⟩ := Option.bind_eq_some_iff.mp e
  obtain ⟨xs, h1, e2⟩ := Option.bind_eq_some_iff.mp e2
  obtain ⟨ys, h2, e2⟩ := Option.bind_eq_some_iff.mp e2
  rw [r_of e1] at hy
  cases he : plainL xs && plainL ys with
  | false => rw [he] at e2; exact no e2
  | true =>
   rw [he] at e2
   cases e2
   have he := Bool.and_eq_true_iff.mp he
   obtain ⟨as, ra⟩ := reads_lstV rep hx (lst_of h1) he.1
   obtain ⟨bs, rb⟩ := reads_lstV rep hy (lst_of h2) he.2
   exact ⟨fun hq => eq_dataH ra rb (shaped_lst he.1) (shaped_lst he.2) (units_eq k) (hq _), fun hq => ne_dataH ra rb (shaped_lst he.1) (shaped_lst he.2) (units_eq k) (hq _)⟩
 | _ => exact no e
theorem isNone_of {a : V} {x : Value} (hx : RV G ι a x) {r : Bool} (e : isNoneV a = some r) : (x == .none) = r := by
 cases a with
 | none => cases e; cases hx; rfl
 | int i => cases e; obtain ⟨t, rfl⟩ := hx; rfl
 | str i => cases e; obtain ⟨t, rfl⟩ := hx; rfl
 | tup i => cases e; cases hx with | mk a vs n e m y => subst e; rfl
 | ref i => cases e; obtain ⟨a, rfl, _⟩ := hx; rfl
 | _ => cases e
theorem strsAre_of {xs : List V} {vs : List Value} {ys : List Str} (p : RVs G ι xs vs) (e : strsV xs = some ys) : StrsAre vs ys := by
 induction xs generalizing vs ys with
 | nil => cases e; cases p; exact .nil
 | cons x xs ih =>
  obtain ⟨v, ws, rfl, a, b⟩ := p
  obtain ⟨z, e1, e2⟩ := Option.bind_eq_some_iff.mp e
  obtain ⟨zs, e3, rfl⟩ := Option.map_eq_some_iff.mp e2
  rw [s_of e1] at a
  obtain ⟨t, rfl⟩ := a
  exact .cons _ _ (ih b e3)
theorem find_cons (y x : Str) (t : Tok) (hs : Int) (u : Value) (ds : List DictEntry) : findBy Value.isStrOf (⟨hs, .str x t, u⟩ :: ds).toArray y = if y = x then some u else findBy Value.isStrOf ds.toArray y := by
 unfold findBy
 rw [List.find?_toArray, List.find?_toArray, List.find?_cons]
 by_cases q : y = x
 ·subst q
  rw [if_pos rfl, show Value.isStrOf y (⟨hs, .str y t, u⟩ : DictEntry).key = true from beq_self_eq_true y]
  rfl
 ·rw [if_neg q]
  have q' : Value.isStrOf y (⟨hs, .str x t, u⟩ : DictEntry).key = false := by
   first
    | exact beq_eq_false_iff_ne.mpr q
    | exact beq_eq_false_iff_ne.mpr (Ne.symm q)
  rw [q']
theorem rds_find {es : List (Str × V)} {ds : List DictEntry} (p : RDs G ι es ds) (y : Str) : (es.lookup y = none → findBy Value.isStrOf ds.toArray y = none) ∧ (∀ v, es.lookup y = some v → ∃ u, findBy Value.isStrOf ds.toArray y = some u ∧ RV G ι v u) := by
 induction es generalizing ds with
 | nil => cases p; exact ⟨fun _ => rfl, fun v e => nomatch e⟩
 | cons x es ih =>
  obtain ⟨t, u, ds', rfl, a, b⟩ := p
  rw [find_cons, List.lookup_cons]
  by_cases q : y = x.1
  ·rw [q, beq_self_eq_true, if_pos rfl]
   exact ⟨(fun e => nomatch e), fun w e => by cases e; exact ⟨u, rfl, a⟩⟩
  ·rw [beq_eq_false_iff_ne.mpr q, if_neg q]
   exact ih b
theorem rds_keys {es : List (Str × V)} {ds : List DictEntry} (p : RDs G ι es ds) : ∀ e ∈ ds, ∃ x t, e.key = .str x t ∧ e.hash = PyData.keyHash G.w.params x := by
 induction es generalizing ds with
 | nil => cases p; exact fun e he => nomatch he
 | cons x es ih =>
  obtain ⟨t, u, ds', rfl, a, b⟩ := p
  intro e he
  rcases List.mem_cons.mp he with rfl | he
  ·exact ⟨_, _, rfl, rfl⟩
  ·exact ih b e he
inductive MapV (G : GW) (c : Cx) (ι : Idx) (s : Shared) (d : Nat) (es : List (Str × V)) (v : Value) : Prop
 | mk (a : Addr) (ds : List DictEntry) (m : Nat) (e : v = .ref a) (e' : ι.ρ[d]? = some a) (x : At c s.heap a (dictOf ds m)) (y : RDs G ι es ds) (z : s.heap.MapOf (strKind G.prog G.w) a (fun y => findBy Value.isStrOf ds.toArray y))
theorem mapOf_of {s : Shared} (rep : Rep G c ι loc h s) {d : Nat} {es : List (Str × V)} {v : Value} (hx : RV G ι (.ref d) v) (e : h[d]? = some (.dct es)) : MapV G c ι s d es v := by
 obtain ⟨a, rfl, e'⟩ := hx
 obtain ⟨o, x, ds, m, rfl, y⟩ := rep.mu d _ _ e' e
 refine ⟨_, ds, m, rfl, e', x, y, _, ds.toArray, m, x.1, ⟨rfl, rfl, rfl⟩, rfl, fun en hen => ?_, fun _ => rfl⟩
 obtain ⟨z, t, e1, e2⟩ := rds_keys y en (List.mem_toArray.mp hen)
 exact ⟨z, by rw [e1]; exact strKind_is _ _ _ _, e2⟩
theorem sysmod_ne {s : Shared} (k : c.Ok G n) {a : Addr} {o : Obj} (x : At c s.heap a o) : (a == sysModules) = false := by
 obtain ⟨o', e⟩ := k.sm
 simp only [beq_eq_false_iff_ne, ne_eq]
 intro q
 subst q
 have := x.2.1
 rw [e] at this; cases this
theorem w_in (k : c.Ok G n) {a b : V} {x y : Value} (hx : RV G ι a x) (hy : RV G ι b y) {r : Bool} (e : inV h a b = some r) {s : Shared} (rep : Rep G c ι loc h s) {Q : Value → Shared → Prop} {E : Value → Shared → Prop} :
  ((∀ tk, Q (.bool r) { s with toks := tk }) → wpAny (model G.prog G.w) c.A (compareOp .In x y) Q E s) ∧
  ((∀ tk, Q (.bool (!r)) { s with toks := tk }) → wpAny (model G.prog G.w) c.A (compareOp .NotIn x y) Q E s) := by
 obtain ⟨z, e1, e⟩ := Option.bind_eq_some_iff.mp e
 rw [s_of e1] at hx
 obtain ⟨t, rfl⟩ := hx
 cases b with
 | str x =>
  cases e
  obtain ⟨t2, rfl⟩ := hy
  exact ⟨fun hq => in_str (hq _), fun hq => notIn_str (hq _)⟩
 | tup xs =>
  obtain ⟨ys, e0, rfl⟩ := Option.map_eq_some_iff.mp e
  obtain ⟨t, vs, m, rfl, _, e1, e2⟩ := rep.tupAt hy
  have ht : IsTup s.heap t vs.toArray := ⟨_, e1, rfl, m, rfl⟩
  have hs := strsAre_of e2 e0
  refine ⟨fun hq => in_tuple_strs ht hs (hq _), fun hq => ?_⟩
  show wpAny _ _ (do return .bool (!(← contains (.ref t) (.str z _)))) Q E s
  exact wpAny_bind (contains_tuple_strs ht hs (wpAny_pure (hq _)))
 | ref d =>
  obtain ⟨es, hd, rfl⟩ := Option.map_eq_some_iff.mp e
  obtain ⟨t, ds, m, rfl, _, e1, e2, e3⟩ := mapOf_of rep hy (dct_of hd)
  have hf := rds_find e2 z
  have hb : (findBy Value.isStrOf ds.toArray z).isSome = (es.lookup z).isSome := by
   cases q : es.lookup z with
   | none => rw [hf.1 q]; rfl
   | some v => obtain ⟨u, q1, _⟩ := hf.2 v q; rw [q1]; rfl
  exact ⟨fun hq => wpAny_in_of (strKind_is _ _ _ _) (sysmod_ne k e1) e3 (by rw [hb]; exact hq _), fun hq => wpAny_notIn_of (strKind_is _ _ _ _) (sysmod_ne k e1) e3 (by rw [hb]; exact hq _)⟩
 | _ => cases e
theorem lt_of {t : Value → Value → Sem Value} {a b : V} {x y : Value} {f : Int → Int → Bool} {r : Bool} (hx : RV G ι a x) (hy : RV G ι b y) (e : ltV a b f = some r) {s : Shared} {Q : Value → Shared → Prop} {E : Value → Shared → Prop}
  (z : ∀ i j t1 t2, r = f i j → wpAny (model G.prog G.w) c.A (t (.int i t1) (.int j t2)) Q E s) : wpAny (model G.prog G.w) c.A (t x y) Q E s := by
 obtain ⟨i, e1, e⟩ := Option.bind_eq_some_iff.mp e
 obtain ⟨j, e2, rfl⟩ := Option.map_eq_some_iff.mp e
 rw [i_of e1] at hx
 rw [i_of e2] at hy
 obtain ⟨t1, rfl⟩ := hx
 obtain ⟨t2, rfl⟩ := hy
 exact z i j t1 t2 rfl
theorem s_cmp (k : c.Ok G n) {op : CmpOp} {a b : V} {x y : Value} (hx : RV G ι a x) (hy : RV G ι b y) : Sim G c ι loc h (fun _ => loc) RB (compareOp op x y) (cmpR op a b h) := by
 unfold cmpR
 refine Sim.boolB fun r e s rep Q E hq => ?_
 cases op with
 | Eq => exact (w_eq k hx hy e rep).1 hq
 | NotEq =>
  obtain ⟨r', e0, rfl⟩ := Option.map_eq_some_iff.mp (show (eqV h a b).map not = some r from e)
  exact (w_eq k hx hy e0 rep).2 hq
 | In => exact (w_in k hx hy e rep).1 hq
 | NotIn =>
  obtain ⟨r', e0, rfl⟩ := Option.map_eq_some_iff.mp (show (inV h a b).map not = some r from e)
  exact (w_in k hx hy e0 rep).2 hq
 | Lt => exact lt_of hx hy e fun i j _ _ q => by subst q; exact PyProof.Rows.lt_int (hq _)
 | LtE => exact lt_of hx hy e fun i j _ _ q => by subst q; exact PyProof.Rows.le_int (hq _)
 | Gt => exact lt_of hx hy e fun i j _ _ q => by subst q; exact PyProof.Rows.gt_int (hq _)
 | GtE => exact lt_of hx hy e fun i j _ _ q => by subst q; exact PyProof.Rows.ge_int (hq _)
 | Is =>
  obtain ⟨_, e1, e⟩ := Option.bind_eq_some_iff.mp e
  rw [n_of e1] at hy
  cases hy
  exact is_none (by rw [isNone_of hx e]; exact hq _)
 | IsNot =>
  obtain ⟨_, e1, e⟩ := Option.bind_eq_some_iff.mp e
  obtain ⟨r', e0, rfl⟩ := Option.map_eq_some_iff.mp e
  rw [n_of e1] at hy
  cases hy
  exact isNot_none (by rw [isNone_of hx e0]; exact hq _)
end
structure GK (G : GW) : Prop where
 get : ∀ C, C ∈ G.cls → ∀ n : Str, plainGet G.K C n = true
 dic : ∀ C, C ∈ G.cls → hasDictIn G.K C = true
 attr : ∀ C, C ∈ G.cls → ∀ n ∈ G.an, findIn G.K (.ref C) n = some none
 set : ∀ C, C ∈ G.cls → findIn G.K (.ref C) "__setattr__" = some (some (.builtin "object.__setattr__"))
 over : ∀ C, C ∈ G.cls → plainOver G.K C = true
theorem subscripted_no {slice : Expr} (hn : notSlice slice = true) (o i : Value) : subscripted slice false o i = PySem.operate [o, i] (getItem o i) := by
 cases slice <;> first | rfl | cases hn
section
variable {G : GW} {c : Cx} {ι : Idx} {loc : Loc} {h : H} {n : Nat}
theorem s_truthy {v : V} {x : Value} (hx : RV G ι v x) : Sim G c ι loc h (fun _ => loc) RT (truthy x) (truthR v h) := by
 unfold truthR
 cases e : truthV h v with
 | none => exact Sim.bad
 | some b =>
  intro s rep Q E hok _ _
  have fin : ∀ tk, Q b { s with toks := tk } := fun tk => hok b h ι _ _ rfl (.refl _) (rep.toks tk) rfl
  cases v with
  | none => cases hx; cases e; exact truthy_none (fin _)
  | bool => cases hx; cases e; exact wpAny_truthy_bool (fin _)
  | int => obtain ⟨t, rfl⟩ := hx; cases e; exact PyProof.Rows.truthy_int (fin _)
  | str x =>
   obtain ⟨t, rfl⟩ := hx
   by_cases q : x.length ≤ 100000
   ·rw [show truthV h (.str x) = some (x.length != 0) from if_pos q] at e
    cases e
    refine P.truthy_str (by omega) ?_
    have e2 : ∀ m : Nat, ((m : Int) != 0) = (m != 0) := fun m => by
     cases m with
     | zero => rfl
     | succ k => rfl
    rw [e2]
    exact fin _
   ·rw [show truthV h (.str x) = none from if_neg q] at e
    cases e
  | _ => cases e
theorem seqIdx {k : Int} {m j : Nat} (e : seqIndex? k m = some j) : (0 ≤ k ∧ k < m ∧ j = k.toNat) ∨ (k < 0 ∧ -(m : Int) ≤ k ∧ j = (k + m).toNat) := by
 unfold seqIndex? at e
 by_cases q : k < 0
 ·right
  simp only [q, if_true] at e
  obtain ⟨hc, e⟩ := Option.ite_none_right_eq_some.mp e
  simp only [Bool.and_eq_true, decide_eq_true_eq] at hc
  exact ⟨q, by omega, by injection e with e; exact e.symm⟩
 ·left
  simp only [q, if_false] at e
  obtain ⟨hc, e⟩ := Option.ite_none_right_eq_some.mp e
  simp only [Bool.and_eq_true, decide_eq_true_eq] at hc
  exact ⟨by omega, by omega, by injection e with e; exact e.symm⟩
theorem s_pick {xs : List V} {kk : Int} {t : Sem Value} (z : ∀ v j, seqIndex? kk xs.length = some j → xs[j]? = some v → -(2 ^ 60) ≤ kk ∧ kk < 2 ^ 60 → Sim G c ι loc h (fun _ => loc) (RV G) t (.ok v h)) : Sim G c ι loc h (fun _ => loc) (RV G) t (pickS xs kk h) :=
 Sim.elim fun v e => Sim.okP fun hz => by
  obtain ⟨j, hj, hv⟩ := Option.bind_eq_some_iff.mp e
  exact z v j hj hv hz
theorem w_sub (k : c.Ok G n) {a i : V} {x y : Value} (hx : RV G ι a x) (hy : RV G ι i y) {value slice : Expr} (hn : notSlice slice = true) :
  Sim G c ι loc h (fun _ => loc) (RV G) (subscriptTail value slice x y) (subV a i h) := by
 cases a with
 | tup xs =>
  refine Sim.elim fun kk e0 => s_pick fun v j hj hv hz => Sim.val fun s rep Q E hq => ?_
  rw [i_of e0] at hy
  obtain ⟨a, vs, m, rfl, _, e1, e2⟩ := rep.tupAt hx
  obtain ⟨t, rfl⟩ := hy
  obtain ⟨u, hu, ru⟩ := e2.get hv
  have ht : IsTup s.heap a vs.toArray := ⟨_, e1, rfl, m, rfl⟩
  exact tail_any ht.typeIs slot_tuple_getitem.lookup (getItem_tuple ht (by omega) (by omega) (by simpa [e2.length] using hj) (by simpa using hu) (hq u s.toks ru)) (subscripted_no hn _ _)
 | ref r =>
  cases i with
  | int kk =>
   refine Sim.elim fun xs hr => s_pick fun v j hj hv hz => Sim.val fun s rep Q E hq => ?_
   obtain ⟨a, vs, m, rfl, _, e1, e2⟩ := rep.lst hx (lst_of hr)
   obtain ⟨t, rfl⟩ := hy
   obtain ⟨u, hu, ru⟩ := e2.get hv
   have hl := e1.isList
   refine tail_any hl.typeIs slot_list_getitem.lookup ?_ (subscripted_no hn _ _)
   rcases seqIdx hj with ⟨h0, h1, rfl⟩ | ⟨h0, h1, rfl⟩
   ·exact wpAny_getItem_list hl h0 (by omega) (by simpa using hu) (hq u s.toks ru)
   ·have el : xs.length = vs.toArray.size := by rw [List.size_toArray]; exact e2.length
    exact wpAny_getItem_list_neg hl h0 (by rw [← el]; exact h1) (by omega) (by rw [← el]; simpa using hu) (hq u s.toks ru)
  | str y =>
   refine Sim.elim fun v e => Sim.val fun s rep Q E hq => ?_
   obtain ⟨es, hd, e⟩ := Option.bind_eq_some_iff.mp e
   obtain ⟨t, rfl⟩ := hy
   obtain ⟨a, ds, m, rfl, _, e1, e2, e3⟩ := mapOf_of rep hx (dct_of hd)
   obtain ⟨u, hu, ru⟩ := (rds_find e2 y).2 v e
   exact tail_any e3.typeIs slot_dict_getitem.lookup (wpAny_getItem_of (strKind_is _ _ _ _) e3 hu (hq u _ ru)) (subscripted_no hn _ _)
  | _ => exact Sim.bad
 | str x =>
  refine Sim.elim fun kk e0 => Sim.elim fun ch e => Sim.okP fun hz => Sim.str fun s Q E rep hq => ?_
  rw [i_of e0] at hy
  obtain ⟨t, rfl⟩ := hx
  obtain ⟨t2, rfl⟩ := hy
  refine tail_any (typeIs_str _ _ _) F.slot_str_getitem.lookup (P.getItem_str ?_ e (hq _ _)) (subscripted_no hn _ _)
  simp only [Bool.or_eq_false_iff, decide_eq_false_iff_not]
  omega
 | _ => exact Sim.bad
theorem getL_cons (y x : Str) (t : Tok) (hs : Int) (u : Value) (ds : List DictEntry) : getL y (⟨hs, .str x t, u⟩ :: ds) = if x == y then some (some u) else getL y ds := by
 unfold getL
 have e1 : (Value.str x t).isStr y = (x == y) := rfl
 have e2 : (⟨hs, .str x t, u⟩ : DictEntry).refKey = false := rfl
 rw [List.find?_cons]
 rw [show (⟨hs, .str x t, u⟩ : DictEntry).key.isStr y = (x == y) from rfl]
 cases (x == y) with
 | true => rfl
 | false =>
  rw [if_neg Bool.false_ne_true]
  dsimp only
  cases List.find? (fun x => x.key.isStr y) ds with
  | some e => rfl
  | none =>
   dsimp only
   have e3 : (List.any ((⟨hs, .str x t, u⟩ : DictEntry) :: ds) fun x => x.refKey) = ds.any fun x => x.refKey := by
    rw [List.any_cons, e2, Bool.false_or]
   rw [e3]
theorem RDs.getL_at {es : List (Str × V)} {ds : List DictEntry} (p : RDs G ι es ds) (y : Str) : (es.lookup y = none → getL y ds = some none) ∧ ∀ v : V, es.lookup y = some v → ∃ u, getL y ds = some (some u) ∧ RV G ι v u := by
 induction es generalizing ds with
 | nil => cases p; exact ⟨fun _ => rfl, (fun v e => nomatch e)⟩
 | cons x es ih =>
  obtain ⟨t, u, ds', rfl, a, b⟩ := p
  rw [getL_cons, List.lookup_cons]
  by_cases q : y = x.1
  ·rw [q, beq_self_eq_true, if_pos rfl]
   exact ⟨(fun e => nomatch e), fun w e => by cases e; exact ⟨u, rfl, a⟩⟩
  ·rw [beq_eq_false_iff_ne.mpr q, beq_eq_false_iff_ne.mpr (Ne.symm q), if_neg Bool.false_ne_true]
   exact ih b
theorem RDs.getL_none {es : List (Str × V)} {ds : List DictEntry} (p : RDs G ι es ds) (y : Str) (e : es.lookup y = none) : getL y ds = some none := (p.getL_at y).1 e
theorem RDs.getL_some {es : List (Str × V)} {ds : List DictEntry} (p : RDs G ι es ds) (y : Str) (v : V) (e : es.lookup y = some v) : ∃ u, getL y ds = some (some u) ∧ RV G ι v u := (p.getL_at y).2 v e
end
section
variable {G : GW} {c : Cx} {ι : Idx} {loc : Loc} {h : H} {s : Shared} {n : Nat}
inductive ViaAt (G : GW) (c : Cx) (ι : Idx) (loc : Loc) (h : H) (s : Shared) (d : Nat) (dx : Addr) : Prop
 | mk (m : Str → Option Value) (rest : List (Addr × Obj)) (o : Obj) (F : Fr c.g c.L s.heap m) (N : News c.g c.L s.heap ((dx, o) :: rest)) (go : s.heap.get? dx = some o)
  (hne : ∀ p ∈ rest, p.1 ≠ dx) (back : ∀ hp tk o' lo, Fr c.g c.L hp m → News c.g c.L hp ((dx, o') :: rest) → ORel G ι lo o' → Rep G c ι loc (h.set d lo) { s with heap := hp, toks := tk })
theorem Rep.viaAt (k : c.Ok G n) (r : Rep G c ι loc h s) {d : Nat} {dx : Addr} (hd : ι.ρ[d]? = some dx) : ViaAt G c ι loc h s d dx := by
 obtain ⟨m, F, hm⟩ := r.fr k
 have hl : d < h.length := r.len ▸ (List.getElem?_eq_some_iff.mp hd).1
 obtain ⟨od, xd, yd⟩ := r.mu d dx h[d] hd (List.getElem?_eq_getElem hl)
 let f : Addr → Addr × Obj := fun a => (a, (s.heap.get? a).getD default)
 let all : List Addr := ι.ρ ++ (ι.imm.map (·.1) ++ c.below.map (·.1))
 have key := r.all k
 refine ⟨m, (all.filter (· ≠ dx)).map f, od, F, ?_, xd.1, ?_, fun hp tk o' lo F' N' hr => ?_⟩
 ·intro p hp
  rcases List.mem_cons.mp hp with rfl | hp
  ·exact ⟨xd.1, fun q => xd.2.2 (by rw [show dx = c.L from q]; exact List.mem_cons_self), xd.2.1⟩
  ·obtain ⟨a, ha, rfl⟩ := List.mem_map.mp hp
   obtain ⟨o, e, x⟩ := key a (List.mem_filter.mp ha).1
   exact ⟨by simp [f, e], x⟩
 ·intro p hp
  obtain ⟨a, ha, rfl⟩ := List.mem_map.mp hp
  simpa using (List.mem_filter.mp ha).2
 ·have get : ∀ a, a ∈ all → a ≠ dx → ∀ o, s.heap.get? a = some o → hp.get? a = some o := fun a ha hne o e => by
   have := (N' (f a) (.tail _ (List.mem_map_of_mem (List.mem_filter.mpr ⟨ha, by simpa using hne⟩)))).1
   simpa [f, e] using this
  have hdρ : dx ∈ ι.ρ := List.mem_of_getElem? hd
  refine ⟨F'.keep, ⟨m, F'.ns, hm⟩, fun q hq => ?_, by simp [r.len], r.nd, fun i a l e1 e2 => ?_, fun p hp' => ?_, r.dis, r.cel, r.gens, r.drawn, r.os, r.tb⟩
  ·obtain ⟨o, es, ep, e, x⟩ := r.bel q hq
   refine ⟨o, es, ep, get q.1 (List.mem_append_right _ (List.mem_append_right _ (List.mem_map_of_mem hq))) (fun z => ?_) o e, x⟩
   exact xd.2.2 (z ▸ List.mem_cons_of_mem _ (List.mem_map_of_mem hq))
  ·by_cases hi : i = d
   ·subst hi
    rw [hd] at e1
    cases e1
    rw [List.getElem?_set_self (r.len ▸ (List.getElem?_eq_some_iff.mp hd).1)] at e2
    cases e2
    exact ⟨o', ⟨(N' _ (.head _)).1, xd.2⟩, hr⟩
   ·rw [List.getElem?_set_ne (Ne.symm hi)] at e2
    obtain ⟨o, x, y⟩ := r.mu i a l e1 e2
    have hne : a ≠ dx := by
     intro q; subst q
     obtain ⟨h1, e1'⟩ := List.getElem?_eq_some_iff.mp e1
     obtain ⟨h2, e2'⟩ := List.getElem?_eq_some_iff.mp hd
     exact hi ((List.getElem_inj r.nd).mp (e1'.trans e2'.symm))
    exact ⟨o, ⟨get a (List.mem_append_left _ (List.mem_of_getElem? e1)) hne o x.1, x.2⟩, y⟩
  ·have x := r.im p hp'
   exact ⟨get p.1 (List.mem_append_right _ (List.mem_append_left _ (List.mem_map_of_mem hp'))) (fun z => r.dis p hp' (z ▸ hdρ)) _ x.1, x.2⟩
end
noncomputable def RO (G : GW) (ι : Idx) : Option V → Value → Prop
 | none, v => v = .none
 | some x, v => RV G ι x v
theorem RO.mono {G : GW} {ι κ : Idx} (h : ι.Le κ) {o : Option V} {v : Value} (r : RO G ι o v) : RO G κ o v := by
 cases o with
 | none => exact r
 | some x => exact RV.mono h r
section
variable {G : GW} {c : Cx} {ι : Idx} {loc : Loc} {h : H} {n : Nat}
theorem slcB_part {o : Option V} {v : Value} {q : Option Int} (r : RO G ι o v) (e : slcB o = some q) : IsPart v q ∧ (∀ i, q = some i → 0 ≤ i ∧ ∃ t, v = .int i t) ∧ (q = none → v = .none) := by
 cases o with
 | none => cases e; cases r; exact ⟨.none, (fun i q => nomatch q), fun _ => rfl⟩
 | some x =>
  obtain ⟨i, e1, e⟩ := Option.bind_eq_some_iff.mp e
  by_cases hc : 0 ≤ i
  ·rw [if_pos hc] at e
   cases e
   have r : RV G ι x v := r
   rw [i_of e1] at r
   obtain ⟨t, rfl⟩ := r
   exact ⟨.int _ _, fun i q => by cases q; exact ⟨hc, _, rfl⟩, (fun q => nomatch q)⟩
  ·rw [if_neg hc] at e; cases e
theorem pick_upto {vs : List Value} {y : Int} (hy : 0 ≤ y) : slicePick vs.toArray none (some y) none = (vs.take y.toNat).toArray := by
 have e : sliceBounds none (some y) none vs.toArray.size = (((0 : Nat) : Int), ((min y.toNat vs.toArray.size : Nat) : Int), 1) := by
  simp only [sliceBounds, Option.getD_none, show (1 : Int) > 0 by decide, if_true, if_neg (show ¬ (y < 0) by omega)]
  obtain ⟨m, rfl⟩ := Int.eq_ofNat_of_zero_le hy
  generalize vs.toArray.size = z
  rw [Int.max_eq_right (Int.le_min.mpr ⟨hy, Int.natCast_nonneg z⟩), Int.toNat_natCast]
  exact congrArg (fun x : Int => ((0 : Int), x, (1 : Int))) (Lean.Omega.Int.ofNat_min m z).symm
 rw [kmk_pick_nat _ e]
 simp only [List.drop_zero, Nat.sub_zero, List.size_toArray, kmk_take_min]
theorem s_slc (k : c.Ok G n) {a : V} {lo hi : Option V} {x lv uv : Value} (hx : RV G ι a x) (hl : RO G ι lo lv) (hu : RO G ι hi uv) {value : Expr} {l u : Option Expr} {p p' : Pos} :
  Sim G c ι loc h (fun _ => loc) (RV G) (newFields "slice" [lv, uv, .none] >>= fun i => standAt p' >>= fun _ => subscriptTail value (.Slice l u none p) x i) (slcV a lo hi h) := by
 refine Sim.elim fun lo' e1 => Sim.elim fun hi' e2 => ?_
 obtain ⟨p1, q1, r1⟩ := slcB_part hl e1
 obtain ⟨p2, q2, r2⟩ := slcB_part hu e2
 cases a with
 | str x =>
  obtain ⟨t0, rfl⟩ := hx
  refine Sim.elim fun i ei => ?_
  subst ei
  obtain ⟨_, t1, rfl⟩ := q1 _ rfl
  cases hi' with
  | some j =>
   refine Sim.okP fun hz => Sim.strH fun s rep Q E hq => ?_
   obtain ⟨_, t2, rfl⟩ := q2 _ rfl
   obtain ⟨m, news, F, N, own, back⟩ := rep.via k
   refine wpAny_bind (wpAny_newObj_type (wpAny_bind (wpAny_standAt (kba_turn (value' := .Name "" p) (fun _ => rfl) (slice_strN_ss F N (fun h' t' k F' N' => ?_) rfl (fun _ => rfl) (Nat.le_trans hz (by decide +kernel)))))))
   exact hq h' k t' (back h' k F' fun p hp => (N' p hp).1)
  | none =>
   refine Sim.okP fun hz => Sim.strH fun s rep Q E hq => ?_
   cases r2 rfl
   obtain ⟨m, news, F, N, own, back⟩ := rep.via k
   refine wpAny_bind (wpAny_newObj_type (wpAny_bind (wpAny_standAt (kba_turn (value' := .Name "" p) (fun _ => rfl) (slice_strN_sn F N (fun h' t' k F' N' => ?_) rfl (fun _ => rfl) (Nat.le_trans hz (by decide +kernel)))))))
   exact hq h' k t' (back h' k F' fun p hp => (N' p hp).1)
 | ref r =>
  refine Sim.elim fun xs hr => ?_
  cases lo' with
  | some _ => exact Sim.bad
  | none =>
   refine Sim.elim fun j ej => Sim.okP fun hz => Sim.newL fun s rep Q E hq => ?_
   subst ej
   cases r1 rfl
   obtain ⟨hj, t2, rfl⟩ := q2 _ rfl
   obtain ⟨a, vs, m1, rfl, _, x1, y1⟩ := rep.lst hx (lst_of hr)
   obtain ⟨m, news, F, N, own, back⟩ := rep.via k
   refine wpAny_bind (wpAny_newObj_type (wpAny_bind (wpAny_standAt (kba_turn (value' := .Name "" p) (fun _ => rfl) (kmk_slice F N x1.isList p1 p2 (fun D h' F' N' l1 => ?_) rfl (fun _ => rfl) (by rw [List.size_toArray, ← y1.length]; exact Nat.le_trans hz (by decide +kernel)))))))
   have nw := N' _ (.head _)
   have rep1 := back h' s.toks F' fun p hp => (N' p (.tail _ hp)).1
   exact hq h' s.toks D (vs.take j.toNat) 0 rep1 (own D nw.2.2 nw.2.1 fun p hp => Nat.ne_of_lt (l1 p hp)) (by rw [nw.1, pick_upto hj]) (y1.take _)
 | _ => exact Sim.bad
end
section
variable {G : GW} {c : Cx} {ι : Idx} {loc : Loc} {h : H} {n : Nat}
theorem RV.handed {v : V} {u : Value} (r : RV G ι v u) : handedIn u = true := by
 cases v with
 | none => cases r; rfl
 | bool => cases r; rfl
 | int => obtain ⟨t, rfl⟩ := r; rfl
 | str => obtain ⟨t, rfl⟩ := r; rfl
 | tup => cases r with | mk a vs n e m y => subst e; rfl
 | ref => obtain ⟨a, rfl, _⟩ := r; rfl
 | clo => cases r with | mk a o oc cl c cvs t e => subst e; rfl
 | exn => cases r with | mk a o oc cl c cvs e => subst e; rfl
 | sc => cases r with | mk a o e => subst e; rfl
inductive InsV (G : GW) (ι : Idx) (s : Shared) (C : Addr) (d : Nat) (es : List (Str × V)) (x : Value) : Prop
 | mk (a dx : Addr) (ds : List DictEntry) (m : Nat) (e : x = .ref a) (hC : C ∈ G.cls) (e2 : ι.ρ[d]? = some dx) (xd : s.heap.get? dx = some (dictOf ds m)) (rd : RDs G ι es ds) (I : InstAt s.heap a (instObj C dx) C (some (dictOf ds m)))
theorem Rep.inst {s : Shared} (rep : Rep G c ι loc h s) {i : Nat} {C : Addr} {d : Nat} {es : List (Str × V)} {x : Value} (hx : RV G ι (.ref i) x) (hi : h[i]? = some (.ins C d)) (hd : h[d]? = some (.dct es)) : InsV G ι s C d es x := by
 obtain ⟨a, rfl, e⟩ := hx
 obtain ⟨o, xa, hC, dx, e2, rfl⟩ := rep.mu i _ _ e hi
 obtain ⟨od, xd, ds, m, rfl, rd⟩ := rep.mu d _ _ e2 hd
 exact ⟨_, dx, ds, m, rfl, hC, e2, xd.1, rd, ⟨xa.1, rfl, rfl, xd.1⟩⟩
theorem dic_of {v : V} {d : Nat} {es : List (Str × V)} (e : dic? v h = some (d, es)) : ∃ i C, v = .ref i ∧ h[i]? = some (.ins C d) ∧ h[d]? = some (.dct es) := by
 obtain ⟨i, e1, e⟩ := Option.bind_eq_some_iff.mp e
 obtain ⟨⟨C, d'⟩, e2, e⟩ := Option.bind_eq_some_iff.mp e
 obtain ⟨es', e3, e⟩ := Option.map_eq_some_iff.mp e
 cases e
 exact ⟨i, C, r_of e1, ins_of e2, dct_of e3⟩
theorem s_att (gk : GK G) (k : c.Ok G n) {v : V} {x : Value} {nm : Str} (hn : nm ∈ G.an) (hx : RV G ι v x) :
  Sim G c ι loc h (fun _ => loc) (RV G) (getAttr x nm true) (attV v nm h) := by
 refine Sim.elim fun v e => Sim.val fun s rep Q E hq => ?_
 obtain ⟨⟨d, es⟩, e1, e3⟩ := Option.bind_eq_some_iff.mp e
 obtain ⟨i, C, rfl, hi, hd⟩ := dic_of e1
 obtain ⟨a, dx, ds, m, rfl, hC, e2, xd, rd, I⟩ := rep.inst hx hi hd
 obtain ⟨u, hu, ru⟩ := rd.getL_some nm v e3
 obtain ⟨m', F, _⟩ := rep.fr k
 exact get_own F k.X I (gk.get C hC nm) (gk.dic C hC) (gk.attr C hC nm hn) rfl hu ru.handed (hq u _ ru)
theorem rds_put {es : List (Str × V)} {ds : List DictEntry} (p : RDs G ι es ds) (y : Str) (t : Tok) {v : V} {u : Value} (r : RV G ι v u) : RDs G ι (putA y v es) (putL y (PyData.keyHash G.w.params y) (.str y t) u ds) := by
 induction es generalizing ds with
 | nil => cases p; exact .cons r .nil
 | cons x es ih =>
  obtain ⟨t', w, ds', rfl, a, b⟩ := p
  unfold putL
  rw [show (⟨PyData.keyHash G.w.params x.1, .str x.1 t', w⟩ : DictEntry).key.isStr y = (x.1 == y) from rfl]
  by_cases q : x.1 = y
  ·rw [show putA y v (x :: es) = (x.1, v) :: es from if_pos q, if_pos (beq_iff_eq.mpr q)]
   exact .cons r b
  ·rw [show putA y v (x :: es) = x :: putA y v es from if_neg q, if_neg (fun z => q (beq_iff_eq.mp z))]
   exact .cons a (ih b)
theorem RDs.length {es : List (Str × V)} {ds : List DictEntry} (p : RDs G ι es ds) : es.length = ds.length := by
 induction es generalizing ds with
 | nil => cases p; rfl
 | cons x es ih => obtain ⟨t, u, ds', rfl, a, b⟩ := p; exact congrArg Nat.succ (ih b)
theorem RDs.getL_ok {es : List (Str × V)} {ds : List DictEntry} (r : RDs G ι es ds) (y : Str) : (getL y ds).isSome = true := by
 cases e : es.lookup y with
 | none => rw [r.getL_none y e]; rfl
 | some v => obtain ⟨u, h, _⟩ := r.getL_some y v e; rw [h]; rfl
theorem putA_length (y : Str) (v : V) (es : List (Str × V)) : (putA y v es).length ≤ es.length + 1 := by
 induction es with
 | nil => exact Nat.le_refl _
 | cons x es ih =>
  by_cases q : x.1 = y
  ·rw [show putA y v (x :: es) = (x.1, v) :: es from if_pos q]; exact Nat.le_succ _
  ·rw [show putA y v (x :: es) = x :: putA y v es from if_neg q]; exact Nat.succ_le_succ ih
theorem RDs.append1 {es : List (Str × V)} {ds : List DictEntry} (p : RDs G ι es ds) (y : Str) (t : Tok) {v : V} {u : Value} (r : RV G ι v u) : RDs G ι (es ++ [(y, v)]) (ds ++ [⟨PyData.keyHash G.w.params y, .str y t, u⟩]) := by
 induction es generalizing ds with
 | nil => cases p; exact .cons r .nil
 | cons x es ih => obtain ⟨t, u, ds', rfl, a, b⟩ := p; exact .cons a (ih b)
noncomputable def RU (_ : Idx) (_ : Unit) (_ : Unit) : Prop := True
theorem s_setAtt (gk : GK G) (k : c.Ok G n) {o v : V} {x u : Value} {nm : Str} (hn : nm ∈ G.an) (hx : RV G ι o x) (hv : RV G ι v u) :
  Sim G c ι loc h (fun _ => loc) RU (setAttr x nm u) (setAttV o nm v h) := by
 refine Sim.elim fun p e => ?_
 obtain ⟨d, es⟩ := p
 obtain ⟨i, C, rfl, hi, hd⟩ := dic_of e
 show Sim G c ι loc h _ RU _ (if es.length ≤ 900 then .ok () (h.set d (.dct (putA nm v es))) else .bad)
 by_cases hz : es.length ≤ 900
 ·rw [if_pos hz]
  intro s rep Q E hok _ _
  obtain ⟨a, dx, ds, m, rfl, hC, e2, xd, rd, I⟩ := rep.inst hx hi hd
  obtain ⟨m', rest, o', F, N, go, hne, back⟩ := rep.viaAt k e2
  rw [xd] at go
  cases go
  have hl := putA_length nm v es
  have hr := rds_put rd nm (s.toks + 1) hv
  refine set_dict F k.X N I rfl (gk.set C hC) (gk.over C hC) ?_ (gk.dic C hC) (rd.getL_ok nm) rfl (.head hne) (by rw [← hr.length]; omega) fun h' F' N' => ?_
  ·unfold takerIn
   rw [gk.attr C hC nm hn]
   rfl
  ·exact hok () _ ι _ () rfl (.refl _) (back h' (s.toks + 2) _ (.dct (putA nm v es)) F' N' ⟨_, _, rfl, hr⟩) trivial
 ·rw [if_neg hz]; exact Sim.bad
theorem w_dictNew {s : Shared} {a : Addr} {es : List (Str × V)} {ds : List DictEntry} {m : Nat} {y : Str} {t : Tok} {u : Value} (ha : s.heap.get? a = some (dictOf ds m)) (rd : RDs G ι es ds) (hne : es.lookup y = none) (hlen : ds.length ≤ 1000) {A : Around} {Q : Unit → Shared → Prop} {E : Value → Shared → Prop}
  (hq : ∀ h', Heap.SameBut a s.heap h' → h'.get? a = some (dictOf (ds ++ [⟨PyData.keyHash G.w.params y, .str y t, u⟩]) (m + 1)) → Q () { s with heap := h', toks := s.toks + 1 }) :
  wpAny (model G.prog G.w) A (dictSet a (.str y t) u) Q E s := by
 have hk : ∀ en ∈ ds.toArray, ∃ k, (strKind G.prog G.w).is k en.key = true ∧ en.hash = (strKind G.prog G.w).hash k := fun en hen => by
  obtain ⟨z, t, f1, f2⟩ := rds_keys rd en (by simpa using hen)
  exact ⟨z, by rw [f1]; exact strKind_is _ _ _ _, f2⟩
 unfold dictSet
 refine wpAny_holding ?_
 refine wpAny_bind ((strKind G.prog G.w).pyHash (k := y) (strKind_is _ _ _ _) ?_)
 unfold dictSetHashed
 refine wpAny_holding ?_
 refine wpAny_bind (wpAny_dictFind_of (knd := strKind G.prog G.w) (k := y) (s := { s with toks := s.toks + 1 }) (strKind_is _ _ _ _) ha rfl hk ?_)
 have hf : (ds.toArray.findIdx? fun e => (strKind G.prog G.w).is y e.key) = none := by
  have h1 := (rds_find rd y).1 hne
  unfold findBy at h1
  simp only [Option.map_eq_none_iff, Array.find?_eq_none] at h1
  rw [Array.findIdx?_eq_none_iff]
  intro e he
  have h2 := h1 e he
  exact (show Value.isStrOf y e.key = false by simpa using h2)
 rw [hf]
 refine wpAny_bind (wpAny_rule (wpAny_updateDictKeys (s := { s with toks := s.toks + 1 }) ha rfl ?_ (by simp only [List.size_toArray]; unfold sizeLine; omega)))
 refine hq _ (Heap.SameBut.update ..) ?_
 rw [Heap.get?_update_self _ ha rfl]
 show some ({ cls := _, data := .dict (ds.toArray.push _) _ } : Obj) = _
 rw [List.push_toArray]
 rfl
theorem s_setSub (k : c.Ok G n) {o i v : V} {x y u : Value} (hx : RV G ι o x) (hy : RV G ι i y) (hv : RV G ι v u) :
  Sim G c ι loc h (fun _ => loc) RU (setItem x y u) (setSubV o i v h) := by
 refine Sim.elim fun r er => ?_
 rw [r_of er] at hx
 cases i with
 | int kk =>
  refine Sim.elim fun xs hr => ?_
  by_cases hz : 0 ≤ kk ∧ kk < xs.length ∧ kk < 2 ^ 60
  ·rw [if_pos hz]
   intro s rep Q E hok _ _
   obtain ⟨a, vs, m, rfl, e2, e1, y1⟩ := rep.lst hx (lst_of hr)
   obtain ⟨t, rfl⟩ := hy
   have hl := y1.length
   refine ki_setAt e1.1 hz.1 (by omega) (by rw [List.size_toArray, ← hl]; exact hz.2.1) ?_
   refine hok () _ ι _ () rfl (.refl _) (rep.upd (tk := s.toks) (lo := .lst (xs.set kk.toNat v)) e2 (Heap.SameBut.update ..) ?_ ⟨vs.set kk.toNat u, m, rfl, y1.set _ hv⟩) trivial
   rw [Heap.get?_update_self _ e1.1 rfl]
   show some (listOf _ _) = _
   simp
  ·rw [if_neg hz]; exact Sim.bad
 | str y =>
  refine Sim.elim fun es hd => ?_
  by_cases hz : es.length ≤ 900 ∧ (es.lookup y).isNone = true
  ·rw [if_pos hz]
   intro s rep Q E hok _ _
   obtain ⟨t, rfl⟩ := hy
   obtain ⟨a, rfl, e'⟩ := hx
   obtain ⟨o, e1, ds, m, rfl, rd⟩ := rep.mu r _ _ e' (dct_of hd)
   have hlen := rd.length
   have hne : es.lookup y = none := Option.isNone_iff_eq_none.mp hz.2
   have T : s.TypeIs (.ref a) "dict" := ⟨_, e1.1, rfl⟩
   unfold setItem
   refine wpAny_holding ?_
   refine wpAny_bind (wpAny_sequenceKey T (by decide) ?_)
   refine wpAny_bind (wpAny_callSpecial?_slot (name := Str.ofString "__setitem__") T slot_dict_setitem (wpAny_call_entry slot_dict_setitem T entry_dict_setitem ?_ (args_dict_setitem _ _ _)))
   refine wpAny_bind (m := Builtin.Dict.notOrdered "__setitem__" _) (wpAny_notOrdered_dict T ?_)
   refine wpAny_bind (m := dictSet _ _ _) ?_
   refine w_dictNew e1.1 rd hne (by omega) fun h' hs ho => ?_
   refine wpAny_pure ⟨.none, rfl, wpAny_pure ?_⟩
   exact hok () _ ι _ () rfl (.refl _) (rep.upd (tk := s.toks + 1) (lo := .dct (es ++ [(y, v)])) e' hs ho ⟨_, m + 1, rfl, rd.append1 y t hv⟩) trivial
  ·rw [if_neg hz]; exact Sim.bad
 | _ => exact Sim.bad
end
noncomputable def BF.val : BF → Value
 | .len => .builtin "len" | .min => .builtin "min" | .max => .builtin "max" | .int => .type "int" | .list => .type "list" | .sum => .builtin "sum"
 | .chr => .builtin "chr" | .ord => .builtin "ord" | .str => .type "str" | .isStr => .builtin "isinstance" | .abs => .builtin "abs"
noncomputable def BF.more : BF → List Value
 | .isStr => [.type "str"]
 | _ => []
section
variable {G : GW} {c : Cx} {ι : Idx} {loc : Loc} {h : H} {n : Nat}
theorem intsAre_of {xs : List V} {vs : List Value} {ns : List Int} (p : RVs G ι xs vs) (e : intsV xs = some ns) : IntsAre vs ns := by
 induction xs generalizing vs ns with
 | nil => cases e; cases p; exact .nil
 | cons x xs ih =>
  obtain ⟨v, ws, rfl, a, b⟩ := p
  obtain ⟨z, e1, e2⟩ := Option.bind_eq_some_iff.mp e
  obtain ⟨zs, e3, rfl⟩ := Option.map_eq_some_iff.mp e2
  rw [i_of e1] at a
  obtain ⟨t, rfl⟩ := a
  exact .cons _ _ (ih b e3)
theorem ints_length {xs : List V} {ns : List Int} (e : intsV xs = some ns) : xs.length = ns.length := by
 induction xs generalizing ns with
 | nil => cases e; rfl
 | cons x xs ih =>
  obtain ⟨z, e1, e2⟩ := Option.bind_eq_some_iff.mp e
  obtain ⟨zs, e3, rfl⟩ := Option.map_eq_some_iff.mp e2
  exact congrArg Nat.succ (ih e3)
theorem strs_length {xs : List V} {ns : List Str} (e : strsV xs = some ns) : xs.length = ns.length := by
 induction xs generalizing ns with
 | nil => cases e; rfl
 | cons x xs ih =>
  obtain ⟨z, e1, e2⟩ := Option.bind_eq_some_iff.mp e
  obtain ⟨zs, e3, rfl⟩ := Option.map_eq_some_iff.mp e2
  exact congrArg Nat.succ (ih e3)
theorem rvs_ints {vs : List Value} {ns : List Int} (p : IntsAre vs ns) : RVs G ι (ns.map V.int) vs := by
 induction p with
 | nil => exact rfl
 | cons i t r ih => exact .cons (.int i t) ih
theorem RVs.nil_ {us : List Value} (r : RVs G ι [] us) : us = [] := r
theorem RVs.one {x : V} {us : List Value} (r : RVs G ι [x] us) : ∃ u, us = [u] ∧ RV G ι x u := by obtain ⟨u, ws, rfl, a, b⟩ := r; cases b; exact ⟨u, rfl, a⟩
theorem RVs.two {x y : V} {us : List Value} (r : RVs G ι [x, y] us) : ∃ u v, us = [u, v] ∧ RV G ι x u ∧ RV G ι y v := by
 obtain ⟨u, ws, rfl, a, b⟩ := r; obtain ⟨v, rfl, d⟩ := RVs.one b; exact ⟨_, _, rfl, a, d⟩
theorem RVs.three {x y z : V} {us : List Value} (r : RVs G ι [x, y, z] us) : ∃ u v w, us = [u, v, w] ∧ RV G ι x u ∧ RV G ι y v ∧ RV G ι z w := by
 obtain ⟨u, ws, rfl, a, b⟩ := r; obtain ⟨v, w, rfl, d, e⟩ := RVs.two b; exact ⟨_, _, _, rfl, a, d, e⟩
theorem log2_small {a : Int} (h : a.natAbs < 10 ^ 10) : a.natAbs.log2 < 1920 := by
 have : a.natAbs < 2 ^ 34 := by omega
 by_cases q : a.natAbs = 0
 ·rw [q]; decide
 ·have := (Nat.log2_lt q).mpr this
  omega
theorem s_1 {t : List Value → Sem Value} {vs : List V} {us : List Value} {f : V → Res V} (hv : RVs G ι vs us) (z : ∀ x u, RV G ι x u → Sim G c ι loc h (fun _ => loc) (RV G) (t [u]) (f x)) : Sim G c ι loc h (fun _ => loc) (RV G) (t us) ((a1? vs).elim .bad f) :=
 Sim.elim fun x e => by
  rw [a1_of e] at hv
  obtain ⟨u, rfl, a⟩ := hv.one
  exact z x u a
theorem s_i1 {t : List Value → Sem Value} {vs : List V} {us : List Value} {f : Int → Res V} (hv : RVs G ι vs us) (z : ∀ i k, Sim G c ι loc h (fun _ => loc) (RV G) (t [.int i k]) (f i)) : Sim G c ι loc h (fun _ => loc) (RV G) (t us) (i1 vs f) :=
 Sim.elim fun x e => by
  obtain ⟨v, e1, e2⟩ := Option.bind_eq_some_iff.mp e
  rw [a1_of e1, i_of e2] at hv
  obtain ⟨u, rfl, t, rfl⟩ := hv.one
  exact z x t
theorem s_i2 {t : List Value → Sem Value} {vs : List V} {us : List Value} {f : Int → Int → Res V} (hv : RVs G ι vs us) (z : ∀ i k j k', Sim G c ι loc h (fun _ => loc) (RV G) (t [.int i k, .int j k']) (f i j)) : Sim G c ι loc h (fun _ => loc) (RV G) (t us) (i2 vs f) :=
 Sim.elim fun p e => by
  rw [show vs = [p.1, p.2] from a2_of e] at hv
  obtain ⟨u, v, rfl, a, b⟩ := hv.two
  exact s_ii (t := fun u v => t [u, v]) a b fun i j k k' => z i k j k'
theorem s_len {v : V} {u : Value} (a : RV G ι v u) : Sim G c ι loc h (fun _ => loc) (RV G) (call (.builtin "len") [u]) (lenV v h) := by
 cases v with
 | str x =>
  obtain ⟨t, rfl⟩ := a
  exact Sim.okP fun hz => Sim.int fun s Q E _ hq => P.len_str (by omega) (hq _ _)
 | ref r =>
  refine Sim.elim fun xs hr => Sim.okP fun hz => Sim.intH fun s rep Q E hq => ?_
  obtain ⟨aa, vs, m, rfl, e2, e1, y1⟩ := rep.lst a (lst_of hr)
  have hl := y1.length
  refine PyProof.Rows.len_list e1.isList (by rw [List.size_toArray, ← hl]; omega) ?_
  rw [List.size_toArray, ← hl]
  exact hq s.heap _ _ (rep.toks _)
 | _ => exact Sim.bad
theorem s_list (k : c.Ok G n) {v : V} {u : Value} (a : RV G ι v u) : Sim G c ι loc h (fun _ => loc) (RV G) (call (.type "list") [u]) (listV v h) := by
 cases v with
 | ref r =>
  refine Sim.elim fun xs hr => Sim.okP fun hz => Sim.newL fun s rep Q E hq => ?_
  obtain ⟨aa, vs, m, rfl, e2, e1, y1⟩ := rep.lst a (lst_of hr)
  refine call_list_seq aa (T := "list") (.inl rfl) e1.1 rfl rfl (fun h' c' kp ho => ?_) (by rw [List.size_toArray, ← y1.length]; exact Nat.le_trans hz (by decide +kernel))
  exact hq h' s.toks _ vs c' (rep.grow kp) (rep.own (Nat.le_refl _)) ho y1
 | sc ns =>
  obtain ⟨vs, m, rfl, hc, hd, hi⟩ := a
  refine Sim.okP fun hz => Sim.newL fun s rep Q E hq => ?_
  refine call_list_seq G.sa (T := "list") (.inl rfl) (rep.keep _ _ k.sc) hc hd (fun h' c' kp ho => ?_) (by have := hi.length; simp only [Array.length_toList] at this; rw [this]; exact Nat.le_trans hz (by decide +kernel))
  exact hq h' s.toks _ vs.toList c' (rep.grow kp) (rep.own (Nat.le_refl _)) ho (rvs_ints hi)
 | _ => exact Sim.bad
theorem s_isStr {v : V} {u : Value} (a : RV G ι v u) : Sim G c ι loc h (fun _ => loc) (RV G) (call (.builtin "isinstance") [u, .type "str"]) (isStrV v h) := by
 cases v with
 | str x =>
  obtain ⟨t, rfl⟩ := a
  exact Sim.val fun s rep Q E hq => IsiPair.str_str (hq _ s.toks (.bool true))
 | tup xs =>
  refine Sim.val fun s rep Q E hq => ?_
  obtain ⟨aa, vs, m, rfl, _, e1, e2⟩ := rep.tupAt a
  exact IsiPair.tuple_str e1 rfl (hq _ _ (.bool false))
 | _ => exact Sim.bad
theorem s_sum (k : c.Ok G n) {vs : List V} {us : List Value} (hv : RVs G ι vs us) : Sim G c ι loc h (fun _ => loc) (RV G) (call (.builtin "sum") us) (bfV .sum vs h) := by
 refine Sim.elim fun r e => Sim.elim fun ns e' => Sim.okP fun hz => Sim.intH fun s rep Q E hq => ?_
 obtain ⟨v, e1, e2⟩ := Option.bind_eq_some_iff.mp e
 obtain ⟨xs, hr, hn⟩ := Option.bind_eq_some_iff.mp e'
 rw [a1_of e1, r_of e2] at hv
 obtain ⟨u, rfl, a⟩ := hv.one
 obtain ⟨aa, vs, m, rfl, e2, e1, y1⟩ := rep.lst a (lst_of hr)
 obtain ⟨m, news, F, N, own, back⟩ := rep.via k
 exact LSm.sum_ints F N k.hh e1.isList (intsAre_of y1 hn) fun h' tk t' F' N' => hq h' tk t' (back h' tk F' fun p hp => (N' p hp).1)
theorem s_ord {vs : List V} {us : List Value} (hv : RVs G ι vs us) : Sim G c ι loc h (fun _ => loc) (RV G) (call (.builtin "ord") us) (bfV .ord vs h) := by
 refine Sim.elim fun x e => ?_
 obtain ⟨v, e1, e2⟩ := Option.bind_eq_some_iff.mp e
 rw [a1_of e1, s_of e2] at hv
 obtain ⟨u, rfl, t, rfl⟩ := hv.one
 cases hx : x.cps.toList with
 | nil => exact Sim.bad
 | cons ch r =>
  cases r with
  | cons _ _ => exact Sim.bad
  | nil =>
   have e : x = ⟨#[ch]⟩ := by
    obtain ⟨cps⟩ := x
    exact congrArg Str.mk (Array.toList_inj.mp hx)
   subst e
   exact Sim.int fun s Q E _ hq => P.ord_of_char (hq _ _)
theorem s_bf (k : c.Ok G n) (b : BF) {vs : List V} {us : List Value} (hv : RVs G ι vs us) : Sim G c ι loc h (fun _ => loc) (RV G) (call b.val (us ++ b.more)) (bfV b vs h) := by
 have nil : us ++ [] = us := List.append_nil us
 cases b with
 | len => rw [show us ++ BF.len.more = us from nil]; exact s_1 (t := fun us => call (.builtin "len") us) hv fun x u a => s_len a
 | min =>
  rw [show us ++ BF.min.more = us from nil]
  refine s_i2 (t := fun us => call (.builtin "min") us) hv fun i t j t' => Sim.intH fun s rep Q E hq => min_two_ints k.hh fun h' tk kp => ?_
  have := hq h' tk
  split
  ·rw [show min _ _ = _ from Int.min_eq_right (by omega)] at this; exact this _ (rep.grow kp)
  ·rw [show min _ _ = _ from Int.min_eq_left (by omega)] at this; exact this _ (rep.grow kp)
 | max =>
  rw [show us ++ BF.max.more = us from nil]
  refine s_i2 (t := fun us => call (.builtin "max") us) hv fun i t j t' => Sim.intH fun s rep Q E hq => max_two_ints k.hh fun h' tk kp => ?_
  have := hq h' tk
  split
  ·rw [show max _ _ = _ from Int.max_eq_right (by omega)] at this; exact this _ (rep.grow kp)
  ·rw [show max _ _ = _ from Int.max_eq_left (by omega)] at this; exact this _ (rep.grow kp)
 | int => rw [show us ++ BF.int.more = us from nil]; exact s_i1 (t := fun us => call (.type "int") us) hv fun i t => Sim.int fun s Q E _ hq => call_int_int (hq _ s.toks)
 | abs =>
  rw [show us ++ BF.abs.more = us from nil]
  refine s_i1 (t := fun us => call (.builtin "abs") us) hv fun i t => Sim.int fun s Q E _ hq => call_abs_int fun u tk => ?_
  have := hq u tk
  split
  ·rw [Int.ofNat_natAbs_of_nonpos (by omega)] at this; exact this
  ·rw [Int.natAbs_of_nonneg (by omega)] at this; exact this
 | list => rw [show us ++ BF.list.more = us from nil]; exact s_1 (t := fun us => call (.type "list") us) hv fun x u a => s_list k a
 | sum => rw [show us ++ BF.sum.more = us from nil]; exact s_sum k hv
 | chr =>
  rw [show us ++ BF.chr.more = us from nil]
  refine s_i1 (t := fun us => call (.builtin "chr") us) hv fun i t => Sim.okP fun hz => Sim.str fun s Q E _ hq => P.chr_of_int ?_ (hq _ _)
  simp only [Bool.or_eq_false_iff, decide_eq_false_iff_not]; omega
 | ord => rw [show us ++ BF.ord.more = us from nil]; exact s_ord hv
 | str => rw [show us ++ BF.str.more = us from nil]; exact s_i1 (t := fun us => call (.type "str") us) hv fun i t => Sim.okP fun hz => Sim.str fun s Q E _ hq => P.str_of_int (log2_small hz) (hq _ _)
 | isStr => exact s_1 (t := fun us => call (.builtin "isinstance") (us ++ [.type "str"])) hv fun x u a => s_isStr a
end
noncomputable def BM.name : BM → Str
 | .append => "append" | .pop => "pop" | .reverse => "reverse" | .lower => "lower" | .replace => "replace" | .find => "find" | .lstrip => "lstrip" | .index => "index" | .join => "join"
noncomputable def BM.id : BM → String
 | .append => "list.append" | .pop => "list.pop" | .reverse => "list.reverse" | .lower => "str.lower" | .replace => "str.replace" | .find => "str.find" | .lstrip => "str.lstrip" | .index => "str.index" | .join => "str.join"
section
variable {G : GW} {c : Cx} {ι : Idx} {loc : Loc} {h : H} {n : Nat}
theorem w_getM (b : BM) {v : V} {x : Value} (hx : RV G ι v x) (hb : b.on v h = true) {pl : Sem Bool} {s : Shared} (rep : Rep G c ι loc h s) {Q : Value × List Value → Shared → Prop} {E : Value → Shared → Prop}
  (hq : Q (.builtin b.id, [x]) s) : wpAny (model G.prog G.w) c.A (getMethod x b.name pl) Q E s := by
 have lst : b.isL = true → ∀ {id : String}, PySem.Slot "list" b.name id → typeOf (.builtin id) = pure (.type "method_descriptor") → Q (.builtin id, [x]) s →
   wpAny (model G.prog G.w) c.A (getMethod x b.name pl) Q E s := by
  intro e0 id slot ty hq
  unfold BM.on at hb
  rw [if_pos e0] at hb
  obtain ⟨xs, e⟩ := Option.isSome_iff_exists.mp hb
  obtain ⟨r, e1, e2⟩ := Option.bind_eq_some_iff.mp e
  rw [r_of e1] at hx
  obtain ⟨a, vs, m, rfl, _, x1, _⟩ := rep.lst hx (lst_of e2)
  exact getMethod_builtin x1.isList.typeIs PySem.F.plainAttrs_list slot ty (fun a e => by cases e; exact ⟨_, x1.1, rfl⟩) hq
 have str : b.isL = false → ∀ {id : String}, PySem.Slot "str" b.name id → typeOf (.builtin id) = pure (.type "method_descriptor") → Q (.builtin id, [x]) s →
   wpAny (model G.prog G.w) c.A (getMethod x b.name pl) Q E s := by
  intro e0 id slot ty hq
  unfold BM.on at hb
  rw [if_neg (by rw [e0]; exact Bool.false_ne_true)] at hb
  obtain ⟨y, e⟩ := Option.isSome_iff_exists.mp hb
  rw [s_of e] at hx
  obtain ⟨t, rfl⟩ := hx
  have hT : s.TypeIs (.str y t) "str" := typeIs_str s y t
  have hd : ∀ a, Value.str y t = .ref a → ∃ o, s.heap.get? a = some o ∧ o.dict = none := fun a e => nomatch e
  with_reducible exact getMethod_builtin hT PySem.F.plainAttrs_str slot ty hd hq
 cases b with
 | append => exact lst rfl PySem.F.slot_list_append PySem.F.type_list_append hq
 | pop => exact lst rfl PySem.F.slot_list_pop PySem.F.type_list_pop hq
 | reverse => exact lst rfl PySem.F.slot_list_reverse PySem.F.type_list_reverse hq
 | lower => exact str rfl PySem.F.slot_str_lower PySem.F.type_str_lower hq
 | replace => exact str rfl PySem.F.slot_str_replace PySem.F.type_str_replace hq
 | find => exact str rfl PySem.F.slot_str_find PySem.F.type_str_find hq
 | lstrip => exact str rfl PySem.F.slot_str_lstrip PySem.F.type_str_lstrip hq
 | index => exact str rfl PySem.F.slot_str_index PySem.F.type_str_index hq
 | join => exact str rfl PySem.F.slot_str_join PySem.F.type_str_join hq
theorem s_l0 {t : Value → Sem Value} {o : V} {x : Value} {vs : List V} {us : List Value} {f : Nat → List V → Res V} (hx : RV G ι o x) (hv : RVs G ι vs us)
  (z : ∀ r xs, us = [] → RV G ι (.ref r) x → h[r]? = some (.lst xs) → Sim G c ι loc h (fun _ => loc) (RV G) (t x) (f r xs)) : Sim G c ι loc h (fun _ => loc) (RV G) (t x) (l0 o vs h f) :=
 Sim.elim fun r e => by
  cases vs with
  | cons _ _ => exact Sim.bad
  | nil =>
   rw [r_of e] at hx
   exact Sim.elim fun xs hr => z r xs hv hx (lst_of hr)
theorem s_t1 {t : Value → List Value → Sem Value} {o : V} {x : Value} {vs : List V} {us : List Value} {f : Str → Str → Res V} (hx : RV G ι o x) (hv : RVs G ι vs us)
  (z : ∀ a t1 b t2, Sim G c ι loc h (fun _ => loc) (RV G) (t (.str a t1) [.str b t2]) (f a b)) : Sim G c ι loc h (fun _ => loc) (RV G) (t x us) (t1 o vs f) :=
 Sim.elim fun a e => Sim.elim fun b e' => by
  obtain ⟨v, e1, e2⟩ := Option.bind_eq_some_iff.mp e'
  rw [a1_of e1, s_of e2] at hv
  rw [s_of e] at hx
  obtain ⟨u, rfl, t2, rfl⟩ := hv.one
  obtain ⟨t1, rfl⟩ := hx
  exact z a t1 b t2
theorem lens_sum : ∀ l : List Str, (∀ z ∈ l, z.length ≤ 10) → (l.map (·.length)).sum ≤ 10 * l.length := by
 intro l
 induction l with
 | nil => exact fun _ => Nat.le_refl _
 | cons a l ih =>
  intro hl
  have h1 := hl a (.head _)
  have h2 := ih fun z hz => hl z (.tail _ hz)
  rw [List.map_cons, List.sum_cons, List.length_cons, Nat.mul_succ, Nat.add_comm]
  exact Nat.add_le_add h2 h1
theorem s_bm (k : c.Ok G n) (b : BM) {o : V} {x : Value} {vs : List V} {us : List Value} (hx : RV G ι o x) (hv : RVs G ι vs us) :
  Sim G c ι loc h (fun _ => loc) (RV G) (call (.builtin b.id) (x :: us)) (bmV b o vs h) := by
 cases b with
 | append =>
  refine Sim.elim fun r e => Sim.elim fun v e1 => Sim.elim fun xs hr => Sim.okP fun hz => ?_
  rw [r_of e] at hx
  rw [a1_of e1] at hv
  obtain ⟨u, rfl, a⟩ := hv.one
  intro s rep Q E hok _ _
  obtain ⟨aa, vs, m, rfl, e2, e1, y1⟩ := rep.lst hx (lst_of hr)
  refine append_at e1.1 (fun h' hs ho => ?_) (by rw [List.size_toArray, ← y1.length]; exact Nat.le_trans hz (by decide +kernel))
  exact hok _ _ ι _ _ rfl (.refl _) (rep.upd (tk := s.toks) (lo := .lst (xs ++ [v])) e2 hs ho ⟨vs ++ [u], m + 1, by simp, y1.append (.cons a .nil)⟩) .none
 | pop =>
  refine s_l0 (t := fun x => call (.builtin BM.pop.id) (x :: us)) hx hv fun r xs eu hx hr => Sim.elim fun v hl => Sim.okP fun hz => ?_
  subst eu
  intro s rep Q E hok _ _
  obtain ⟨aa, vs, m, rfl, e2, e1, y1⟩ := rep.lst hx hr
  have hlen := y1.length
  have hl' : xs[xs.length - 1]? = some v := by rw [← List.getLast?_eq_getElem?]; exact hl
  obtain ⟨u, hu, ru⟩ := y1.get hl'
  refine Copied.pop_at e1.1 (y := u) (by simpa [← hlen] using hu) (fun h' hs ho => ?_) (by rw [List.size_toArray, ← hlen]; exact Nat.le_trans hz (by decide +kernel))
  exact hok _ _ ι _ _ rfl (.refl _) (rep.upd (tk := s.toks) (lo := .lst xs.dropLast) e2 hs ho ⟨vs.dropLast, m + 1, by simp, by rw [List.dropLast_eq_take, List.dropLast_eq_take, hlen]; exact y1.take _⟩) ru
 | reverse =>
  refine s_l0 (t := fun x => call (.builtin BM.reverse.id) (x :: us)) hx hv fun r xs eu hx hr => Sim.okP fun hz => ?_
  subst eu
  intro s rep Q E hok _ _
  obtain ⟨aa, vs, m, rfl, e2, e1, y1⟩ := rep.lst hx hr
  have hlen := y1.length
  refine call_meets PySem.F.slot_list_reverse ⟨_, e1.1, rfl⟩ PySem.F.entry_list_reverse (PySem.F.args_list_reverse_1 _) (PySem.AutoSeq1.list_reverse_list_0 aa vs.toArray m (by rw [List.size_toArray, ← hlen]; exact Nat.le_trans hz (by decide +kernel))) ⟨e1.1, ?_⟩
  refine hok _ _ ι _ _ rfl (.refl _) (rep.upd (tk := s.toks) (lo := .lst xs.reverse) e2 (Heap.SameBut.update ..) (Heap.get?_update_self _ e1.1 rfl) ⟨vs.reverse, m, ?_, y1.reverse⟩) .none
  show listOf _ _ = _
  simp
 | lower =>
  refine Sim.elim fun a e => ?_
  rw [s_of e] at hx
  obtain ⟨t, rfl⟩ := hx
  cases vs with
  | cons _ _ => exact Sim.bad
  | nil =>
   cases hv
   rw [if_pos (show ([] : List V).isEmpty = true from rfl)]
   refine Sim.okP fun hz => Sim.str fun s Q E _ hq => ?_
   exact SCL.lower (by omega) fun _ => hq _ _
 | replace =>
  refine Sim.elim fun a e => Sim.elim fun p e1 => Sim.elim fun y e2 => Sim.elim fun z e3 => Sim.okP fun hz => Sim.str fun s Q E _ hq => ?_
  rw [s_of e] at hx
  rw [show vs = [p.1, p.2] from a2_of e1] at hv
  obtain ⟨u, v, rfl, b, b'⟩ := hv.two
  rw [s_of e2] at b
  rw [s_of e3] at b'
  obtain ⟨t, rfl⟩ := hx
  obtain ⟨t1, rfl⟩ := b
  obtain ⟨t2, rfl⟩ := b'
  refine call_gives PySem.F.slot_str_replace (typeIs_str _ _ _) PySem.F.entry_str_replace (PySem.F.args_str_replace_3 _ _ _) (gives_str_replace _ _ _ _ _ _ fun hf => by rw [hz] at hf; cases hf) ?_
  rw [hz]
  exact hq _ s.toks
 | find => exact s_t1 (t := fun x us => call (.builtin BM.find.id) (x :: us)) hx hv fun a t1 b t2 => Sim.okP fun hz => Sim.int fun s Q E _ hq => SC.find (hq _ _)
 | lstrip => exact s_t1 (t := fun x us => call (.builtin BM.lstrip.id) (x :: us)) hx hv fun a t1 b t2 => Sim.okP fun hz => Sim.str fun s Q E _ hq => SC.lstripChars (fun t' k => hq _ _) (Nat.le_trans hz (by decide +kernel))
 | index => exact s_t1 (t := fun x us => call (.builtin BM.index.id) (x :: us)) hx hv fun a t1 b t2 => Sim.okP fun hz => Sim.int fun s Q E _ hq => index_or k.hh (fun e => absurd hz.2 (by rw [e]; decide)) fun _ _ => hq _ _
 | join =>
  refine Sim.elim fun a e => Sim.elim fun r e1 => Sim.elim fun ss e2 => Sim.okP fun hz => Sim.str fun s Q E rep hq => ?_
  rw [s_of e] at hx
  obtain ⟨v, e3, e4⟩ := Option.bind_eq_some_iff.mp e1
  obtain ⟨xs, hr, hn⟩ := Option.bind_eq_some_iff.mp e2
  rw [a1_of e3, r_of e4] at hv
  obtain ⟨u, rfl, b⟩ := hv.one
  obtain ⟨t, rfl⟩ := hx
  obtain ⟨aa, vs, m, rfl, e2, e1, y1⟩ := rep.lst b (lst_of hr)
  refine join_list e1.isList (by simpa using strsAre_of y1 hn) ?_ fun t' k => hq _ _
  have h1 := lens_sum ss hz.2.2
  rw [hz.1]
  omega
end
noncomputable def SimC (G : GW) (c : Cx) (ι : Idx) (loc : Loc) (h : H) (code : Code) (r : Res V) : Prop :=
 ∀ s, Rep G c ι loc h s → ∀ (R : Result → Shared → Prop),
  (∀ v h' ι' s' u, r = .ok v h' → ι.Le ι' → Rep G c ι' loc h' s' → RV G ι' v u → R (.ok (.ret u)) s') →
  (∀ C k h' ι' s' e, r = .exc C k h' → ι.Le ι' → RepXL G c ι' loc h' C k e s' → R (.error (.ref e)) s') →
  r ≠ .bad → codeAny (model G.prog G.w) c.A code R s
theorem SimC.call {G : GW} {c : Cx} {ι : Idx} {loc : Loc} {h : H} {f : Value} {us : List Value} {r : Res V} (x : SimC G c ι loc h (.call f ⟨us, []⟩) r) : Sim G c ι loc h (fun _ => loc) (RV G) (call f us) r :=
 fun s rep Q E a b d => wpAny_call (x s rep _ a (fun C k h' ι' s' e q l rx => b C k h' ι' s' e q l ⟨loc, rx⟩) d)
structure OrcOk (G : GW) (O : Orc) (n : Nat) : Prop where
 fn : ∀ (f : Nat) (c : Cx) (ι : Idx) (loc : Loc) (h : H) (vs : List V) (us : List Value), c.Ok G (4 * n) → RVs G ι vs us → SimC G c ι loc h (.call (.ref (G.fa f)) ⟨us, []⟩) (O.fn f vs h)
 cl : ∀ (k : Nat) (cs : List Nat) (c : Cx) (ι : Idx) (loc : Loc) (h : H) (u : Value) (vs : List V) (us : List Value), c.Ok G (4 * n) → RV G ι (.clo k cs) u → RVs G ι vs us →
  SimC G c ι loc h (.call u ⟨us, []⟩) (O.cl k cs vs h)
structure GT (G : GW) (Γ : CT) : Prop where
 an : ∀ x, Γ.an.contains x = true → x ∈ G.an
 gl : ∀ x i, Γ.gl.lookup x = some i → ∃ t, nsIn G.K mainGlobals x = some (some (.int i t))
 fns : ∀ x f, Γ.fns.lookup x = some f → nsIn G.K mainGlobals x = some (some (.ref (G.fa f))) ∧ keepIn G.K (.ref (G.fa f)) = true
 cls : ∀ x C f, Γ.cls.lookup x = some (C, f) → nsIn G.K mainGlobals x = some (some (.ref C)) ∧ keepIn G.K (.ref C) = true ∧ C ∈ G.cls ∧ makesIn G.K C = true ∧
  findIn G.K (.ref C) "__init__" = some (some (.ref (G.fa f))) ∧ typeIn G.K (.ref (G.fa f)) = some (.type "function")
 mth : ∀ x C f, Γ.mth.lookup x = some (C, f) → C ∈ G.cls ∧ findIn G.K (.ref C) x = some (some (.ref (G.fa f))) ∧ isFn G.K (.ref (G.fa f)) = true ∧ keepIn G.K (.ref (G.fa f)) = true
 bf : ∀ x ∈ (["len", "min", "max", "list", "sum", "chr", "ord", "str", "abs", "isinstance", "range", "int"] : List Str), nsIn G.K mainGlobals x = some none
structure CT.Ok (Γ : CT) (c : Cx) : Prop where
 sc : Γ.sc = c.scope
 loc : Γ.loc = c.names
 cel : Γ.cel = c.cids.map (·.1)
 cd : Γ.defs ≠ [] → ∃ c0, c.cd = .ref c0 ∧ CodeHd c.g c0 Γ.P ∧ c.env.qual = Γ.dq
noncomputable def Cx.cs (c : Cx) : List Nat := c.cids.map (·.2)
theorem idx_at {x : Str} {l : List Str} {j i : Nat} (e : idx x l j = some i) : ∃ k, i = j + k ∧ l[k]? = some x := by
 induction l generalizing j with
 | nil => cases e
 | cons y r ih =>
  by_cases h : (y == x) = true
  ·rw [show idx x (y :: r) j = some j from if_pos h] at e
   cases e
   exact ⟨0, rfl, congrArg some (eq_of_beq h)⟩
  ·rw [show idx x (y :: r) j = idx x r (j + 1) from if_neg h] at e
   obtain ⟨k, e1, e2⟩ := ih e
   exact ⟨k + 1, e1.trans (Nat.add_right_comm j 1 k), e2⟩
theorem idx_get {x : Str} {l : List Str} {i : Nat} (e : idx x l 0 = some i) : l[i]? = some x := by
 obtain ⟨k, e1, e2⟩ := idx_at e
 rw [Nat.zero_add] at e1; subst e1; exact e2
theorem glo_kind {Γ : CT} {c : Cx} (ok : Γ.Ok c) {x : Str} (e : isGlo Γ x = true) : c.env.kindOf x = some .globalImplicit ∧ (x == ("__debug__" : Str)) = false := by
 unfold isGlo at e
 simp only [Bool.and_eq_true, Bool.not_eq_true'] at e
 rw [ok.sc] at e
 exact ⟨eq_of_beq e.1, e.2⟩
theorem cBF_name {x : Str} {b : BF} (e : cBF x = some b) : x ∈ (["len", "min", "max", "list", "sum", "chr", "ord", "str", "abs", "isinstance", "range", "int"] : List Str) ∧ bootBuiltins x = some b.val ∧ x ≠ "__name__" ∧ b.more = [] := by
 have key : ∀ p ∈ bfTab, p.1 ∈ (["len", "min", "max", "list", "sum", "chr", "ord", "str", "abs", "isinstance", "range", "int"] : List Str) ∧ bootBuiltins p.1 = some p.2.val ∧ p.1 ≠ "__name__" ∧ p.2.more = [] := by decide +kernel
 exact key (x, b) (lookup_mem e)
section
variable {α β γ δ : Type} {G : GW} {c : Cx} {ι : Idx} {loc : Loc} {h : H} {lc : β → Loc} {lc' : γ → Loc} {R : Idx → β → α → Prop} {R' : Idx → γ → δ → Prop}
theorem Sim.seq {t : Sem α} {r : Res β} {k : α → Sem δ} {T : Sem δ} {f : β → H → Res γ} (x : Sim G c ι loc h lc R t r)
  (hw : ∀ s (Q : δ → Shared → Prop) (E : Value → Shared → Prop), wpAny (model G.prog G.w) c.A t (fun a s' => wpAny (model G.prog G.w) c.A (k a) Q E s') E s → wpAny (model G.prog G.w) c.A T Q E s)
  (y : ∀ b h' ι' a, r = .ok b h' → ι.Le ι' → R ι' b a → Sim G c ι' (lc b) h' lc' R' (k a) (f b h')) : Sim G c ι loc h lc' R' T (r.bind f) := by
 intro s rep Q E hok hex hnb
 refine hw s Q E (x s rep _ _ (fun b h' ι' s' a e l rep' hr => ?_) (fun C k h' ι' s' x e l rx => ?_) ?_)
 ·refine y b h' ι' a e l hr s' rep' Q E (fun b2 h2 ι2 s2 a2 e2 l2 rep2 hr2 => ?_) (fun C k h2 ι2 s2 x2 e2 l2 rx2 => ?_) ?_
  ·exact hok b2 h2 ι2 s2 a2 (by rw [e]; exact e2) (l.trans l2) rep2 hr2
  ·exact hex C k h2 ι2 s2 x2 (by rw [e]; exact e2) (l.trans l2) rx2
  ·intro q; apply hnb; rw [e]; exact q
 ·exact hex C k h' ι' s' x (by rw [e]; rfl) l rx
 ·intro q; apply hnb; rw [q]; rfl
theorem Sim.conv {t T : Sem α} {r : Res β} (x : Sim G c ι loc h lc R t r)
  (hw : ∀ s, Rep G c ι loc h s → ∀ (Q : α → Shared → Prop) (E : Value → Shared → Prop), wpAny (model G.prog G.w) c.A t Q E s → wpAny (model G.prog G.w) c.A T Q E s) : Sim G c ι loc h lc R T r :=
 fun s rep Q E a b d => hw s rep Q E (x s rep Q E a b d)
theorem Sim.res {t : Sem α} {r r' : Res β} (x : Sim G c ι loc h lc R t r) (e : r' = r) : Sim G c ι loc h lc R t r' := e ▸ x
theorem Res.bind_ok {α : Type} (r : Res α) : (r.bind fun a h => Res.ok a h) = r := by cases r <;> rfl
theorem Res.bind_assoc {α β γ : Type} (r : Res α) (f : α → H → Res β) (g : β → H → Res γ) : ((r.bind f).bind g) = r.bind fun a h => (f a h).bind g := by cases r <;> rfl
end
section
variable {G : GW} {c : Cx} {ι : Idx} {loc : Loc} {h : H} {n : Nat} {O : Orc} {Γ : CT}
theorem Sim.eElim {α γ : Type} {lc : V → Loc} {R : Idx → V → α → Prop} {t : Sem α} {cs : List Nat} {x : Option γ} {f : γ → Ex} (y : ∀ v, x = some v → Sim G c ι loc h lc R t (ev O cs (f v) loc h)) : Sim G c ι loc h lc R t (ev O cs (x.elim .stop f) loc h) := by
 cases x with
 | none => exact Sim.bad
 | some v => exact y v rfl
theorem s_const (cc : Const) {kd : Nat} {pos : Pos} : Sim G c ι loc h (fun _ => loc) (RV G) (eval (Expr.Constant cc kd pos) c.env) (ev O c.cs (cConst cc) loc h) := by
 rw [arm_eval_Constant]
 cases cc <;> first
  | exact Sim.bad
  | exact Sim.pure rfl .none
  | exact Sim.pure rfl (.bool _)
  | exact Sim.int fun s Q E _ hq => wpAny_mkInt (hq _ _)
  | exact Sim.str fun s Q E _ hq => wpAny_mkText (hq _ _)
theorem w_glo (k : c.Ok G n) (ok : Γ.Ok c) {x : Str} {pos : Pos} (e : isGlo Γ x = true) {v : Value} (hv : nsIn G.K mainGlobals x = some (some v)) {s : Shared} (rep : Rep G c ι loc h s) {Q : Value → Shared → Prop} {E : Value → Shared → Prop} (hq : Q v s) :
  wpAny (model G.prog G.w) c.A (eval (.Name x pos) c.env) Q E s := by
 obtain ⟨e1, e2⟩ := glo_kind ok e
 obtain ⟨m, F, _⟩ := rep.fr k
 exact nameX_K F k.X (topRead_of k.T) hv hq k.hk e1 e2
theorem w_gloB (k : c.Ok G n) (ok : Γ.Ok c) {x : Str} {pos : Pos} (e : isGlo Γ x = true) {v : Value} (hn : nsIn G.K mainGlobals x = some none) (hv : bootBuiltins x = some v) (hx : x ≠ "__name__") {s : Shared} (rep : Rep G c ι loc h s) {Q : Value → Shared → Prop} {E : Value → Shared → Prop} (hq : Q v s) :
  wpAny (model G.prog G.w) c.A (eval (.Name x pos) c.env) Q E s := by
 obtain ⟨e1, e2⟩ := glo_kind ok e
 obtain ⟨m, F, _⟩ := rep.fr k
 exact nameX_B F k.X (topRead_of k.T) hn hv hx hq k.hk e1 e2
theorem s_local (k : c.Ok G n) {x : Str} {i : Nat} {pos : Pos} (e : c.names[i]? = some x) : Sim G c ι loc h (fun _ => loc) (RV G) (eval (.Name x pos) c.env) (ev O c.cs (.l i) loc h) := by
 show Sim G c ι loc h (fun _ => loc) (RV G) _ (match loc[i]? with | some (some v) => .ok v h | _ => .bad)
 cases hv : loc[i]? with
 | none => exact Sim.bad
 | some w =>
 cases w with
 | none => exact Sim.bad
 | some v =>
  refine Sim.val fun s rep Q E hq => ?_
  obtain ⟨m, F, hm⟩ := rep.fr k
  obtain ⟨u, h1, h2⟩ := hm i x v e hv
  obtain ⟨k1, k2⟩ := k.nm x (List.mem_of_getElem? e)
  exact nameX_L F h1 (hq u s.toks h2) k.hk k1 k2
theorem s_cell (k : c.Ok G n) {x : Str} {j : Nat} {pos : Pos} (e : (c.cids.map (·.1))[j]? = some x) : Sim G c ι loc h (fun _ => loc) (RV G) (eval (.Name x pos) c.env) (ev O c.cs (.ce j) loc h) := by
 show Sim G c ι loc h (fun _ => loc) (RV G) _ (match c.cs[j]? with
  | some i => match h[i]? with
   | some (.cel (some v)) => .ok v h
   | _ => .bad
  | none => .bad)
 cases hi : c.cs[j]? with
 | none => exact Sim.bad
 | some i =>
 dsimp only
 cases hv : h[i]? with
 | none => exact Sim.bad
 | some lo =>
 cases lo with
 | cel w =>
  cases w with
  | none => exact Sim.bad
  | some v =>
   refine Sim.val fun s rep Q E hq => ?_
   unfold Cx.cs at hi
   rw [List.getElem?_map] at e hi
   obtain ⟨p, hp, hp1⟩ := Option.map_eq_some_iff.mp e
   obtain ⟨p', hp', hp2⟩ := Option.map_eq_some_iff.mp hi
   rw [hp] at hp'; cases hp'
   subst hp1 hp2
   have hmem := List.mem_of_getElem? hp
   obtain ⟨a, h1, h2⟩ := rep.cel p hmem
   obtain ⟨o, h3, u, h4, h5⟩ := rep.mu _ _ _ h2 hv
   obtain ⟨kk, k2, k3⟩ := k.cn p hmem
   rcases kk with kk | kk
   ·exact nameX_C (Rep.news1 h3) h1 (.head _) h4 (hq u s.toks h5) k.hk kk k2
   ·exact nameX_F (Rep.news1 h3) h1 (.head _) h4 (hq u s.toks h5) k.hk kk k2 k3
 | _ => exact Sim.bad
theorem s_name (k : c.Ok G n) (gt : GT G Γ) (ok : Γ.Ok c) (x : Str) {pos : Pos} : Sim G c ι loc h (fun _ => loc) (RV G) (eval (.Name x pos) c.env) (ev O c.cs (cName Γ x) loc h) := by
 unfold cName
 cases e : idx x Γ.loc 0 with
 | some i => exact s_local k (by rw [← ok.loc]; exact idx_get e)
 | none =>
 dsimp only
 cases e : idx x Γ.cel 0 with
 | some j => exact s_cell k (by rw [← ok.cel]; exact idx_get e)
 | none =>
 dsimp only
 by_cases e : isGlo Γ x = true
 ·rw [if_pos e]
  refine Sim.eElim fun i hi => ?_
  obtain ⟨t, ht⟩ := gt.gl x i hi
  exact Sim.val fun s rep Q E hq => w_glo k ok e ht rep (hq _ s.toks (.int i t))
 ·rw [if_neg e]; exact Sim.bad
theorem s_tupD {vs : List V} {us : List Value} (hv : RVs G ι vs us) : Sim G c ι loc h (fun _ => loc) (RV G) (newTuple us) (okP (vs.length ≤ 1000) (.ok (.tup vs) h)) := by
 refine Sim.okP fun hz => ?_
 intro s rep Q E hok _ _
 have hl := hv.length
 refine wpAny_newTuple ?_ (by unfold sizeLine; omega)
 obtain ⟨rep', le⟩ := rep.addI (tk := s.toks) (a := s.heap.objs.size) (o := tupO us 0) (fun b o e => Heap.get?_push_of_some _ e) (Heap.get?_push_size _ rfl) (rep.own (Nat.le_refl _))
 exact hok _ _ _ _ _ rfl le rep' (.tup (.head _) (hv.mono le))
theorem s_lstD {vs : List V} {us : List Value} (hv : RVs G ι vs us) : Sim G c ι loc h (fun _ => loc) (RV G) (newList us) (okP (vs.length ≤ 1000) (newM h (.lst vs))) := by
 refine Sim.okP fun hz => Sim.newL fun s rep Q E hq => ?_
 have hl := hv.length
 refine wpAny_newList ?_ (by unfold sizeLine; omega)
 exact hq _ s.toks _ us 0 (rep.grow fun b o e => Heap.get?_push_of_some _ e) (rep.own (Nat.le_refl _)) (Heap.get?_push_size _ rfl) hv
theorem s_splNil : Sim G c ι loc h (fun _ => loc) (RVs G) (spliced []) (.ok [] h) := Sim.pure rfl .nil
theorem s_splCons {t : Sem Value} {rest : List (Bool × Sem Value)} {r : Res V} {f : H → Res (List V)} (x : Sim G c ι loc h (fun _ => loc) (RV G) t r)
  (y : ∀ ι' h', Sim G c ι' loc h' (fun _ => loc) (RVs G) (spliced rest) (f h')) : Sim G c ι loc h (fun _ => loc) (RVs G) (spliced ((false, t) :: rest)) (r.bind fun v h => (f h).bind fun vs h => .ok (v :: vs) h) := by
 refine Sim.seq (k := fun v => spliced rest >>= fun vs => pure (v :: vs)) x (fun s Q E hw => ?_) (fun v h' ι' u e le hr => ?_)
 ·refine spliced_cons (wpAny_mono hw (fun v s' hw' => ?_) fun _ _ z => z)
  intro Γ' p hΓ
  have h1 := hw' Γ' p hΓ
  rw [Sem.wp_bind'] at h1
  exact h1
 ·exact Sim.bind (y ι' h') fun vs h2 ι2 us e2 le2 hr2 => Sim.pure rfl (.cons (hr.mono le2) hr2)
theorem s_callW {β : Type} {RA : Idx → List V → List Value → Prop} {lc : β → Loc} {R : Idx → β → Value → Prop} {pos : Pos} {f : Value} {first : List Value} {args : List (Bool × Sem Value)} {r : Res (List V)} {g : List V → H → Res β} {P : Heap → Prop} (hplain : args.any (·.1) = false)
  (hk : ∀ hp, P hp → ∃ k, (k = Keeper.frame ∨ k = Keeper.machine ∨ k = Keeper.boundFrame) ∧ Looks (model G.prog G.w) hp (keeperOf f) k)
  (hP : ∀ ι' h' s, ι.Le ι' → Rep G c ι' loc h' s → P s.heap)
  (hnil : args = [] → r = .ok [] h ∧ RA ι [] []) (x : Sim G c ι loc h (fun _ => loc) RA (spliced args) r) (y : ∀ vs h' ι' us, r = .ok vs h' → ι.Le ι' → RA ι' vs us → Sim G c ι' loc h' lc R (call f (first ++ us)) (g vs h')) :
  Sim G c ι loc h lc R (callWith pos f first args []) (r.bind g) := by
 intro s rep Q E hok hex hnb
 refine callWith_of (P := P) (by rw [hplain]; rfl) hk ?_
 have key : wpAny (model G.prog G.w) c.A (spliced args) (fun us s₁ => P s₁.heap ∧ wpAny (model G.prog G.w) c.A (call f (first ++ us)) Q E s₁) E s := by
  refine x s rep _ _ (fun vs h' ι' s' us e le rep' hr => ⟨hP ι' h' s' le rep', ?_⟩) (fun C k h' ι' s' x e l rx => ?_) ?_
  ·refine y vs h' ι' us e le hr s' rep' Q E (fun b2 h2 ι2 s2 a2 e2 l2 rep2 hr2 => ?_) (fun C k h2 ι2 s2 x2 e2 l2 rx2 => ?_) ?_
   ·exact hok b2 h2 ι2 s2 a2 (by rw [e]; exact e2) (le.trans l2) rep2 hr2
   ·exact hex C k h2 ι2 s2 x2 (by rw [e]; exact e2) (le.trans l2) rx2
   ·intro q; apply hnb; rw [e]; exact q
  ·exact hex C k h' ι' s' x (by rw [e]; rfl) l rx
  ·intro q; apply hnb; rw [q]; rfl
 cases args with
 | nil =>
  refine evalArgs_nil3 ⟨hP ι h s (.refl _) rep, ?_⟩
  obtain ⟨e, hra⟩ := hnil rfl
  refine y [] h ι [] e (.refl _) hra s rep Q E (fun b2 h2 ι2 s2 a2 e2 l2 rep2 hr2 => ?_) (fun C k h2 ι2 s2 x2 e2 l2 rx2 => ?_) ?_
  ·exact hok b2 h2 ι2 s2 a2 (by rw [e]; exact e2) l2 rep2 hr2
  ·exact hex C k h2 ι2 s2 x2 (by rw [e]; exact e2) l2 rx2
  ·intro q; apply hnb; rw [e]; exact q
 | cons q rest =>
  obtain ⟨b, t⟩ := q
  have hb : b = false := by simp only [List.any_cons, Bool.or_eq_false_iff] at hplain; exact hplain.1
  subst hb
  exact evalArgs_plain key
end
theorem at_set {c : Cx} {ι : Idx} {i : Nat} : True := trivial
section
variable {G : GW} {c : Cx} {ι : Idx} {loc : Loc} {h : H} {n : Nat} {O : Orc} {Γ : CT}
theorem s_neg {v : V} {x : Value} (hx : RV G ι v x) : Sim G c ι loc h (fun _ => loc) (RV G) (holding [x] (unaryOp .USub x)) (v.i?.elim .bad fun i => .ok (.int (-i)) h) := by
 refine Sim.holding (Sim.elim fun i e => ?_)
 rw [i_of e] at hx
 obtain ⟨t, rfl⟩ := hx
 exact Sim.int fun s Q E _ hq => PyProof.Rows.neg_int (hq _ _)
theorem dict_nil : dictDisplay [] = newDict := by
 unfold dictDisplay
 rfl
theorem s_dct0 : Sim G c ι loc h (fun _ => loc) (RV G) (dictDisplay []) (newM h (.dct [])) := by
 rw [dict_nil]
 intro s rep Q E hok _ _
 refine wpAny_newObj_type ?_ (Nat.zero_le _)
 obtain ⟨rep', le⟩ := rep.addM (tk := s.toks) (a := s.heap.objs.size) (lo := .dct []) (o := dictOf [] 0) (fun b o e => Heap.get?_push_of_some _ e) (Heap.get?_push_size _ rfl) (rep.own (Nat.le_refl _)) ⟨[], 0, rfl, .nil⟩
 exact hok _ _ _ _ _ rfl le rep' (.ref (by rw [List.getElem?_append_right (by rw [rep.len]; exact Nat.le_refl _), rep.len]; simp))
theorem s_dct1 {x : Str} {kd : Nat} {p pos : Pos} {t : Sem Value} {r : H → Res V} (y : ∀ ι' h', Sim G c ι' loc h' (fun _ => loc) (RV G) t (r h')) :
  Sim G c ι loc h (fun _ => loc) (RV G) (dictDisplay [(some (eval (Expr.Constant (.str x) kd p) c.env), do let v ← t; standAt pos; pure v)]) ((r (h ++ [.dct []])).bind fun v h' => (dct? h' h.length).elim .bad fun es => if es.isEmpty then .ok (.ref h.length) (h'.set h.length (.dct [(x, v)])) else .bad) := by
 rw [show [(some (eval (Expr.Constant (.str x) kd p) c.env), (do let v ← t; standAt pos; pure v : Sem Value))] = ([(eval (Expr.Constant (.str x) kd p) c.env, (do let v ← t; standAt pos; pure v : Sem Value))] : List (Sem Value × Sem Value)).map (fun p => (some p.1, p.2)) from rfl,
  dictDisplay_pairs _ (by simp) (by simp)]
 intro s rep Q E hok hex hnb
 refine wpAny_bind (wpAny_subDict_any (by simp) ?_)
 obtain ⟨rep1, le1⟩ := rep.addM (tk := s.toks) (a := s.heap.objs.size) (lo := .dct []) (o := dictOf [] 0) (hp := s.heap.push { cls := .type "dict", data := .dict #[] }) (fun b o e => Heap.get?_push_of_some _ e) (Heap.get?_push_size _ rfl) (rep.own (Nat.le_refl _)) ⟨[], 0, rfl, .nil⟩
 have hρ : (ι.ρ ++ [s.heap.objs.size])[h.length]? = some s.heap.objs.size := by
  rw [List.getElem?_append_right (by rw [rep.len]; exact Nat.le_refl _), rep.len]; simp
 unfold evalPairs
 refine wpAny_bind (wpAny_mkText (wpAny_bind (wpAny_holding (wpAny_bind ?_))))
 refine y _ _ _ (rep1.toks (s.toks + 1)) _ _ (fun v h' ι' s' u e le rep' hr => ?_) (fun C k h' ι' s' x e l rx => ?_) ?_
 ·refine wpAny_bind (wpAny_standAt (wpAny_pure ?_))
  unfold evalPairs
  refine wpAny_bind (wpAny_holding (wpAny_pure (wpAny_pure ?_)))
  cases hd : dct? h' h.length with
  | none => exact absurd (show (r (h ++ [.dct []])).bind _ = Res.bad by rw [e]; show (dct? h' h.length).elim _ _ = _; rw [hd]; rfl) hnb
  | some es =>
   cases es with
   | cons _ _ => exact absurd (show (r (h ++ [.dct []])).bind _ = Res.bad by rw [e]; show (dct? h' h.length).elim _ _ = _; rw [hd]; rfl) hnb
   | nil =>
    have e' := le.at hρ
    obtain ⟨o, e1, ds, m, rfl, rd⟩ := rep'.mu _ _ _ e' (dct_of hd)
    have hds : ds = [] := rd
    subst hds
    unfold storeAll
    rw [List.forIn_cons]
    refine wpAny_bind (wpAny_bind (w_dictNew (G := G) e1.1 (RDs.nil (G := G) (ι := ι')) rfl (by simp) fun hp hs ho => ?_))
    refine wpAny_pure ?_
    dsimp only
    rw [List.forIn_nil]
    refine wpAny_pure (wpAny_pure ?_)
    have rep2 := rep'.upd (tk := s'.toks + 1) (lo := .dct [(x, v)]) e' hs ho ⟨_, _, rfl, .cons hr .nil⟩
    exact hok (.ref h.length) _ ι' _ _ (by rw [e]; show (dct? h' h.length).elim _ _ = _; rw [hd]; rfl) (le1.trans le) rep2 (.ref e')
 ·exact hex C k h' ι' s' x (by rw [e]; rfl) (le1.trans l) rx
 ·intro q; apply hnb; rw [q]; rfl
end
noncomputable def RS (_ : Idx) (x : Str) (v : Value) : Prop := ∃ t, v = .str x t
noncomputable def partR (v : V) (h : H) : Res Str := match partV v with
 | some x => .ok x h
 | none => .bad
theorem len_app (x y : Str) : (x ++ y).length = x.length + y.length := by
 show (x.cps ++ y.cps).size = _
 simp [Str.length]
theorem size_lt {a : Nat} (h : a ≤ 100000) : a ≤ sizeLine := by unfold sizeLine; omega
section
variable {G : GW} {c : Cx} {ι : Idx} {loc : Loc} {h : H} {n : Nat} {O : Orc} {Γ : CT}
theorem w_conv (v : Value) : converted (-1) v = pure v := by
 cases v <;> rfl
theorem s_fmt {v : V} {u : Value} (hu : RV G ι v u) {pos : Pos} : Sim G c ι loc h (fun _ => loc) RS (standAt pos >>= fun _ => holding [u] (converted (-1) u) >>= fun w => formatted pos w none) (partR v h) := by
 unfold partR
 rw [w_conv]
 cases v with
 | str x =>
  obtain ⟨t, rfl⟩ := hu
  by_cases hz : x.length ≤ 100000
  ·rw [show partV (.str x) = some x from if_pos hz]
   intro s rep Q E hok _ hnb
   refine wpAny_bind (wpAny_standAt (wpAny_bind (wpAny_holding (wpAny_pure ?_))))
   exact formatField_str (fun t' tk => hok _ _ ι _ _ rfl (.refl _) (rep.toks tk) ⟨t', rfl⟩) (size_lt hz)
  ·rw [show partV (.str x) = none from if_neg hz]
   exact Sim.bad
 | int i =>
  obtain ⟨t, rfl⟩ := hu
  by_cases hz : i.natAbs < 10 ^ 10
  ·rw [show partV (.int i) = some (Str.ofString (toString i)) from if_pos hz]
   intro s rep Q E hok _ _
   refine wpAny_bind (wpAny_standAt (wpAny_bind (wpAny_holding (wpAny_pure ?_))))
   exact formatField_int_small (log2_small hz) (hok _ _ ι _ _ rfl (.refl _) (rep.toks _) ⟨_, rfl⟩)
  ·rw [show partV (.int i) = none from if_neg hz]
   exact Sim.bad
 | _ => exact Sim.bad
theorem s_joinNil {out : Str} (hz : out.length ≤ 100000) : Sim G c ι loc h (fun _ => loc) (RV G) (joinParts out []) (.ok (.str out) h) :=
 Sim.str fun s Q E _ hq => joinParts_nil (hq _ _) (size_lt hz)
theorem s_joinCons {out : Str} {t : Sem Value} {rest : List (Sem Value)} {r : Res Str} {f : Str → H → Res V} (x : Sim G c ι loc h (fun _ => loc) RS t r)
  (y : ∀ z ι' h', (out ++ z).length ≤ 100000 → Sim G c ι' loc h' (fun _ => loc) (RV G) (joinParts (out ++ z) rest) (f z h')) :
  Sim G c ι loc h (fun _ => loc) (RV G) (joinParts out (t :: rest)) (r.bind fun z h => if out.length + z.length ≤ 100000 then f z h else .bad) := by
 intro s rep Q E hok hex hnb
 refine joinParts_cons (x s rep _ _ (fun z h' ι' s' u e le rep' hr => ?_) (fun C k h' ι' s' x e l rx => ?_) ?_)
 ·obtain ⟨tk, rfl⟩ := hr
  by_cases hz : out.length + z.length ≤ 100000
  ·have hz' : (out ++ z).length ≤ 100000 := by rw [len_app]; exact hz
   refine ⟨size_lt hz', y z ι' h' hz' s' rep' Q E (fun b2 h2 ι2 s2 a2 e2 l2 rep2 hr2 => ?_) (fun C k h2 ι2 s2 x2 e2 l2 rx2 => ?_) ?_⟩
   ·exact hok b2 h2 ι2 s2 a2 (by rw [e]; simp only [Res.bind, if_pos hz]; exact e2) (le.trans l2) rep2 hr2
   ·exact hex C k h2 ι2 s2 x2 (by rw [e]; simp only [Res.bind, if_pos hz]; exact e2) (le.trans l2) rx2
   ·intro q; apply hnb; rw [e]; simp only [Res.bind, if_pos hz]; exact q
  ·exact absurd (by rw [e]; simp only [Res.bind, if_neg hz]) hnb
 ·exact hex C k h' ι' s' x (by rw [e]; rfl) l rx
 ·intro q; apply hnb; rw [q]; rfl
theorem compareChain1 {pos : Pos} {u : Value} {op : CmpOp} {t : Sem Value} : compareChain pos u [op] [t] = (do
 let rv ← holding [u] t
 standAt pos
 operate [u, rv] (compareOp op u rv)) := rfl
theorem testChain1 {pos : Pos} {u : Value} {op : CmpOp} {t : Sem Value} : testChain pos u [op] [t] = (do
 let rv ← holding [u] t
 standAt pos
 let cc ← operate [u, rv] (compareOp op u rv)
 holding [cc] (truthy cc)) := rfl
set_option backward.match.sparseCases true in
theorem boolOp2 {p : Pos} {op : BoolOp} {t t2 : Sem Value} {rest : List (Sem Value)} : boolOp p op (t :: t2 :: rest) = (do
 let v ← t
 standAt p
 let b ← holding [v] (truthy v)
 match op, b with
 | .And, false | .Or, true => pure v
 | _, _ => boolOp p op (t2 :: rest)) := rfl
theorem s_chain1 (k : c.Ok G n) {x : V} {u : Value} (hx : RV G ι x u) {op : CmpOp} {t : Sem Value} {r : Res V} {pos : Pos} (y : Sim G c ι loc h (fun _ => loc) (RV G) t r) :
  Sim G c ι loc h (fun _ => loc) (RV G) (compareChain pos u [op] [t]) (r.bind fun y h => (cmpR op x y h).bind fun b h => .ok (.bool b) h) := by
 rw [compareChain1]
 refine Sim.bind (Sim.holding y) fun w h' ι' uw e le hw => ?_
 refine Sim.standAt (Sim.operate ?_)
 have := Sim.bind (s_cmp k (hx.mono le) hw (loc := loc) (h := h') (op := op)) (k := fun v => pure v) (f := fun b h => .ok (.bool b) h) (lc' := fun _ => loc) (R' := RV G) fun b h2 ι2 a e2 le2 hr => by
  cases hr; exact Sim.pure rfl (.bool b)
 exact this.conv fun s _ Q E z => by
  intro Γ p hΓ
  have := z Γ p hΓ
  rw [Sem.wp_bind'] at this
  exact this
theorem s_test1 (k : c.Ok G n) {x : V} {u : Value} (hx : RV G ι x u) {op : CmpOp} {t : Sem Value} {r : Res V} {pos : Pos} (y : Sim G c ι loc h (fun _ => loc) (RV G) t r) :
  Sim G c ι loc h (fun _ => loc) RT (testChain pos u [op] [t]) (r.bind fun y h => cmpR op x y h) := by
 rw [testChain1]
 refine Sim.bind (Sim.holding y) fun w h' ι' uw e le hw => ?_
 refine Sim.standAt ?_
 have := Sim.bind (Sim.operate (vs := [u, uw]) (s_cmp k (hx.mono le) hw (loc := loc) (h := h') (op := op))) (k := fun v => holding [v] (truthy v)) (f := fun b h => .ok b h) (lc' := fun _ => loc) (R' := RT) fun b h2 ι2 a e2 le2 hr => by
  cases hr
  exact Sim.holding (fun s rep Q E hok _ _ => wpAny_truthy_bool (hok b h2 ι2 s b rfl (.refl _) rep rfl))
 rw [Res.bind_ok] at this
 exact this
theorem s_test2 (k : c.Ok G n) {x : V} {u : Value} (hx : RV G ι x u) {o1 o2 : CmpOp} {t1 t2 : Sem Value} {r : Res V} {f : H → Res V} {pos : Pos} (y : Sim G c ι loc h (fun _ => loc) (RV G) t1 r) (z : ∀ ι' h', Sim G c ι' loc h' (fun _ => loc) (RV G) t2 (f h')) :
  Sim G c ι loc h (fun _ => loc) RT (testChain pos u [o1, o2] [t1, t2]) (r.bind fun y h => (cmpR o1 x y h).bind fun b h => match b with
   | true => (f h).bind fun z h => cmpR o2 y z h
   | false => .ok false h) := by
 rw [show testChain pos u [o1, o2] [t1, t2] = (do
  let rv ← holding [u] t1
  standAt pos
  let cc ← holding [u, rv] (compareOp o1 u rv)
  release [u, rv] [cc]
  if ← holding [cc, rv] (truthy cc) then testChain pos rv [o2] [t2] else pure false) from rfl]
 refine Sim.bind (Sim.holding y) fun w h' ι' uw e le hw => ?_
 refine Sim.standAt ?_
 refine Sim.bind (Sim.holding (s_cmp k (hx.mono le) hw (loc := loc) (h := h') (op := o1))) fun b h2 ι2 a e2 le2 hr => ?_
 cases hr
 refine Sim.conv (t := if b then testChain pos uw [o2] [t2] else pure false) ?_ (fun s _ Q E hh => wpAny_bind (wpAny_release (wpAny_bind (wpAny_holding (wpAny_truthy_bool hh)))))
 cases b with
 | true => exact s_test1 k (hw.mono le2) (z ι2 h2)
 | false => exact Sim.pure rfl rfl
theorem s_if {β : Type} {α : Type} {lc : β → Loc} {R : Idx → β → α → Prop} {t : Sem Bool} {r : Res Bool} {A B : Sem α} {f g : H → Res β} (x : Sim G c ι loc h (fun _ => loc) RT t r)
  (y : ∀ ι' h', ι.Le ι' → Sim G c ι' loc h' lc R A (f h')) (z : ∀ ι' h', ι.Le ι' → Sim G c ι' loc h' lc R B (g h')) :
  Sim G c ι loc h lc R (t >>= fun b => if b then A else B) (r.bind fun b h => match b with
   | true => f h
   | false => g h) := by
 refine Sim.bind x fun b h' ι' a e le hr => ?_
 cases hr
 cases b with
 | true => exact y ι' h' le
 | false => exact z ι' h' le
theorem s_not {t : Sem Bool} {r : Res Bool} (x : Sim G c ι loc h (fun _ => loc) RT t r) : Sim G c ι loc h (fun _ => loc) RT (t >>= fun b => pure (!b)) (r.bind fun b h => .ok (!b) h) :=
 Sim.bind x fun b h' ι' a e le hr => by cases hr; exact Sim.pure rfl rfl
theorem s_truth {t : Sem Value} {r : Res V} {p : Pos} (x : Sim G c ι loc h (fun _ => loc) (RV G) t r) : Sim G c ι loc h (fun _ => loc) RT (t >>= fun v => standAt p >>= fun _ => holding [v] (truthy v)) (r.bind fun v h => truthR v h) :=
 Sim.bind x fun v h' ι' u e le hr => Sim.standAt (Sim.holding (s_truthy hr))
theorem s_bopCons {op : BoolOp} {t t2 : Sem Value} {rest : List (Sem Value)} {r : Res V} {f : H → Res V} {p : Pos} (x : Sim G c ι loc h (fun _ => loc) (RV G) t r)
  (y : ∀ ι' h', Sim G c ι' loc h' (fun _ => loc) (RV G) (boolOp p op (t2 :: rest)) (f h')) :
  Sim G c ι loc h (fun _ => loc) (RV G) (boolOp p op (t :: t2 :: rest)) (r.bind fun v h => (truthR v h).bind fun b h => match (generalizing := false) op, b with
   | .And, false => .ok v h
   | .Or, true => .ok v h
   | _, _ => f h) := by
 rw [boolOp2]
 refine Sim.bind x fun v h' ι' u e le hr => ?_
 refine Sim.standAt (Sim.bind (Sim.holding (s_truthy hr)) fun b h2 ι2 a e2 le2 hb => ?_)
 cases hb
 cases op <;> cases b <;> first
  | exact Sim.pure rfl (hr.mono le2)
  | exact y ι2 h2
theorem s_allCons {op : BoolOp} {e : Expr} {rest : List Expr} {r : Res Bool} {f : H → Res Bool} (x : Sim G c ι loc h (fun _ => loc) RT (isTrue e c.env (eval e c.env)) r)
  (y : ∀ ι' h', Sim G c ι' loc h' (fun _ => loc) RT (allTrue op rest c.env) (f h')) :
  Sim G c ι loc h (fun _ => loc) RT (allTrue op (e :: rest) c.env) (r.bind fun b h => match (generalizing := false) op, b with
   | .And, false => .ok false h
   | .Or, true => .ok true h
   | _, _ => f h) := by
 rw [arm_allTrue_cons]
 refine Sim.bind x fun b h' ι' a e le hr => ?_
 cases hr
 cases op <;> cases b <;> first
  | exact Sim.pure rfl rfl
  | exact y ι' h'
end
theorem att_base {o : Expr} (hn : noCall o = true) (a : Str) (env : Env) (w : Sem Value) : attributeBase o a env w = w := by
 cases o <;> first | rfl | cases hn
theorem mc_form {args : List (Bool × Sem Value)} {m : Nat} (hp : args.any (·.1) = false) (hn : m < 30) : methodCallForm m args [] = true := by
 unfold methodCallForm
 have : args.all (fun x => !x.1) = true := by
  rw [List.all_eq_true]
  intro x hx
  have := List.any_eq_false.mp hp x hx
  simpa using this
 simp [this, hn]
theorem star_one {env : Env} {e : Expr} {r : List Expr} (h : noStar e = true) : starEach (e :: r) env = (false, eval e env) :: starEach r env := by
 cases e <;> first | rfl | cases h
theorem star_plain {env : Env} {pos : Pos} {es : List Expr} (h : es.all noStar = true) : backTo pos (starEach es env) = es.map (fun e => (false, eval e env)) := by
 induction es with
 | nil => rfl
 | cons e r ih =>
  have h := Bool.and_eq_true_iff.mp h
  rw [star_one h.1, List.map_cons, ← ih h.2]
  rfl
theorem map_plain {env : Env} (es : List Expr) : ((es.map (fun e => (false, eval e env))).any (·.1)) = false := by
 induction es with
 | nil => rfl
 | cons e r ih => simpa using ih
noncomputable def Cx.un (c : Cx) (C : Addr) (us : List Value) : Cx := { c with A := c.A.under (.builtin "type.__call__" ⟨.ref C :: us, []⟩) }
section
variable {G : GW} {c : Cx} {ι : Idx} {loc : Loc} {h : H} {n : Nat} {O : Orc} {Γ : CT} {s : Shared}
theorem Rep.to {c' : Cx} (r : Rep G c ι loc h s) (e1 : c'.g = c.g) (e2 : c'.L = c.L) (e3 : c'.names = c.names) (e4 : c'.cids = c.cids) (e5 : c'.below = c.below) (e6 : c'.cl = c.cl) (e7 : c'.S = c.S) : Rep G c' ι loc h s := by
 have ef : c'.fas = c.fas := by unfold Cx.fas; rw [e2, e5]
 have at_ : ∀ a o, At c s.heap a o → At c' s.heap a o := fun a o x => ⟨x.1, by rw [e1]; exact x.2.1, by rw [ef]; exact x.2.2⟩
 refine ⟨by rw [e1]; exact r.keep, by rw [e2, e3]; exact r.ns, by rw [e5]; exact r.bel, r.len, r.nd, fun i a lo h1 h2 => ?_, fun p hp => at_ _ _ (r.im p hp), r.dis, by rw [e4, e6]; exact r.cel, by rw [e7]; exact r.gens, by rw [e7]; exact r.drawn, by rw [e7]; exact r.os, r.tb⟩
 obtain ⟨o, x, y⟩ := r.mu i a lo h1 h2
 exact ⟨o, at_ _ _ x, y⟩
theorem Own.to {c' : Cx} {a : Addr} (r : Own c ι a) (e1 : c'.g = c.g) (e2 : c'.L = c.L) (e5 : c'.below = c.below) : Own c' ι a := by
 have ef : c'.fas = c.fas := by unfold Cx.fas; rw [e2, e5]
 exact ⟨by rw [e1]; exact r.1, by rw [ef]; exact r.2.1, r.2.2⟩
theorem ExcAt.to {c' : Cx} {hp : Heap} {C : Addr} {k : Str} {e : Addr} {fl : Option (Option Addr)} (r : ExcAt G c ι hp C k e fl) (e1 : c'.g = c.g) (e2 : c'.L = c.L) (e5 : c'.below = c.below) : ExcAt G c' ι hp C k e fl := by
 obtain ⟨oe, vs, dx, es, n, t, a1, a2, a3, a4, a5, a6, a7, a8, a9, a10⟩ := r
 refine ⟨oe, vs, dx, es, n, t, a1, a2, a3, a4, a5, a6.to e1 e2 e5, a7, a8.to e1 e2 e5, a9, ?_⟩
 cases fl with
 | none => exact a10
 | some f => obtain ⟨T, oT, ts, x1, x2, x3, x4, x5, x6⟩ := a10; exact ⟨T, oT, ts, x1, x2, x3, x4, x5.to e1 e2 e5, x6⟩
theorem RepX.to {c' : Cx} {C : Addr} {k : Str} {e : Addr} (r : RepX G c ι h C k e s) (e1 : c'.g = c.g) (e2 : c'.L = c.L) (e3 : c'.names = c.names) (e4 : c'.cids = c.cids) (e5 : c'.below = c.below) (e6 : c'.cl = c.cl) (e7 : c'.S = c.S) : RepX G c' ι h C k e s := by
 obtain ⟨loc, fl, x, y, z⟩ := r
 exact ⟨loc, fl, x.to e1 e2 e3 e4 e5 e6 e7, y.to e1 e2 e5, by rw [e2]; exact z⟩
theorem Cx.Ok.toUn (k : c.Ok G (n + 3)) (C : Addr) (us : List Value) : (c.un C us).Ok G n where
 X := k.X
 T := k.T
 fr := k.fr
 hh := k.hh
 gd := k.gd
 dep := by
  show c.A.depth + 1 + n < 900
  rw [Nat.add_assoc]
  exact Nat.lt_of_le_of_lt (Nat.add_le_add_left (by rw [Nat.add_comm]; exact Nat.add_le_add_left (by decide) n) _) k.dep
 un := by
  show c.A.units + 1 + 20 * n < 9000
  rw [Nat.add_assoc]
  exact Nat.lt_of_le_of_lt (Nat.add_le_add_left (by rw [Nat.add_comm]; exact Nat.add_le_add_left (m := 60) (by decide) (20 * n)) _) k.un
 hk := k.hk
 nm := k.nm
 nn := k.nn
 cn := k.cn
 ab := k.ab
 fd := k.fd
 ou := k.ou
 sm := k.sm
 sc := k.sc
theorem s_new (k : c.Ok G (4 * n + 3)) (oc : OrcOk G O n) {C : Addr} {f : Nat} (hC : C ∈ G.cls) (hm : makesIn G.K C = true) (hi : findIn G.K (.ref C) "__init__" = some (some (.ref (G.fa f)))) (hf : typeIn G.K (.ref (G.fa f)) = some (.type "function"))
  {vs : List V} {us : List Value} (hv : RVs G ι vs us) : Sim G c ι loc h (fun _ => loc) (RV G) (call (.ref C) us) ((O.fn f (.ref (h.length + 1) :: vs) (h ++ [.dct [], .ins C h.length])).bind fun v h' => match v with
    | .none => .ok (.ref (h.length + 1)) h'
    | _ => .bad) := by
 intro s rep Q E hok hex hnb
 obtain ⟨m, news, F, N, own, back⟩ := rep.via k
 refine wpAny_call (make_K F N (k.X.keeps F.keep) hm hi hf fun x dx h' F' N' l1 l2 => ?_)
 have rep0 := back h' s.toks F' fun p hp => (N' p (.tail _ (.tail _ hp))).1
 have nx := N' _ (.head _)
 have nd := N' _ (.tail _ (.head _))
 have od : Own c ι dx := own dx nd.2.2 nd.2.1 fun p hp => Nat.ne_of_lt (l1 p hp)
 have ox : Own c ι x := own x nx.2.2 nx.2.1 fun p hp => Nat.ne_of_lt (Nat.lt_trans (l1 p hp) l2)
 obtain ⟨rep1, le1⟩ := rep0.addM (tk := s.toks) (fun _ _ e => e) (lo := .dct []) nd.1 od ⟨[], 0, rfl, .nil⟩
 have ox1 : Own c ⟨ι.ρ ++ [dx], ι.imm⟩ x := ⟨ox.1, ox.2.1, fun q => by
  rcases List.mem_append.mp q with q | q
  ·exact ox.2.2.1 q
  ·exact absurd (List.mem_singleton.mp q) (Nat.ne_of_gt l2), ox.2.2.2⟩
 have hd : (ι.ρ ++ [dx])[h.length]? = some dx := by rw [List.getElem?_append_right (by rw [rep.len]; exact Nat.le_refl _), rep.len]; simp
 have hd2 : (ι.ρ ++ [dx] ++ [x])[h.length]? = some dx := by rw [List.getElem?_append_left (by simp [rep.len])]; exact hd
 obtain ⟨rep2, le2⟩ := rep1.addM (tk := s.toks) (fun _ _ e => e) (lo := .ins C h.length) nx.1 ox1 ⟨hC, dx, hd2, rfl⟩
 have eh : h ++ [LO.dct []] ++ [LO.ins C h.length] = h ++ [LO.dct [], LO.ins C h.length] := by simp
 have rep2' : Rep G c ⟨ι.ρ ++ [dx] ++ [x], ι.imm⟩ loc (h ++ [LO.dct [], LO.ins C h.length]) { s with heap := h' } := eh ▸ rep2
 have le2' : Idx.Le ⟨ι.ρ ++ [dx], ι.imm⟩ ⟨ι.ρ ++ [dx] ++ [x], ι.imm⟩ := le2
 have hx : (ι.ρ ++ [dx] ++ [x])[h.length + 1]? = some x := by rw [List.getElem?_append_right (by simp [rep.len])]; simp [rep.len]
 have kk := k.toUn C us
 have le : ι.Le ⟨ι.ρ ++ [dx] ++ [x], ι.imm⟩ := le1.trans le2'
 refine oc.fn f (c.un C us) _ loc _ (.ref (h.length + 1) :: vs) (.ref x :: us) kk (.cons (.ref hx) (hv.mono le)) _ (rep2'.to rfl rfl rfl rfl rfl rfl rfl) _ (fun v h2 ι2 s2 u e l2 rep3 hr => ?_) (fun C' k' h2 ι2 s2 e' e l2 rx => ?_) ?_
 ·cases v with
  | none =>
   cases hr
   exact ⟨rfl, hok _ _ ι2 s2 _ (by rw [e]; rfl) (le.trans l2) (rep3.to rfl rfl rfl rfl rfl rfl rfl) (.ref (l2.at hx))⟩
  | _ => exact absurd (by rw [e]; rfl) hnb
 ·exact hex C' k' h2 ι2 s2 e' (by rw [e]; rfl) (le.trans l2) (RepX.to ⟨loc, rx⟩ rfl rfl rfl rfl rfl rfl rfl)
 ·intro q; apply hnb
  rw [q]; rfl
theorem s_methodCall {ov f : Value} {first : List Value} {o : Expr} {name : Str} {apos pos : Pos} {m : Nat} {args : List (Bool × Sem Value)} {r : Res V} (hp : args.any (·.1) = false) (hm : m < 30) (hpos : (apos.endLine == pos.line) = true)
  (hg : ∀ (pl : Sem Bool) s, Rep G c ι loc h s → ∀ (Q : Value × List Value → Shared → Prop) (E : Value → Shared → Prop), (∀ tk, Q (f, first) { s with toks := tk }) → wpAny (model G.prog G.w) c.A (getMethod ov name pl) Q E s)
  (x : Sim G c ι loc h (fun _ => loc) (RV G) (callWith pos f first args []) r) : Sim G c ι loc h (fun _ => loc) (RV G) (methodCall o name apos pos c.env ov m args []) r := by
 intro s rep Q E a b d
 unfold methodCall
 rw [mc_form hp hm]
 refine wpAny_bind (wpAny_holding (show wpAny _ _ (getMethod ov name _) _ _ s from hg _ s rep _ _ fun tk => ?_))
 have e : methodCallPos true o c.env apos pos = pure pos := by
  unfold methodCallPos
  rw [hpos]
  rfl
 dsimp only
 rw [e]
 exact wpAny_bind (wpAny_pure (x _ (rep.toks tk) Q E a b d))
end
section
variable {G : GW} {O : Orc} {Γ : CT} {n : Nat}
noncomputable def PE (G : GW) (O : Orc) (Γ : CT) (n : Nat) (e : Expr) : Prop := ∀ (c : Cx) (ι : Idx) (loc : Loc) (h : H), c.Ok G (4 * n + 3) → Γ.Ok c → Sim G c ι loc h (fun _ => loc) (RV G) (eval e c.env) (ev O c.cs (cE Γ e) loc h)
noncomputable def PT (G : GW) (O : Orc) (Γ : CT) (n : Nat) (e : Expr) : Prop := ∀ (c : Cx) (ι : Idx) (loc : Loc) (h : H), c.Ok G (4 * n + 3) → Γ.Ok c → Sim G c ι loc h (fun _ => loc) RT (isTrue e c.env (eval e c.env)) (tr O c.cs (cE Γ e) loc h)
noncomputable def PB (G : GW) (O : Orc) (Γ : CT) (n : Nat) (e : Expr) : Prop := PE G O Γ n e ∧ PT G O Γ n e
noncomputable def isTest : Ex → Bool
 | .nt _ | .cmp _ _ _ | .cmp2 _ _ _ _ _ | .bop _ _ | .ite _ _ _ => true
 | _ => false
theorem ite_bind {α β : Type} {p : Prop} [Decidable p] (r : Res α) (f : α → H → Res β) : (if p then r else .bad).bind f = if p then r.bind f else .bad := by
 by_cases h : p
 ·rw [if_pos h, if_pos h]
 ·rw [if_neg h, if_neg h]; rfl
theorem tr_cases {cs : List Nat} {X : Ex} (hx : isTest X = false) (loc : Loc) (h : H) : tr O cs X loc h = .bad ∨ tr O cs X loc h = (ev O cs X loc h).bind fun v h => truthR v h := by
 cases X with
 | nt => cases hx
 | cmp => cases hx
 | cmp2 => cases hx
 | bop => cases hx
 | ite => cases hx
 | k v => exact .inr rfl
 | l i =>
  right
  show (match loc[i]? with | some (some v) => truthR v h | _ => Res.bad) = (match loc[i]? with | some (some v) => Res.ok v h | _ => Res.bad).bind _
  cases loc[i]? with
  | none => rfl
  | some o => cases o <;> rfl
 | call f xs => exact .inr (Res.bind_assoc _ _ _).symm
 | bf b xs => exact .inr (Res.bind_assoc _ _ _).symm
 | mc C f m o xs =>
  right
  show (ev O cs o loc h).bind (fun x h => if insOf C m x h = true then (evs O cs xs loc h).bind fun vs h => (O.fn f (x :: vs) h).bind fun v h => truthR v h else .bad) = ((ev O cs o loc h).bind _).bind _
  rw [Res.bind_assoc]
  congr 1
  funext x h
  rw [ite_bind, Res.bind_assoc]
 | _ => exact .inl rfl
theorem p_test {e : Expr} (hd : ∀ env w, isTrue e env w = (w >>= fun v => standAt e.pos >>= fun _ => holding [v] (truthy v))) (hx : isTest (cE Γ e) = false) (x : PE G O Γ n e) : PB G O Γ n e := by
 refine ⟨x, fun c ι loc h k ok => ?_⟩
 rw [hd]
 rcases tr_cases (O := O) (cs := c.cs) hx loc h with q | q
 ·rw [q]; exact Sim.bad
 ·rw [q]; exact s_truth (x c ι loc h k ok)
theorem s_args (es : List Expr) (hs : es.all noStar = true) (hp : ∀ e ∈ es, PE G O Γ n e) (c : Cx) (ι : Idx) (loc : Loc) (h : H) (k : c.Ok G (4 * n + 3)) (ok : Γ.Ok c) :
  Sim G c ι loc h (fun _ => loc) (RVs G) (spliced (es.map (fun e => (false, eval e c.env)))) (evs O c.cs (cEs Γ es) loc h) := by
 induction es generalizing ι h with
 | nil => exact s_splNil
 | cons e r ih => exact s_splCons (hp e (.head _) c ι loc h k ok) fun ι' h' => ih (Bool.and_eq_true_iff.mp hs).2 (fun e he => hp e (.tail _ he)) ι' h'
theorem s_bops {op : BoolOp} {p : Pos} (es : List Expr) (hp : ∀ e ∈ es, PE G O Γ n e) (c : Cx) (ι : Idx) (loc : Loc) (h : H) (k : c.Ok G (4 * n + 3)) (ok : Γ.Ok c) :
  Sim G c ι loc h (fun _ => loc) (RV G) (boolOp p op (evalEach es c.env)) (bops O c.cs op (cEs Γ es) loc h) := by
 induction es generalizing ι h with
 | nil => exact Sim.bad
 | cons e r ih =>
  cases r with
  | nil => exact (hp e (.head _) c ι loc h k ok).res (Res.bind_ok _)
  | cons e2 r => exact s_bopCons (op := op) (p := p) (hp e (.head _) c ι loc h k ok) fun ι' h' => ih (fun e he => hp e (.tail _ he)) ι' h'
theorem s_alls {op : BoolOp} (es : List Expr) (hp : ∀ e ∈ es, PT G O Γ n e) (c : Cx) (ι : Idx) (loc : Loc) (h : H) (k : c.Ok G (4 * n + 3)) (ok : Γ.Ok c) :
  Sim G c ι loc h (fun _ => loc) RT (allTrue op es c.env) (trs O c.cs op (cEs Γ es) loc h) := by
 induction es generalizing ι h with
 | nil =>
  rw [arm_allTrue_nil]
  exact Sim.pure rfl (by cases op <;> rfl)
 | cons e r ih => exact s_allCons (op := op) (hp e (.head _) c ι loc h k ok) fun ι' h' => ih (fun e he => hp e (.tail _ he)) ι' h'
noncomputable def partOf : Expr → Option Expr
 | .FormattedValue v _ _ _ => some v
 | _ => none
theorem s_part1 {e : Expr} (hp : ∀ v, partOf e = some v → PE G O Γ n v) (c : Cx) (ι : Idx) (loc : Loc) (h : H) (k : c.Ok G (4 * n + 3)) (ok : Γ.Ok c) :
  Sim G c ι loc h (fun _ => loc) RS (eval e c.env) ((evp O c.cs (cP Γ e) loc h).bind fun v h => partR v h) := by
 cases e with
 | Constant cc kd p =>
  cases cc with
  | str x =>
   show Sim G c ι loc h (fun _ => loc) RS _ (partR (.str x) h)
   by_cases hz : x.length ≤ 100000
   ·rw [show partR (.str x) h = .ok x h by unfold partR; rw [show partV (.str x) = some x from if_pos hz]]
    intro s rep Q E hok _ _
    exact wpAny_mkText (hok _ _ ι _ _ rfl (.refl _) (rep.toks _) ⟨_, rfl⟩)
   ·rw [show partR (.str x) h = .bad by unfold partR; rw [show partV (.str x) = none from if_neg hz]]
    exact Sim.bad
  | _ => exact Sim.bad
 | FormattedValue v cv sp p =>
  cases sp with
  | some sp => exact Sim.bad
  | none =>
   show Sim G c ι loc h (fun _ => loc) RS _ ((evp O c.cs (if cv = -1 then Ex.fmt (cE Γ v) else .stop) loc h).bind fun v h => partR v h)
   by_cases hc : cv = -1
   ·subst hc
    rw [if_pos rfl, arm_eval_FormattedValue]
    exact Sim.bind (hp v rfl c ι loc h k ok) fun w h' ι' u e le hr => s_fmt hr
   ·rw [if_neg hc]; exact Sim.bad
 | _ => exact Sim.bad
theorem s_parts (es : List Expr) (hp : ∀ e ∈ es, ∀ v, partOf e = some v → PE G O Γ n v) (out : Str) (ho : out.length ≤ 100000) (c : Cx) (ι : Idx) (loc : Loc) (h : H) (k : c.Ok G (4 * n + 3)) (ok : Γ.Ok c) :
  Sim G c ι loc h (fun _ => loc) (RV G) (joinParts out (evalEach es c.env)) (jss O c.cs out (cPs Γ es) loc h) := by
 induction es generalizing ι h out with
 | nil => exact s_joinNil ho
 | cons e r ih =>
  refine (s_joinCons (s_part1 (hp e (.head _)) c ι loc h k ok) fun z ι' h' hz => ih (fun e he => hp e (.tail _ he)) (out ++ z) hz ι' h').res ?_
  rw [Res.bind_assoc]
  show (evp O c.cs (cP Γ e) loc h).bind _ = _
  congr 1
  funext v h
  unfold partR
  cases partV v <;> rfl
end
noncomputable def isPsl : Ex → Bool
 | .psl _ _ => true
 | _ => false
noncomputable def plainEx (X : Ex) : Bool := !isTest X && !isPsl X
section
variable {Γ : CT}
theorem px_elim {α : Type} {x : Option α} {f : α → Ex} (y : ∀ v, plainEx (f v) = true) : plainEx (x.elim .stop f) = true := by
 cases x with
 | none => rfl
 | some v => exact y v
theorem px_ite {b : Bool} {x : Ex} (h : plainEx x = true) : plainEx (if b = true then x else .stop) = true := by
 cases b with
 | false => rfl
 | true => exact h
theorem px_const (c : Const) : plainEx (cConst c) = true := by cases c <;> rfl
theorem px_name (x : Str) : plainEx (cName Γ x) = true := by
 unfold cName
 cases idx x Γ.loc 0 with
 | some i => rfl
 | none => cases idx x Γ.cel 0 with
  | some j => rfl
  | none => exact px_ite (px_elim fun _ => rfl)
theorem px_call (x : Str) (xs : List Ex) (l : Option (Ex × Str)) : plainEx (cCall Γ x xs l) = true := by
 refine px_ite ?_
 cases Γ.fns.lookup x with
 | some f => rfl
 | none => cases Γ.cls.lookup x with
  | some f => rfl
  | none =>
   dsimp only
   by_cases h1 : (x == "isinstance") = true
   ·rw [if_pos h1]; exact px_elim fun p => px_ite rfl
   ·rw [if_neg h1]
    by_cases h2 : (x == "range") = true
    ·rw [if_pos h2]; exact px_elim fun _ => rfl
    ·rw [if_neg h2]; exact px_elim fun _ => rfl
theorem px_meth (x : Str) (o : Ex) (xs : List Ex) : plainEx (cMeth Γ x o xs) = true := by
 unfold cMeth
 cases cBM x with
 | some f => rfl
 | none => cases Γ.mth.lookup x with
  | some f => rfl
  | none => exact px_ite rfl
theorem px_dict (ks : List (Option Expr)) (xs : List Ex) : plainEx (cDict ks xs) = true := by
 unfold cDict
 by_cases h : (ks.isEmpty && xs.isEmpty) = true
 ·rw [if_pos h]; rfl
 ·rw [if_neg h]; exact px_elim fun _ => px_elim fun _ => px_elim fun _ => px_elim fun _ => rfl
theorem px_sub (a i : Ex) : plainEx (cSub a i) = true := by cases i <;> rfl
theorem px_comp (e : Expr) (g : List Comprehension) (sc : Scope) : plainEx (cComp Γ e g sc) = true :=
 px_elim fun _ => px_elim fun _ => px_elim fun _ => px_elim fun _ => px_elim fun _ => px_elim fun _ => px_elim fun _ => px_elim fun _ => px_elim fun _ => px_elim fun _ => px_elim fun _ => px_elim fun _ => px_elim fun _ => px_elim fun _ => px_elim fun _ => px_elim fun _ => px_elim fun _ => px_ite (px_elim fun _ => rfl)
theorem px_psl {a : Ex} (h : plainEx a = true) : isPsl a = false := by
 have h := (Bool.and_eq_true_iff.mp h).2
 cases q : isPsl a with
 | false => rfl
 | true => rw [q] at h; cases h
theorem px_test {a : Ex} (h : plainEx a = true) : isTest a = false := by
 have h := (Bool.and_eq_true_iff.mp h).1
 cases q : isTest a with
 | false => rfl
 | true => rw [q] at h; cases h
theorem psl_ite {b : Bool} {x : Ex} (h : isPsl x = false) : isPsl (if b = true then x else .stop) = false := by
 cases b with
 | false => rfl
 | true => exact h
theorem psl_elim {α : Type} {x : Option α} {f : α → Ex} (y : ∀ v, isPsl (f v) = false) : isPsl (x.elim .stop f) = false := by
 cases x with
 | none => rfl
 | some v => exact y v
theorem psl_call (f : Expr) (as : List Expr) (ks : List Keyword) (p : Pos) : plainEx (cE Γ (.Call f as ks p)) = true := by
 cases f with
 | Name x q => exact px_ite (b := ks.isEmpty && plainArgs as) (px_call _ _ _)
 | Attribute o x q => exact px_ite (b := ks.isEmpty && plainArgs as) (px_ite (b := noCall o && q.endLine == p.line) (px_meth _ _ _))
 | _ => exact px_ite (b := ks.isEmpty && plainArgs as) rfl
theorem no_psl {e : Expr} (h : notSlice e = true) : isPsl (cE Γ e) = false := by
 cases e with
 | Slice => cases h
 | Constant c k p => exact px_psl (px_const c)
 | Name x p => exact px_psl (px_name x)
 | Dict => exact px_psl (px_dict _ _)
 | Subscript => exact px_psl (px_sub _ _)
 | ListComp => exact px_psl (px_comp _ _ _)
 | Call f as ks p => exact px_psl (psl_call f as ks p)
 | UnaryOp op x p => cases op <;> rfl
 | Compare l ops rs p =>
  show isPsl (match l1? ops with
   | some op => (l1? (cEs Γ rs)).elim .stop fun b => .cmp op.1 (cE Γ l) b.1
   | none => (l2? ops).elim .stop fun o => (l2? (cEs Γ rs)).elim .stop fun p => .cmp2 o.1.1 o.1.2 (cE Γ l) p.1.1 p.1.2) = false
  cases l1? ops with
  | some op => exact psl_elim fun _ => rfl
  | none => exact psl_elim fun _ => psl_elim fun _ => rfl
 | JoinedStr ps =>
  show isPsl (if 2 ≤ ps.length then .js (cPs Γ ps) else .stop) = false
  by_cases q : 2 ≤ ps.length
  ·rw [if_pos q]; rfl
  ·rw [if_neg q]; rfl
 | Tuple => exact psl_ite rfl
 | List => exact psl_ite rfl
 | Attribute => exact psl_ite rfl
 | _ => rfl
end
section
variable {G : GW} {O : Orc} {Γ : CT} {n : Nat}
theorem p_const (cc : Const) (kd : Nat) (p : Pos) : PB G O Γ n (.Constant cc kd p) :=
 p_test (fun _ _ => rfl) (px_test (px_const cc)) fun c ι loc h k ok => s_const cc
theorem p_name (gt : GT G Γ) (x : Str) (p : Pos) : PB G O Γ n (.Name x p) :=
 p_test (fun _ _ => rfl) (px_test (px_name x)) fun c ι loc h k ok => s_name k gt ok x
theorem p_bin {l r : Expr} (x : PE G O Γ n l) (y : PE G O Γ n r) (op : Operator) (p : Pos) : PB G O Γ n (.BinOp l op r p) :=
 p_test (fun _ _ => rfl) rfl fun c ι loc h k ok => by
  rw [arm_eval_BinOp]
  refine Sim.bind (x c ι loc h k ok) fun v h1 ι1 u e1 le1 hv => ?_
  refine Sim.bind (Sim.holding (y c ι1 loc h1 k ok)) fun w h2 ι2 u2 e2 le2 hw => ?_
  exact Sim.standAt (Sim.operate (s_bin k (hv.mono le2) hw))
theorem p_un {x : Expr} (px : PB G O Γ n x) (op : UnaryOp) (p : Pos) : PB G O Γ n (.UnaryOp op x p) := by
 cases op with
 | Not =>
  refine ⟨fun c ι loc h k ok => Sim.bad, fun c ι loc h k ok => ?_⟩
  rw [arm_isTrue_UnaryOp]
  exact s_not (px.2 c ι loc h k ok)
 | USub =>
  refine p_test (fun _ _ => rfl) rfl fun c ι loc h k ok => ?_
  rw [arm_eval_UnaryOp]
  exact Sim.bind (px.1 c ι loc h k ok) fun v h1 ι1 u e1 le1 hv => Sim.standAt (s_neg hv)
 | _ => exact p_test (fun _ _ => rfl) rfl fun c ι loc h k ok => Sim.bad
theorem p_bool {es : List Expr} (px : ∀ e ∈ es, PB G O Γ n e) (op : BoolOp) (p : Pos) : PB G O Γ n (.BoolOp op es p) := by
 refine ⟨fun c ι loc h k ok => ?_, fun c ι loc h k ok => ?_⟩
 ·rw [arm_eval_BoolOp]
  exact s_bops es (fun e he => (px e he).1) c ι loc h k ok
 ·rw [arm_isTrue_BoolOp]
  exact s_alls es (fun e he => (px e he).2) c ι loc h k ok
theorem p_if {a b d : Expr} (pa : PB G O Γ n a) (pb : PB G O Γ n b) (pd : PB G O Γ n d) (p : Pos) : PB G O Γ n (.IfExp a b d p) := by
 refine ⟨fun c ι loc h k ok => ?_, fun c ι loc h k ok => ?_⟩
 ·rw [arm_eval_IfExp]
  exact s_if (pa.2 c ι loc h k ok) (fun ι' h' _ => pb.1 c ι' loc h' k ok) (fun ι' h' _ => pd.1 c ι' loc h' k ok)
 ·rw [arm_isTrue_IfExp]
  exact s_if (pa.2 c ι loc h k ok) (fun ι' h' _ => pb.2 c ι' loc h' k ok) (fun ι' h' _ => pd.2 c ι' loc h' k ok)
theorem plain_no {es : List Expr} (h : plainArgs es = true) : es.all noStar = true ∧ es.length < 30 :=
 ⟨(Bool.and_eq_true_iff.mp h).1, of_decide_eq_true (Bool.and_eq_true_iff.mp h).2⟩
theorem test_ite {b : Bool} {x : Ex} (h : isTest x = false) : isTest (if b = true then x else .stop) = false := by
 cases b with
 | false => rfl
 | true => exact h
theorem Sim.eIte {α : Type} {c : Cx} {ι : Idx} {loc : Loc} {h : H} {lc : V → Loc} {R : Idx → V → α → Prop} {t : Sem α} {cs : List Nat} {b : Bool} {x : Ex} (y : b = true → Sim G c ι loc h lc R t (ev O cs x loc h)) : Sim G c ι loc h lc R t (ev O cs (if b = true then x else .stop) loc h) := by
 cases b with
 | false => exact Sim.bad
 | true => exact y rfl
theorem p_tup {es : List Expr} (px : ∀ e ∈ es, PB G O Γ n e) (q) (p : Pos) : PB G O Γ n (.Tuple es q p) :=
 p_test (fun _ _ => rfl) (test_ite rfl) fun c ι loc h k ok => Sim.eIte fun hp => by
  rw [arm_eval_Tuple, star_plain (plain_no hp).1]
  exact Sim.standAt (Sim.bind (s_args es (plain_no hp).1 (fun e he => (px e he).1) c ι loc h k ok) fun vs h' ι' us e le hr => s_tupD hr)
theorem p_lst {es : List Expr} (px : ∀ e ∈ es, PB G O Γ n e) (p : Pos) : PB G O Γ n (.List es p) :=
 p_test (fun _ _ => rfl) (test_ite rfl) fun c ι loc h k ok => Sim.eIte fun hp => by
  rw [arm_eval_List, star_plain (plain_no hp).1]
  exact Sim.standAt (Sim.bind (s_args es (plain_no hp).1 (fun e he => (px e he).1) c ι loc h k ok) fun vs h' ι' us e le hr => s_lstD hr)
theorem es_one {es : List Expr} {x : Ex} (e : cEs Γ es = [x]) : ∃ e0, es = [e0] ∧ cE Γ e0 = x := by
 cases es with
 | nil => exact nomatch (show ([] : List Ex) = [x] from e)
 | cons a r =>
  cases r with
  | nil => exact ⟨a, rfl, (List.cons.inj (show [cE Γ a] = [x] from e)).1⟩
  | cons b r => exact nomatch (List.cons.inj (show cE Γ a :: cE Γ b :: cEs Γ r = [x] from e)).2
theorem p_dict {ks : List (Option Expr)} {es : List Expr} (px : ∀ e ∈ es, PB G O Γ n e) (p : Pos) : PB G O Γ n (.Dict ks es p) :=
 p_test (fun _ _ => rfl) (px_test (px_dict _ _)) fun c ι loc h k ok => by
  show Sim G c ι loc h _ (RV G) _ (ev O c.cs (cDict ks (cEs Γ es)) loc h)
  unfold cDict
  by_cases hb : (ks.isEmpty && (cEs Γ es).isEmpty) = true
  ·rw [if_pos hb]
   have hb := Bool.and_eq_true_iff.mp hb
   cases List.isEmpty_iff.mp hb.1
   cases es with
   | cons => exact nomatch (show false = true from hb.2)
   | nil =>
    rw [arm_eval_Dict]
    exact Sim.standAt s_dct0
  ·rw [if_neg hb]
   refine Sim.eElim fun K _ => Sim.eElim fun kk _ => Sim.eElim fun x _ => Sim.eElim fun e _ => ?_
   obtain ⟨e0, rfl, he⟩ := es_one e.2
   rw [← he]
   clear hb
   obtain ⟨K, hK⟩ := K
   obtain ⟨kk, hk⟩ := kk
   obtain ⟨⟨x, kd, xp⟩, hx⟩ := x
   dsimp only at hk hx
   subst hx hk hK
   rw [arm_eval_Dict]
   exact Sim.standAt (s_dct1 (r := fun h => ev O c.cs (cE Γ e0) loc h) fun ι' h' => (px e0 (.head _)).1 c ι' loc h' k ok)
theorem s_marked {c : Cx} {ι : Idx} {loc : Loc} {h : H} {op : CmpOp} {b : Expr} (x : Sim G c ι loc h (fun _ => loc) (RV G) (eval b c.env) (ev O c.cs (cE Γ b) loc h)) :
  Sim G c ι loc h (fun _ => loc) (RV G) (markedBehindIn op b (eval b c.env)) (ev O c.cs (cE Γ b) loc h) := by
 cases hm : behindInMarks op b with
 | false => rw [markedBehindIn_of_false hm]; exact x
 | true =>
  cases b with
  | Set => exact Sim.bad
  | _ => cases hm
theorem es_two {es : List Expr} {x y : Ex} (e : cEs Γ es = [x, y]) : ∃ a b, es = [a, b] ∧ cE Γ a = x ∧ cE Γ b = y := by
 cases es with
 | nil => exact nomatch (show ([] : List Ex) = [x, y] from e)
 | cons a r =>
  obtain ⟨h1, h2⟩ := List.cons.inj (show cE Γ a :: cEs Γ r = x :: [y] from e)
  obtain ⟨b, rfl, h3⟩ := es_one h2
  exact ⟨a, b, rfl, h1, h3⟩
theorem Sim.tElim {α γ : Type} {c : Cx} {ι : Idx} {loc : Loc} {h : H} {lc : Bool → Loc} {R : Idx → Bool → α → Prop} {t : Sem α} {cs : List Nat} {x : Option γ} {f : γ → Ex} (y : ∀ v, x = some v → Sim G c ι loc h lc R t (tr O cs (f v) loc h)) : Sim G c ι loc h lc R t (tr O cs (x.elim .stop f) loc h) := by
 cases x with
 | none => exact Sim.bad
 | some v => exact y v rfl
theorem p_cmp {l : Expr} {ops : List CmpOp} {rs : List Expr} (pl : PB G O Γ n l) (px : ∀ e ∈ rs, PB G O Γ n e) (p : Pos) : PB G O Γ n (.Compare l ops rs p) := by
 cases q : l1? ops with
 | some op =>
  clear q
  obtain ⟨op, rfl⟩ := op
  have hc : cE Γ (.Compare l [op] rs p) = (l1? (cEs Γ rs)).elim .stop fun b => .cmp op (cE Γ l) b.1 := rfl
  refine ⟨fun c ι loc h k ok => ?_, fun c ι loc h k ok => ?_⟩
  ·rw [hc]
   refine Sim.eElim fun B _ => ?_
   obtain ⟨b, rfl, hb⟩ := es_one B.2
   rw [← hb, arm_eval_Compare]
   exact Sim.bind (pl.1 c ι loc h k ok) fun v h1 ι1 u e1 le1 hv => s_chain1 k hv (s_marked ((px b (.head _)).1 c ι1 loc h1 k ok))
  ·rw [hc]
   refine Sim.tElim fun B _ => ?_
   obtain ⟨b, rfl, hb⟩ := es_one B.2
   rw [← hb, arm_isTrue_Compare]
   exact Sim.bind (pl.1 c ι loc h k ok) fun v h1 ι1 u e1 le1 hv => s_test1 k hv (s_marked ((px b (.head _)).1 c ι1 loc h1 k ok))
 | none =>
  have hc : cE Γ (.Compare l ops rs p) = (l2? ops).elim .stop fun o => (l2? (cEs Γ rs)).elim .stop fun p => .cmp2 o.1.1 o.1.2 (cE Γ l) p.1.1 p.1.2 := by
   show cCmp _ _ _ = _
   unfold cCmp
   rw [q]
  refine ⟨fun c ι loc h k ok => ?_, fun c ι loc h k ok => ?_⟩
  ·rw [hc]; exact Sim.eElim fun o _ => Sim.eElim fun p _ => Sim.bad
  ·rw [hc]
   refine Sim.tElim fun o _ => Sim.tElim fun B _ => ?_
   obtain ⟨b, d, rfl, hb, hd⟩ := es_two B.2
   clear q hc
   obtain ⟨⟨o1, o2⟩, rfl⟩ := o
   rw [← hb, ← hd, arm_isTrue_Compare]
   exact Sim.bind (pl.1 c ι loc h k ok) fun v h1 ι1 u e1 le1 hv => (s_test2 k hv ((px b (.head _)).1 c ι1 loc h1 k ok) (f := fun h => ev O c.cs (cE Γ d) loc h)
    fun ι' h' => s_marked ((px d (.tail _ (.head _))).1 c ι' loc h' k ok)).res rfl
theorem p_att (gk : GK G) (gt : GT G Γ) {v : Expr} (pv : PE G O Γ n v) (x : Str) (p : Pos) : PB G O Γ n (.Attribute v x p) :=
 p_test (fun _ _ => rfl) (test_ite rfl) fun c ι loc h k ok => Sim.eIte fun hp => by
  have hp := Bool.and_eq_true_iff.mp hp
  rw [arm_eval_Attribute, att_base hp.2]
  refine Sim.bind (pv c ι loc h k ok) fun w h' ι' u e le hr => ?_
  refine Sim.standAt ?_
  exact ((Sim.bind (Sim.holding (s_att gk k (gt.an x hp.1) hr)) (k := fun r => letTemporaryGo v u r >>= fun _ => pure r) (f := fun v h => .ok v h) (lc' := fun _ => loc) (R' := RV G) fun y h2 ι2 u2 e2 le2 hr2 =>
    (Sim.pure rfl hr2 : Sim G c ι2 loc h2 (fun _ => loc) (RV G) (pure u2) (.ok y h2)).conv fun s _ Q E z => wpAny_bind (wpAny_letTemporaryGo z)).res (Res.bind_ok _).symm)
theorem p_js {es : List Expr} (px : ∀ e ∈ es, ∀ v, partOf e = some v → PE G O Γ n v) (p : Pos) : PB G O Γ n (.JoinedStr es p) := by
 by_cases hp : 2 ≤ es.length
 ·have hc : cE Γ (.JoinedStr es p) = .js (cPs Γ es) := if_pos hp
  refine p_test (fun _ _ => rfl) (by rw [hc]; rfl) fun c ι loc h k ok => ?_
  rw [hc, arm_eval_JoinedStr]
  have : joinedStr (evalEach es c.env) = joinParts Str.empty (evalEach es c.env) := by
   cases es with
   | nil => exact nomatch hp
   | cons a r => cases r with
    | nil => exact absurd (show 2 ≤ 1 from hp) (by decide)
    | cons b r => rfl
  rw [this]
  exact s_parts es px Str.empty (Nat.zero_le _) c ι loc h k ok
 ·have hc : cE Γ (.JoinedStr es p) = .stop := if_neg hp
  exact p_test (fun _ _ => rfl) (by rw [hc]; rfl) fun c ι loc h k ok => by rw [hc]; exact Sim.bad
theorem s_opt {c : Cx} {ι : Idx} {loc : Loc} {h : H} (o : Option Expr) (px : ∀ e, o = some e → PE G O Γ n e) (k : c.Ok G (4 * n + 3)) (ok : Γ.Ok c) :
  Sim G c ι loc h (fun _ => loc) (RO G) (valueOrNone (evalOpt o c.env)) (evo O c.cs (cO Γ o) loc h) := by
 cases o with
 | none => exact Sim.pure rfl rfl
 | some e =>
  refine (Sim.map (lc' := fun _ => loc) (R2 := RO G) (f := fun v => some v) (px e rfl c ι loc h k ok) (fun _ => rfl) (fun ι' b a le hr => hr)).res ?_
  show (ev O c.cs (cE Γ e) loc h).bind _ = _
  generalize ev O c.cs (cE Γ e) loc h = r
  cases r <;> rfl
theorem p_sub {v i : Expr} (pv : PE G O Γ n v) (pi : PE G O Γ n i) (hi : notSlice i = true) (p : Pos) : PB G O Γ n (.Subscript v i p) :=
 p_test (fun _ _ => rfl) (px_test (px_sub _ _)) fun c ι loc h k ok => by
  show Sim G c ι loc h _ (RV G) _ (ev O c.cs (cSub (cE Γ v) (cE Γ i)) loc h)
  have hp := no_psl (Γ := Γ) hi
  have e : cSub (cE Γ v) (cE Γ i) = .sub (cE Γ v) (cE Γ i) ∨ cSub (cE Γ v) (cE Γ i) = .stop := by
   generalize cE Γ i = I at hp ⊢
   cases I with
   | psl => cases hp
   | rng => exact .inr rfl
   | _ => exact .inl rfl
  rcases e with e | e
  ·rw [e, eval_Subscript]
   refine Sim.bind (pv c ι loc h k ok) fun w h1 ι1 u e1 le1 hw => ?_
   refine Sim.bind (Sim.holding (pi c ι1 loc h1 k ok)) fun w2 h2 ι2 u2 e2 le2 hw2 => ?_
   exact Sim.standAt (w_sub k (hw.mono le2) hw2 hi)
  ·rw [e]; exact Sim.bad
theorem p_slice {v : Expr} {lo hi : Option Expr} (pv : PE G O Γ n v) (pl : ∀ e, lo = some e → PE G O Γ n e) (ph : ∀ e, hi = some e → PE G O Γ n e) (p q : Pos) : PB G O Γ n (.Subscript v (.Slice lo hi none q) p) :=
 p_test (fun _ _ => rfl) (px_test (px_sub _ _)) fun c ι loc h k ok => by
  rw [eval_Subscript]
  refine Sim.bind (pv c ι loc h k ok) fun w h1 ι1 u e1 le1 hw => ?_
  have := Sim.bind (s_opt (c := c) (ι := ι1) (loc := loc) (h := h1) lo pl k ok) (f := fun l h => (evo O c.cs (cO Γ hi) loc h).bind fun u h => slcV w l u h) (lc' := fun _ => loc) (R' := RV G)
   (k := fun l => holding [l] (valueOrNone (evalOpt hi c.env)) >>= fun ub => newFields "slice" [l, ub, .none] >>= fun i => standAt p >>= fun _ => subscriptTail v (.Slice lo hi none q) u i)
   fun l h2 ι2 lv e2 le2 hl => Sim.bind (Sim.holding (s_opt hi ph k ok)) fun ub h3 ι3 uv e3 le3 hu => s_slc k (hw.mono (le2.trans le3)) (hl.mono le3) hu
  refine this.conv fun s _ Q E z => ?_
  intro Γ' p' hΓ
  have z' := z Γ' p' hΓ
  rw [arm_eval_Slice]
  simp only [Sem.wp_bind', Sem.wp_holding, subscriptTail] at z' ⊢
  exact z'
end
section
variable {G : GW} {O : Orc} {Γ : CT} {n : Nat} {c : Cx} {ι : Idx} {loc : Loc} {h : H}
noncomputable def RIs (v : Value) (_ : Idx) (_ : Unit) (u : Value) : Prop := u = v
theorem s_glo (k : c.Ok G n) (ok : Γ.Ok c) {x : Str} {p : Pos} (e : isGlo Γ x = true) {v : Value} (hv : nsIn G.K mainGlobals x = some (some v)) : Sim G c ι loc h (fun _ => loc) (RIs v) (eval (.Name x p) c.env) (.ok () h) :=
 fun s rep Q E hok _ _ => w_glo k ok e hv rep (hok () h ι s v rfl (.refl _) rep rfl)
theorem s_gloB (k : c.Ok G n) (ok : Γ.Ok c) {x : Str} {p : Pos} (e : isGlo Γ x = true) {v : Value} (hn : nsIn G.K mainGlobals x = some none) (hv : bootBuiltins x = some v) (hx : x ≠ "__name__") : Sim G c ι loc h (fun _ => loc) (RIs v) (eval (.Name x p) c.env) (.ok () h) :=
 fun s rep Q E hok _ _ => w_gloB k ok e hn hv hx rep (hok () h ι s v rfl (.refl _) rep rfl)
theorem s_callF {f : Expr} {v : Value} {pos : Pos} {args : List Expr} {r : H → Res (List V)} {g : List V → H → Res V} {RA : Idx → List V → List Value → Prop} (hf : Sim G c ι loc h (fun _ => loc) (RIs v) (eval f c.env) (.ok () h))
  (hs : args.all noStar = true) (hk : ∀ hp, G.K.In hp → ∃ k, (k = Keeper.frame ∨ k = Keeper.machine ∨ k = Keeper.boundFrame) ∧ Looks (model G.prog G.w) hp (keeperOf v) k) (k : c.Ok G n)
  (hnil : ∀ ι, args = [] → r h = .ok [] h ∧ RA ι [] []) (x : ∀ ι', Sim G c ι' loc h (fun _ => loc) RA (spliced (args.map (fun e => (false, eval e c.env)))) (r h))
  (y : ∀ vs h' ι' us, RA ι' vs us → Sim G c ι' loc h' (fun _ => loc) (RV G) (call v us) (g vs h'))
  (he : ∀ env, eval (.Call f args [] pos) env = (do callWith pos (← eval f env) [] (backTo pos (starEach args env)) (backToKw pos (keywordEach [] env)))) :
  Sim G c ι loc h (fun _ => loc) (RV G) (eval (.Call f args [] pos) c.env) ((r h).bind g) := by
 rw [he]
 refine (Sim.bind (f := fun _ h => (r h).bind g) hf fun b h' ι' u e le hu => ?_).res rfl
 cases hu
 cases e
 rw [star_plain hs]
 exact s_callW (P := G.K.In) (map_plain args) hk (fun ι2 h2 s _ rep => by obtain ⟨m, F, _⟩ := rep.fr k; exact k.X.keeps F.keep) (fun q => hnil ι' (by simpa using q)) (x ι') fun vs h2 ι2 us _ _ hr => y vs h2 ι2 us hr
theorem keeps_mach {v : Value} (hv : ∀ a, v ≠ .ref a) (hp : Heap) (X : G.K.In hp) : ∃ k, (k = Keeper.frame ∨ k = Keeper.machine ∨ k = Keeper.boundFrame) ∧ Looks (model G.prog G.w) hp (keeperOf v) k := by
 refine ⟨.machine, .inr (.inl rfl), ?_⟩
 cases v <;> first | exact Looks.now | exact absurd rfl (hv _)
theorem bf_ne (b : BF) (a : Addr) : b.val ≠ .ref a := by cases b <;> exact fun q => nomatch q
theorem isi_boot : bootBuiltins "isinstance" = some (.builtin "isinstance") := rfl
theorem str_boot : bootBuiltins "str" = some (.type "str") := rfl
theorem s_isiArgs (k : c.Ok G n) (gt : GT G Γ) (ok : Γ.Ok c) {r : Res V} {a : Expr} {y : Str} {p : Pos} (sa : Sim G c ι loc h (fun _ => loc) (RV G) (eval a c.env) r) (hy : y = "str") (hg : isGlo Γ y = true) :
  Sim G c ι loc h (fun _ => loc) (fun ι vs us => ∃ u, us = u ++ [.type "str"] ∧ RVs G ι vs u) (spliced ([a, .Name y p].map (fun e => (false, eval e c.env)))) (r.bind fun v h => (Res.ok [] h).bind fun vs h => .ok (v :: vs) h) := by
 refine Sim.seq (k := fun v => eval (.Name y p) c.env >>= fun w => pure [v, w]) sa (fun s Q E hw => ?_) (fun v h2 ι2 u e le hr => ?_)
 ·refine spliced_cons (wpAny_mono hw (fun v s' hw' => spliced_cons (wpAny_mono (Q := fun w s1 => Q [v, w] s1) ?_ (fun w s1 hq => spliced_nil hq) fun _ _ z => z)) fun _ _ z => z)
  intro Γ' p' hΓ
  have z := hw' Γ' p' hΓ
  rw [Sem.wp_bind'] at z
  exact z
 ·subst hy
  refine (Sim.bind (f := fun _ h => Res.ok [v] h) (s_gloB k ok hg (gt.bf _ (by decide +kernel)) str_boot (by decide +kernel)) fun b h3 ι3 u3 e3 le3 hr3 => ?_).res rfl
  cases hr3
  exact Sim.pure rfl ⟨[u], rfl, .cons (hr.mono le3) .nil⟩
theorem s_isi (gt : GT G Γ) (k : c.Ok G (4 * n + 3)) (ok : Γ.Ok c) {a : Expr} {y : Str} {p q pos : Pos} (pa : PE G O Γ n a) (hs : [a, .Name y p].all noStar = true) (hy : y = "str") (hg : isGlo Γ y = true) {x : Str} (hx : x = "isinstance") (hgx : isGlo Γ x = true) :
  Sim G c ι loc h (fun _ => loc) (RV G) (eval (.Call (.Name x q) [a, .Name y p] [] pos) c.env) (ev O c.cs (.bf .isStr [cE Γ a]) loc h) := by
 subst hx
 refine s_callF (r := fun h => (ev O c.cs (cE Γ a) loc h).bind fun v h => (Res.ok [] h).bind fun vs h => .ok (v :: vs) h) (RA := fun ι vs us => ∃ u, us = u ++ [.type "str"] ∧ RVs G ι vs u)
  (s_gloB k ok hgx (gt.bf _ (by decide +kernel)) isi_boot (by decide +kernel)) hs (keeps_mach (fun a q => nomatch q)) k (fun _ q => nomatch q) (fun ι' => s_isiArgs k gt ok (pa c ι' loc h k ok) hy hg) (fun vs h' ι' us hr => ?_) (fun _ => rfl)
 obtain ⟨u, rfl, hr⟩ := hr
 exact s_bf k .isStr hr
theorem p_callName (gt : GT G Γ) (oc : OrcOk G O n) {args : List Expr} (px : ∀ e ∈ args, PB G O Γ n e) (x : Str) (q pos : Pos) : PB G O Γ n (.Call (.Name x q) args [] pos) :=
 p_test (fun _ _ => rfl) (px_test (psl_call _ _ _ _)) fun c ι loc h k ok => by
  refine Sim.eIte (b := plainArgs args) fun hp => ?_
  obtain ⟨hs, _⟩ := plain_no hp
  have sa : ∀ ι', Sim G c ι' loc h (fun _ => loc) (RVs G) (spliced (args.map (fun e => (false, eval e c.env)))) (evs O c.cs (cEs Γ args) loc h) := fun ι' => s_args args hs (fun e he => (px e he).1) c ι' loc h k ok
  have hnil : ∀ ι : Idx, args = [] → evs O c.cs (cEs Γ args) loc h = .ok [] h ∧ RVs G ι [] [] := fun ι e => by subst e; exact ⟨rfl, .nil⟩
  refine Sim.eIte fun hg => ?_
  cases hf : Γ.fns.lookup x with
  | some f =>
   obtain ⟨h1, h2⟩ := gt.fns x f hf
   exact s_callF (r := fun h => evs O c.cs (cEs Γ args) loc h) (s_glo k ok hg h1) hs (keeps_K h2) k hnil sa (fun vs h' ι' us hr => (oc.fn f c ι' loc h' vs us (k.le (by omega)) hr).call) fun _ => rfl
  | none =>
   cases hc : Γ.cls.lookup x with
   | some p =>
    obtain ⟨h1, h2, h3, h4, h5, h6⟩ := gt.cls x p.1 p.2 hc
    exact s_callF (r := fun h => evs O c.cs (cEs Γ args) loc h) (s_glo k ok hg h1) hs (keeps_K h2) k hnil sa (fun vs h' ι' us hr => s_new k oc h3 h4 h5 h6 hr) fun _ => rfl
   | none =>
    dsimp only
    by_cases hx : (x == "isinstance") = true
    ·rw [if_pos hx]
     refine Sim.eElim fun p hl => Sim.eIte fun hy => ?_
     have hy := Bool.and_eq_true_iff.mp hy
     obtain ⟨P, _, hl⟩ := Option.bind_eq_some_iff.mp hl
     obtain ⟨Y, _, hl⟩ := Option.bind_eq_some_iff.mp hl
     obtain ⟨⟨a, b⟩, hP⟩ := P
     obtain ⟨⟨y, yp⟩, hY⟩ := Y
     dsimp only at hY hP
     subst hY hP
     cases hl
     exact s_isi gt k ok (px a (.head _)).1 hs (eq_of_beq hy.1) hy.2 (eq_of_beq hx) hg
    ·rw [if_neg hx]
     by_cases hr : (x == "range") = true
     ·rw [if_pos hr]; exact Sim.eElim fun _ _ => Sim.bad
     ·rw [if_neg hr]
      refine Sim.eElim fun b hb => ?_
      obtain ⟨h1, h2, h3, h4⟩ := cBF_name hb
      refine s_callF (r := fun h => evs O c.cs (cEs Γ args) loc h) (s_gloB k ok hg (gt.bf x h1) h2 h3) hs (keeps_mach (bf_ne b)) k hnil sa (fun vs h' ι' us hr => ?_) (fun _ => rfl)
      have := s_bf (loc := loc) (h := h') k b hr
      rw [h4, List.append_nil] at this
      exact this
end
theorem cBM_name {x : Str} {b : BM} (e : cBM x = some b) : x = b.name := by
 have key : ∀ p ∈ bmTab, p.1 = p.2.name := by decide +kernel
 exact key (x, b) (lookup_mem e)
theorem fnAt_of {hp : Heap} {a : Addr} {o : Obj} {fd : FuncData} (e : hp.get? a = some o) (d : o.data = .func fd) : FnAt a hp := by
 obtain ⟨c, di, da, sl⟩ := o
 simp only at d
 subst d
 exact ⟨_, _, _, _, e⟩
section
variable {G : GW} {O : Orc} {Γ : CT} {n : Nat} {c : Cx} {ι : Idx} {loc : Loc} {h : H}
theorem s_methodAny {ov : Value} {o : Expr} {name : Str} {apos pos : Pos} {m : Nat} {args : List (Bool × Sem Value)} {r : Res V} (Good : Value → List Value → Prop) (hp : args.any (·.1) = false) (hm : m < 30) (hpos : (apos.endLine == pos.line) = true)
  (hg : ∀ (pl : Sem Bool) s, Rep G c ι loc h s → ∀ (Q : Value × List Value → Shared → Prop) (E : Value → Shared → Prop), (∀ f first tk, Good f first → Q (f, first) { s with toks := tk }) → wpAny (model G.prog G.w) c.A (getMethod ov name pl) Q E s)
  (x : ∀ f first, Good f first → Sim G c ι loc h (fun _ => loc) (RV G) (callWith pos f first args []) r) : Sim G c ι loc h (fun _ => loc) (RV G) (methodCall o name apos pos c.env ov m args []) r := by
 intro s rep Q E a b d
 unfold methodCall
 rw [mc_form hp hm]
 refine wpAny_bind (wpAny_holding (show wpAny _ _ (getMethod ov name _) _ _ s from hg _ s rep _ _ fun f first tk gd => ?_))
 have e : methodCallPos true o c.env apos pos = pure pos := by
  unfold methodCallPos
  rw [hpos]
  rfl
 dsimp only
 rw [e]
 exact wpAny_bind (wpAny_pure (x f first gd _ (rep.toks tk) Q E a b d))
theorem insOf_of {C : Addr} {x : Str} {v : V} (e : insOf C x v h = true) : ∃ i d es, v = .ref i ∧ h[i]? = some (.ins C d) ∧ h[d]? = some (.dct es) ∧ es.lookup x = none := by
 unfold insOf at e
 cases q : v.r?.bind (ins? h) with
 | none => rw [q] at e; cases e
 | some p =>
  rw [q] at e
  obtain ⟨i, e1, e2⟩ := Option.bind_eq_some_iff.mp q
  obtain ⟨C', d⟩ := p
  have e := Bool.and_eq_true_iff.mp e
  cases eq_of_beq e.1
  cases q2 : dct? h d with
  | none => have z := e.2; rw [show (C', d).2 = d from rfl, q2] at z; cases z
  | some es =>
   have z := e.2
   rw [show (C', d).2 = d from rfl, q2] at z
   exact ⟨i, d, es, r_of e1, ins_of e2, dct_of q2, Option.isNone_iff_eq_none.mp z⟩
theorem s_cb (gk : GK G) (gt : GT G Γ) (k : c.Ok G (4 * n + 3)) (oc : OrcOk G O n) {v : V} {u : Value} (hv : RV G ι v u) {x : Str} {o : Expr} {apos pos : Pos} {args : List (Bool × Sem Value)} {m : Nat} {r : H → Res (List V)} (hp : args.any (·.1) = false) (hm : m < 30) (hpos : (apos.endLine == pos.line) = true)
  (hnil : args = [] → r h = .ok [] h ∧ RVs G ι [] []) (sa : Sim G c ι loc h (fun _ => loc) (RVs G) (spliced args) (r h)) :
  (∀ b : BM, x = b.name → Sim G c ι loc h (fun _ => loc) (RV G) (methodCall o x apos pos c.env u m args []) (if b.on v h = true then (r h).bind fun vs h => bmV b v vs h else .bad)) ∧
  (∀ p, Γ.mth.lookup x = some p → Sim G c ι loc h (fun _ => loc) (RV G) (methodCall o x apos pos c.env u m args []) (if insOf p.1 x v h = true then (r h).bind fun vs h => O.fn p.2 (v :: vs) h else .bad)) ∧
  (Γ.an.contains x = true → Sim G c ι loc h (fun _ => loc) (RV G) (methodCall o x apos pos c.env u m args []) ((attV v x h).bind fun f h => match f with
   | .clo kk cs => (r h).bind fun vs h => O.cl kk cs vs h
   | _ => .bad)) := by
 refine ⟨fun b hn => ?_, fun p hf => ?_, fun han => ?_⟩
 ·subst hn
  by_cases hon : b.on v h = true
  ·rw [if_pos hon]
   refine s_methodAny (fun f first => f = .builtin b.id ∧ first = [u]) hp hm hpos (fun pl s rep Q E hq => w_getM b hv hon rep (hq _ _ s.toks ⟨rfl, rfl⟩)) fun f first gd => ?_
   obtain ⟨rfl, rfl⟩ := gd
   exact s_callW (P := G.K.In) hp (keeps_mach (fun a q => nomatch q)) (fun ι2 h2 s _ rep => by obtain ⟨m, F, _⟩ := rep.fr k; exact k.X.keeps F.keep) hnil sa fun vs h2 ι2 us _ le2 hr => s_bm k b (hv.mono le2) hr
  ·rw [if_neg hon]; exact Sim.bad
 ·obtain ⟨C, f⟩ := p
  obtain ⟨g1, g2, g3, g4⟩ := gt.mth x C f hf
  by_cases hin : insOf C x v h = true
  ·rw [if_pos hin]
   refine s_methodAny (fun f' first => f' = .ref (G.fa f) ∧ first = [u]) hp hm hpos (fun pl s rep Q E hq => ?_) fun f' first gd => ?_
   ·obtain ⟨i, d, es, rfl, hi, hd', hd⟩ := insOf_of hin
    obtain ⟨a, dx, ds, m, rfl, _, e2, xd, rd, I⟩ := rep.inst hv hi hd'
    obtain ⟨m', F, _⟩ := rep.fr k
    exact method_inst F k.X I (gk.get C g1 x) g2 g3 (rd.getL_none x hd) (hq _ _ s.toks ⟨rfl, rfl⟩)
   ·obtain ⟨rfl, rfl⟩ := gd
    exact s_callW (P := G.K.In) hp (keeps_K g4) (fun ι2 h2 s _ rep => by obtain ⟨m, F, _⟩ := rep.fr k; exact k.X.keeps F.keep) hnil sa
     fun vs h2 ι2 us _ le2 hr => (oc.fn f c ι2 loc h2 (v :: vs) (u :: us) (k.le (by omega)) (.cons (hv.mono le2) hr)).call
  ·rw [if_neg hin]; exact Sim.bad
 ·have hxa := gt.an x han
  unfold attV
  cases ha : (dic? v h).bind (·.2.lookup x) with
  | none => exact Sim.bad
  | some w =>
   cases w with
   | clo kk cs =>
    show Sim G c ι loc h _ (RV G) _ ((r h).bind fun vs h => O.cl kk cs vs h)
    obtain ⟨⟨d, es⟩, e1, hy⟩ := Option.bind_eq_some_iff.mp ha
    obtain ⟨i, C, rfl, hi, hd⟩ := dic_of e1
    refine s_methodAny (fun f' first => RV G ι (.clo kk cs) f' ∧ first = []) hp hm hpos (fun pl s rep Q E hq => ?_) fun f' first gd => ?_
    ·obtain ⟨a, dx, ds, m, rfl, hC, e2, xd, rd, I⟩ := rep.inst hv hi hd
     obtain ⟨m', F, _⟩ := rep.fr k
     obtain ⟨u2, hu2, ru2⟩ := rd.getL_some x _ hy
     exact kmu_own F k.X I (gk.get C hC x) (gk.attr C hC x hxa) (get_own F k.X I (gk.get C hC x) (gk.dic C hC) (gk.attr C hC x hxa) rfl hu2 ru2.handed (hq _ _ _ ⟨ru2, rfl⟩))
    ·obtain ⟨hr1, rfl⟩ := gd
     have hr0 := hr1
     obtain ⟨a, co, oc', cl, cc, cvs, t, rfl, m1, q, _⟩ := hr1
     obtain ⟨doc, pm, ct, q1, q2⟩ := q
     exact s_callW (P := FnAt _) hp (fun hp X => keeps_F hp X) (fun ι2 h3 s le2 rep => fnAt_of (rep.im _ (le2.sub _ m1)).1 q2) hnil sa
      fun vs h3 ι2 us _ le2 hr => (oc.cl kk cs c ι2 loc h3 _ vs us (k.le (by omega)) (hr0.mono le2) hr).call
   | _ => exact Sim.bad
theorem p_callAtt (gk : GK G) (gt : GT G Γ) (oc : OrcOk G O n) {o : Expr} (po : PE G O Γ n o) {args : List Expr} (px : ∀ e ∈ args, PB G O Γ n e) (x : Str) (apos pos : Pos) : PB G O Γ n (.Call (.Attribute o x apos) args [] pos) :=
 p_test (fun _ _ => rfl) (px_test (psl_call _ _ _ _)) fun c ι loc h k ok => by
  refine Sim.eIte (b := plainArgs args) fun hp => Sim.eIte (b := noCall o && apos.endLine == pos.line) fun hc => ?_
  obtain ⟨hs, hlen⟩ := plain_no hp
  have hc := Bool.and_eq_true_iff.mp hc
  have sc := fun (ι1 : Idx) (h1 : H) (v : V) (u : Value) (hv : RV G ι1 v u) => s_cb (loc := loc) (h := h1) (o := o) (m := args.length) (r := fun h => evs O c.cs (cEs Γ args) loc h) gk gt k oc hv (map_plain args) hlen hc.2
   (fun e => by have e := List.map_eq_nil_iff.mp e; subst e; exact ⟨rfl, .nil⟩) (s_args args hs (fun e he => (px e he).1) c ι1 loc h1 k ok) (x := x)
  rw [arm_eval_Call, att_base hc.1]
  show Sim G c ι loc h _ (RV G) _ (ev O c.cs (cMeth Γ x (cE Γ o) (cEs Γ args)) loc h)
  unfold cMeth
  cases hb : cBM x with
  | some b =>
   refine Sim.bind (po c ι loc h k ok) fun v h1 ι1 u e1 le1 hv => Sim.standAt ?_
   rw [star_plain hs]
   exact (sc ι1 h1 v u hv).1 b (cBM_name hb)
  | none =>
   cases hf : Γ.mth.lookup x with
   | some p =>
    refine Sim.bind (po c ι loc h k ok) fun v h1 ι1 u e1 le1 hv => Sim.standAt ?_
    rw [star_plain hs]
    exact (sc ι1 h1 v u hv).2.1 p hf
   | none =>
    refine Sim.eIte fun han => ?_
    refine Sim.bind (po c ι loc h k ok) fun v h1 ι1 u e1 le1 hv => Sim.standAt ?_
    rw [star_plain hs]
    exact (sc ι1 h1 v u hv).2.2 han
theorem p_stop {e : Expr} (he : cE Γ e = .stop) : PB G O Γ n e :=
 ⟨fun c ι loc h k ok => by rw [he]; exact Sim.bad, fun c ι loc h k ok => by rw [he]; exact Sim.bad⟩
noncomputable def PComp (G : GW) (O : Orc) (Γ : CT) (n : Nat) : Prop := ∀ (e : Expr) (gs : List Comprehension) (sc : Scope) (p : Pos), PB G O Γ n (.ListComp e gs sc p)
noncomputable def PX (G : GW) (O : Orc) (Γ : CT) (n : Nat) (e : Expr) : Prop := PB G O Γ n e ∧ match e with
 | .Slice lo hi _ _ => (∀ e, lo = some e → PE G O Γ n e) ∧ ∀ e, hi = some e → PE G O Γ n e
 | .FormattedValue v _ _ _ => PE G O Γ n v
 | .Attribute o _ _ => PE G O Γ n o
 | _ => True
theorem p_call (gk : GK G) (gt : GT G Γ) (oc : OrcOk G O n) {f : Expr} (pf : PX G O Γ n f) {args : List Expr} (px : ∀ e ∈ args, PB G O Γ n e) (kws : List Keyword) (p : Pos) : PB G O Γ n (.Call f args kws p) := by
 cases kws with
 | cons => cases f <;> exact p_stop rfl
 | nil =>
  cases f with
  | Name x q => exact p_callName gt oc px x q p
  | Attribute o x q => exact p_callAtt gk gt oc pf.2 px x q p
  | _ => exact p_stop (ite_self _)
theorem p_subs {v i : Expr} (pv : PE G O Γ n v) (pi : PX G O Γ n i) (p : Pos) : PB G O Γ n (.Subscript v i p) := by
 by_cases hi : notSlice i = true
 ·exact p_sub pv pi.1.1 hi p
 ·cases i with
  | Slice lo hi st q =>
   cases st with
   | none => exact p_slice pv pi.2.1 pi.2.2 p q
   | some st =>
    refine p_test (fun _ _ => rfl) (px_test (px_sub _ _)) fun c ι loc h k ok => ?_
    rw [eval_Subscript]
    exact Sim.bind (pv c ι loc h k ok) fun w h1 ι1 u e1 le1 hw => Sim.bad
  | _ => exact absurd rfl hi
theorem p_slc (lo hi st : Option Expr) (q : Pos) : PB G O Γ n (.Slice lo hi st q) := by
 cases st with
 | none => exact ⟨fun c ι loc h k ok => Sim.bad, fun c ι loc h k ok => Sim.bad⟩
 | some _ => exact p_stop rfl
mutual
theorem s_e (gk : GK G) (gt : GT G Γ) (oc : OrcOk G O n) (pc : PComp G O Γ n) : ∀ e : Expr, PX G O Γ n e
 | .Constant cc kd p => ⟨p_const cc kd p, trivial⟩
 | .Name x p => ⟨p_name gt x p, trivial⟩
 | .BinOp l op r p => ⟨p_bin (s_e gk gt oc pc l).1.1 (s_e gk gt oc pc r).1.1 op p, trivial⟩
 | .UnaryOp op x p => ⟨p_un (s_e gk gt oc pc x).1 op p, trivial⟩
 | .BoolOp op es p => ⟨p_bool (fun e he => (s_es gk gt oc pc es e he).1) op p, trivial⟩
 | .IfExp a b d p => ⟨p_if (s_e gk gt oc pc a).1 (s_e gk gt oc pc b).1 (s_e gk gt oc pc d).1 p, trivial⟩
 | .Tuple es q p => ⟨p_tup (fun e he => (s_es gk gt oc pc es e he).1) q p, trivial⟩
 | .List es p => ⟨p_lst (fun e he => (s_es gk gt oc pc es e he).1) p, trivial⟩
 | .Dict ks es p => ⟨p_dict (fun e he => (s_es gk gt oc pc es e he).1) p, trivial⟩
 | .Compare l ops rs p => ⟨p_cmp (s_e gk gt oc pc l).1 (fun e he => (s_es gk gt oc pc rs e he).1) p, trivial⟩
 | .Attribute v x p => ⟨p_att gk gt (s_e gk gt oc pc v).1.1 x p, (s_e gk gt oc pc v).1.1⟩
 | .JoinedStr es p => ⟨p_js (fun e he v hv => by
   have q := (s_es gk gt oc pc es e he).2
   cases e with
   | FormattedValue w a b d =>
    cases hv
    exact q
   | _ => cases hv) p, trivial⟩
 | .Subscript v i p => ⟨p_subs (s_e gk gt oc pc v).1.1 (s_e gk gt oc pc i) p, trivial⟩
 | .Call f args kws p => ⟨p_call gk gt oc (s_e gk gt oc pc f) (fun e he => (s_es gk gt oc pc args e he).1) kws p, trivial⟩
 | .ListComp e gs sc p => ⟨pc e gs sc p, trivial⟩
 | .NamedExpr .. => ⟨p_stop rfl, trivial⟩
 | .Lambda .. => ⟨p_stop rfl, trivial⟩
 | .Set .. => ⟨p_stop rfl, trivial⟩
 | .SetComp .. => ⟨p_stop rfl, trivial⟩
 | .DictComp .. => ⟨p_stop rfl, trivial⟩
 | .GeneratorExp .. => ⟨p_stop rfl, trivial⟩
 | .Await .. => ⟨p_stop rfl, trivial⟩
 | .Yield .. => ⟨p_stop rfl, trivial⟩
 | .YieldFrom .. => ⟨p_stop rfl, trivial⟩
 | .FormattedValue v _ _ _ => ⟨p_stop rfl, (s_e gk gt oc pc v).1.1⟩
 | .Starred .. => ⟨p_stop rfl, trivial⟩
 | .Slice lo hi st q => ⟨p_slc lo hi st q, s_o gk gt oc pc lo, s_o gk gt oc pc hi⟩
theorem s_es (gk : GK G) (gt : GT G Γ) (oc : OrcOk G O n) (pc : PComp G O Γ n) : ∀ (es : List Expr), ∀ e ∈ es, PX G O Γ n e
 | [], _, he => by cases he
 | a :: r, e, he => by
  rcases List.mem_cons.mp he with q | q
  ·rw [q]; exact s_e gk gt oc pc a
  ·exact s_es gk gt oc pc r e q
theorem s_o (gk : GK G) (gt : GT G Γ) (oc : OrcOk G O n) (pc : PComp G O Γ n) : ∀ (o : Option Expr), ∀ e, o = some e → PE G O Γ n e
 | none, _, he => by cases he
 | some a, e, he => by
  have q := Option.some.inj he
  rw [← q]; exact (s_e gk gt oc pc a).1.1
end
end
noncomputable def RF (G : GW) (ι : Idx) (q : Fl × Loc) (f : Flow) : Prop := match q.1 with
 | .next => f = .next
 | .ret v => ∃ u, f = .ret u ∧ RV G ι v u
noncomputable def lcF (q : Fl × Loc) : Loc := q.2
section
variable {G : GW} {O : Orc} {Γ : CT} {n N : Nat} {c : Cx} {ι : Idx} {loc : Loc} {h : H}
noncomputable def PS (G : GW) (O : Orc) (Γ : CT) (n N : Nat) (s : Stmt) : Prop := ∀ (c : Cx) (ι : Idx) (loc : Loc) (h : H), c.Ok G (4 * n + 3) → Γ.Ok c → Sim G c ι loc h lcF (RF G) (exec s c.env) (xs1 O c.cs N (cS Γ s) loc h)
noncomputable def PSs (G : GW) (O : Orc) (Γ : CT) (n N : Nat) (ss : List Stmt) : Prop := ∀ (c : Cx) (ι : Idx) (loc : Loc) (h : H), c.Ok G (4 * n + 3) → Γ.Ok c → Sim G c ι loc h lcF (RF G) (execs ss c.env) (xss O c.cs N (cSs Γ ss) loc h)
theorem s_next : Sim G c ι loc h lcF (RF G) (pure .next) (.ok (.next, loc) h) := Sim.pure rfl rfl
theorem ps_stop {s : Stmt} (he : cS Γ s = .stop) : PS G O Γ n N s := fun c ι loc h k ok => by rw [he]; exact Sim.bad
theorem Sim.xElim {α γ : Type} {lc : Fl × Loc → Loc} {R : Idx → Fl × Loc → α → Prop} {t : Sem α} {cs : List Nat} {x : Option γ} {f : γ → St} (y : ∀ v, x = some v → Sim G c ι loc h lc R t (xs1 O cs N (f v) loc h)) : Sim G c ι loc h lc R t (xs1 O cs N (x.elim .stop f) loc h) := by
 cases x with
 | none => exact Sim.bad
 | some v => exact y v rfl
theorem Sim.xIte {α : Type} {lc : Fl × Loc → Loc} {R : Idx → Fl × Loc → α → Prop} {t : Sem α} {cs : List Nat} {b : Bool} {x : St} (y : b = true → Sim G c ι loc h lc R t (xs1 O cs N x loc h)) : Sim G c ι loc h lc R t (xs1 O cs N (if b = true then x else .stop) loc h) := by
 cases b with
 | false => exact Sim.bad
 | true => exact y rfl
theorem sw_none {v : Expr} (hn : notComp v = true) (t : Option Expr) (l : Nat) (env : Env) : swapsWith v t l env = pure false := by
 cases v <;> first | rfl | cases hn
theorem ps_expr {v : Expr} (pv : PX G O Γ n v) (p : Pos) : PS G O Γ n N (.Expr v p) := fun c ι loc h k ok => by
 refine Sim.xIte (b := notComp v) fun hn => ?_
 rw [arm_exec_Expr]
 have hi : interactive c.env = false := by
  unfold interactive
  rw [show c.env.scope.kind = .function from k.hk]
  rfl
 rw [hi, sw_none hn]
 refine Sim.standAt ?_
 refine (Sim.bind (pv.1.1 c ι loc h k ok) (k := fun u => dropValue v p u) (f := fun _ h => .ok (.next, loc) h) (lc' := lcF) (R' := RF G) fun w h' ι' u e le hr => ?_).conv fun s _ Q E z => ?_
 ·exact fun s rep Q E hok _ _ => wpAny_dropValue (hok _ _ _ _ _ rfl (.refl _) rep rfl)
 ·exact wpAny_bind (wpAny_pure z)
theorem ps_pass (p : Pos) : PS G O Γ n N (.Pass p) := fun c ι loc h k ok => by
 rw [arm_exec_Pass]
 exact Sim.standAt s_next
theorem ps_ret {v : Option Expr} (pv : ∀ e, v = some e → PE G O Γ n e) (p : Pos) : PS G O Γ n N (.Return v p) := fun c ι loc h k ok => by
 cases v with
 | none => exact Sim.bad
 | some e =>
  rw [arm_exec_Return]
  refine Sim.standAt ?_
  exact Sim.bind (pv e rfl c ι loc h k ok) fun w h' ι' u e le hr => Sim.pure rfl ⟨u, rfl, hr⟩
theorem Rep.set {s : Shared} (k : c.Ok G n) (rep : Rep G c ι loc h s) {i : Nat} {x : Str} {v : V} {u : Value} (hx : c.names[i]? = some x) (hr : RV G ι v u) {Q : Unit → Shared → Prop} {E : Value → Shared → Prop}
  (hq : ∀ hp tk, Rep G c ι (loc.set i (some v)) h { s with heap := hp, toks := tk } → Q () { s with heap := hp, toks := tk }) : wpAny (model G.prog G.w) c.A (storeName c.env x u) Q E s := by
 obtain ⟨k1, k2⟩ := k.nm x (List.mem_of_getElem? hx)
 obtain ⟨m, ns, hm⟩ := rep.ns
 refine wpAny_storeName_local k1 ns (fun h' hn hs => ?_) (by show (c.scope.kind == .class || (c.scope.kind == .module && c.L != mainGlobals)) = false; rw [k.hk]; rfl)
 exact hq h' _ (rep.store k hx hs ⟨m, hm, hn⟩ hr)
end
noncomputable def RTr {α β : Type} (_ : Idx) (_ : β) (_ : α) : Prop := True
section
variable {G : GW} {O : Orc} {Γ : CT} {n N : Nat} {c : Cx} {ι : Idx} {loc : Loc} {h : H}
theorem s_setL (k : c.Ok G n) {i : Nat} {x : Str} {v : V} {u : Value} (hx : c.names[i]? = some x) (hr : RV G ι v u) {p : Pos} :
  Sim G c ι loc h (fun l => l) RTr (assign (.Name x p) c.env u) (.ok (loc.set i (some v)) h) := fun s rep Q E hok _ _ => by
 rw [arm_assign_Name]
 refine wpAny_bind (wpAny_standAt (wpAny_bindName (rep.set k hx hr fun hp tk rep' => ?_)))
 exact hok _ h ι _ () rfl (.refl _) rep' trivial
theorem s_setC (k : c.Ok G n) {j i : Nat} {x : Str} {v : V} {u : Value} (hx : (c.cids.map (·.1))[j]? = some x) (hi : c.cs[j]? = some i) (hk : c.scope.names.lookup x = some .cell) {w : Option V} (hc : h[i]? = some (.cel w)) (hr : RV G ι v u) {p : Pos} :
  Sim G c ι loc h (fun l => l) RTr (assign (.Name x p) c.env u) (.ok loc (h.set i (.cel (some v)))) := fun s rep Q E hok _ _ => by
 rw [arm_assign_Name]
 unfold Cx.cs at hi
 rw [List.getElem?_map] at hx hi
 obtain ⟨q, hq, hq1⟩ := Option.map_eq_some_iff.mp hx
 obtain ⟨q', hq', hq2⟩ := Option.map_eq_some_iff.mp hi
 rw [hq] at hq'; cases hq'
 subst hq1 hq2
 obtain ⟨a, h1, h2⟩ := rep.cel q (List.mem_of_getElem? hq)
 obtain ⟨o, h3, h4⟩ := rep.mu _ _ _ h2 hc
 have hcell : ∃ v0, o.data = .cell v0 := by
  cases w with
  | none => exact ⟨_, h4⟩
  | some w => obtain ⟨v, e, _⟩ := h4; exact ⟨_, e⟩
 obtain ⟨v0, hv0⟩ := hcell
 refine wpAny_bind (wpAny_standAt (wpAny_bindName (wpAny_storeName_cell k.hk hk h1 ⟨o, h3.1, hv0⟩ fun h' hv hs => ?_)))
 obtain ⟨o', ho', hd'⟩ := hv
 exact hok _ _ ι _ () rfl (.refl _) (rep.upd (tk := s.toks) (lo := .cel (some v)) h2 hs ho' ⟨u, hd', hr⟩) trivial
theorem s_assign {t value : Expr} {pos : Pos} {r : Res V} {g : V → H → Res Loc} (hn : notComp value = true) (hsw : swappedStores [t] value c.env = pure none) (ht : assignEach [t] c.env = [(false, assign t c.env)])
  (x : Sim G c ι loc h (fun _ => loc) (RV G) (eval value c.env) r) (y : ∀ v h' ι' u, ι.Le ι' → RV G ι' v u → Sim G c ι' loc h' (fun l => l) RTr (assign t c.env u) (g v h')) :
  Sim G c ι loc h lcF (RF G) (exec (.Assign [t] value pos) c.env) (r.bind fun v h => (g v h).bind fun l h => .ok (.next, l) h) := by
 rw [arm_exec_Assign, ht, hsw]
 refine Sim.standAt ?_
 rw [show swapsWithSole [t] value pos.line c.env = pure false from sw_none hn _ _ _]
 have := Sim.bind x (k := fun u => assign t c.env u >>= fun _ => pure Flow.next) (f := fun v h => (g v h).bind fun l h => Res.ok (Fl.next, l) h) (lc' := lcF) (R' := RF G) fun v h' ι' u e le hr =>
  Sim.bind (y v h' ι' u le hr) fun l h2 ι2 a e2 le2 _ => Sim.pure rfl rfl
 refine this.conv fun s _ Q E z => ?_
 exact wpAny_bind (wpAny_pure (by
  intro Γ' p hΓ
  exact z Γ' p hΓ))
inductive PutV (G : GW) (c : Cx) (ι : Idx) (loc : Loc) (h : H) (es : List Expr) (us : List Value) (l : Loc) : Prop
 | mk (q1 : (assignEach es c.env).length = us.length) (q2 : (assignEach es c.env).findIdx? (·.1) = none) (q3 : Sim G c ι loc h (fun l => l) RTr (assignInOrder ((assignEach es c.env).map (·.2)) us) (.ok l h))
theorem assignIn2 {t : Value → Sem Unit} {ts : List (Value → Sem Unit)} {x : Value} {xs : List Value} : assignInOrder (t :: ts) (x :: xs) = (holding xs (t x) >>= fun _ => assignInOrder ts xs) := rfl
theorem s_putAll (k : c.Ok G n) (ok : Γ.Ok c) {es : List Expr} {is : List Nat} (he : cNames Γ es = some is) {vs : List V} {us : List Value} {ι : Idx} {loc : Loc} {h : H} (hr : RVs G ι vs us) {l : Loc} (hl : putAll is vs loc = some l) : PutV G c ι loc h es us l := by
 induction es generalizing is vs us ι loc h l with
 | nil =>
  cases he
  cases vs with
  | cons => cases hl
  | nil =>
   cases hl
   cases hr
   exact ⟨rfl, rfl, Sim.pure rfl trivial⟩
 | cons e r ih =>
  obtain ⟨⟨⟨x, p⟩, hX⟩, _, he⟩ := Option.bind_eq_some_iff.mp he
  dsimp only at hX
  subst hX
  obtain ⟨i, h1, he⟩ := Option.bind_eq_some_iff.mp he
  obtain ⟨is', h2, rfl⟩ := Option.map_eq_some_iff.mp he
  cases vs with
  | nil => cases hl
  | cons w vs =>
   obtain ⟨u, us, rfl, a, b⟩ := hr
   obtain ⟨q1, q2, _⟩ := ih h2 (ι := ι) (h := h) b hl
   refine ⟨congrArg Nat.succ q1, ?_, ?_⟩
   ·rw [show assignEach (.Name x p :: r) c.env = (false, assign (.Name x p) c.env) :: assignEach r c.env from rfl, List.findIdx?_cons, q2]
    rfl
   ·rw [show assignEach (.Name x p :: r) c.env = (false, assign (.Name x p) c.env) :: assignEach r c.env from rfl, List.map_cons]
    rw [assignIn2]
    have hx : c.names[i]? = some x := by rw [← ok.loc]; exact idx_get h1
    refine (Sim.bind (f := fun _ h => Res.ok l h) (Sim.holding (s_setL k hx a)) fun l1 h2' ι2 q e2 le2 _ => ?_).res rfl
    cases e2
    exact (ih h2 (b.mono le2) hl).3
theorem s_setT (k : c.Ok G n) (ok : Γ.Ok c) {es : List Expr} {is : List Nat} (he : cNames Γ es = some is) {v : V} {u : Value} (hr : RV G ι v u) {q} {p : Pos} :
  Sim G c ι loc h (fun l => l) RTr (assign (.Tuple es q p) c.env u) (match putT is v loc with | some l => .ok l h | none => .bad) := by
 cases v with
 | tup vs =>
  cases hl : putT is (.tup vs) loc with
  | none => exact Sim.bad
  | some l =>
   intro s rep Q E hok hex hnb
   obtain ⟨a, us, m, rfl, m1, x1, hr2⟩ := rep.tupAt hr
   obtain ⟨q1, q2, sim⟩ := s_putAll (h := h) k ok he hr2 hl
   rw [arm_assign_Tuple]
   refine wpAny_bind (wpAny_standAt (unpack_tuple k.hh (items := us.toArray) ⟨_, x1, rfl, m, rfl⟩ (by rw [List.size_toArray]; exact q1) q2 fun h' hx => ?_))
   have := sim { s with heap := h' } (rep.grow (tk := s.toks) fun b o e => hx b o (Nat.ne_of_lt (Heap.lt_size e)) e) Q E
   exact this hok hex hnb
 | _ => exact Sim.bad
theorem ps_assign (gk : GK G) (gt : GT G Γ) {t value : Expr} (pt : PX G O Γ n t) (po : ∀ o i p, t = .Subscript o i p → PE G O Γ n o ∧ PE G O Γ n i) (pv : PX G O Γ n value) (pos : Pos)
  (pI : ∀ x p, t = .Name x p → notComp value = false → PS G O Γ n N (.Assign [t] value pos)) : PS G O Γ n N (.Assign [t] value pos) := fun c ι loc h k ok => by
 cases t with
 | Name x p =>
  by_cases hn : notComp value = true
  ·show Sim G c ι loc h lcF (RF G) _ (xs1 O c.cs N (cAsgN Γ x p value) loc h)
   unfold cAsgN
   cases hi : idx x Γ.loc 0 with
   | some i =>
    dsimp only
    rw [if_pos hn]
    exact (s_assign hn rfl rfl (pv.1.1 c ι loc h k ok) (g := fun v h => .ok (loc.set i (some v)) h) fun v h' ι' u le hr => s_setL k (by rw [← ok.loc]; exact idx_get hi) hr).res rfl
   | none =>
    refine Sim.xElim fun j hj => Sim.xIte fun hc => ?_
    have hc := Bool.and_eq_true_iff.mp hc
    have hx : (c.cids.map (·.1))[j]? = some x := by rw [← ok.cel]; exact idx_get hj
    have hk : c.scope.names.lookup x = some .cell := by rw [← ok.sc]; exact eq_of_beq hc.2
    refine (s_assign hn rfl rfl (pv.1.1 c ι loc h k ok) (g := fun v h => match c.cs[j]? with
     | some i => match h[i]? with
      | some (.cel _) => .ok loc (h.set i (.cel (some v)))
      | _ => .bad
     | none => .bad) fun v h' ι' u le hr => ?_).res ?_
    ·cases hi : c.cs[j]? with
     | none => exact Sim.bad
     | some i =>
      dsimp only
      cases hw : h'[i]? with
      | none => exact Sim.bad
      | some lo => cases lo with
       | cel w => exact s_setC k hx hi hk hw hr
       | _ => exact Sim.bad
    ·show (ev O c.cs (cE Γ value) loc h).bind _ = _
     congr 1
     funext v h
     cases c.cs[j]? with
     | none => rfl
     | some i =>
      dsimp only
      cases h[i]? with
      | none => rfl
      | some lo => cases lo <;> rfl
  ·exact pI x p rfl (by simpa using hn) c ι loc h k ok
 | Attribute o x p =>
  refine Sim.xIte (b := notComp value && Γ.an.contains x) fun hc => ?_
  have hc := Bool.and_eq_true_iff.mp hc
  refine (s_assign hc.1 rfl rfl (pv.1.1 c ι loc h k ok) (g := fun v h => (ev O c.cs (cE Γ o) loc h).bind fun y h => (setAttV y x v h).bind fun _ h => .ok loc h) fun v h' ι' u le hr => ?_).res (by
   show (ev O c.cs (cE Γ value) loc h).bind _ = _
   congr 1
   funext v h
   rw [Res.bind_assoc]
   congr 1
   funext y h
   rw [Res.bind_assoc]; rfl)
  rw [arm_assign_Attribute]
  refine Sim.bind (Sim.holding (pt.2 c ι' loc h' k ok)) fun y h2 ι2 ov e2 le2 hy => ?_
  refine Sim.standAt (Sim.bind (Sim.holding (s_setAtt gk k (gt.an x hc.2) hy (hr.mono le2))) fun _ h3 ι3 _ e3 le3 _ => ?_)
  exact fun s rep Q E hok _ _ => wpAny_release (hok loc h3 ι3 s () rfl (.refl _) rep trivial)
 | Subscript o i p =>
  obtain ⟨p1, p2⟩ := po o i p rfl
  refine Sim.xIte (b := notComp value && notSlice i) fun hc => ?_
  have hc := Bool.and_eq_true_iff.mp hc
  refine (s_assign hc.1 rfl rfl (pv.1.1 c ι loc h k ok) (g := fun v h => (ev O c.cs (cE Γ o) loc h).bind fun y h => (ev O c.cs (cE Γ i) loc h).bind fun z h => (setSubV y z v h).bind fun _ h => .ok loc h) fun v h' ι' u le hr => ?_).res (by
   show (ev O c.cs (cE Γ value) loc h).bind _ = _
   congr 1
   funext v h
   rw [Res.bind_assoc]
   congr 1
   funext y h
   rw [Res.bind_assoc]
   congr 1
   funext z h
   rw [Res.bind_assoc]; rfl)
  rw [arm_assign_Subscript]
  refine Sim.bind (Sim.holding (p1 c ι' loc h' k ok)) fun y h2 ι2 ov e2 le2 hy => ?_
  refine Sim.bind (Sim.holding (p2 c ι2 loc h2 k ok)) fun z h3 ι3 iv e3 le3 hz => ?_
  refine Sim.standAt (Sim.bind (Sim.holding (s_setSub k (hy.mono le3) hz ((hr.mono le2).mono le3))) fun _ h4 ι4 _ e4 le4 _ => ?_)
  exact fun s rep Q E hok _ _ => wpAny_release (hok loc h4 ι4 s () rfl (.refl _) rep trivial)
 | Tuple es q p =>
  refine Sim.xIte (b := notComp value && notTup value) fun hc => Sim.xElim fun is his => ?_
  have hc := Bool.and_eq_true_iff.mp hc
  refine (s_assign hc.1 (by have h2 := hc.2; cases value <;> first | rfl | cases h2) rfl (pv.1.1 c ι loc h k ok) (g := fun v h => match putT is v loc with
   | some l => .ok l h
   | none => .bad) fun v h' ι' u le hr => s_setT k ok his hr).res ?_
  show (ev O c.cs (cE Γ value) loc h).bind _ = _
  congr 1
  funext v h
  cases putT is v loc <;> rfl
 | _ => exact Sim.bad
end
section
variable {G : GW} {c : Cx} {ι : Idx} {loc : Loc} {h : H} {n : Nat} {s : Shared}
theorem Heap.Ns.slots {hp hp' : Heap} {L : Addr} {m : Str → Option Value} (x : hp.Ns L m) (h2 : ∀ o, hp.get? L = some o → ∃ sl, hp'.get? L = some { o with slots := sl }) : hp'.Ns L m := by
 obtain ⟨o, es, ep, e, r⟩ := x
 obtain ⟨sl, e'⟩ := h2 o e
 exact ⟨_, es, ep, e', r⟩
theorem Rep.change (rep : Rep G c ι loc h s) (k : c.Ok G n) {X : Addr → Prop} (hX : ∀ a, X a → Own c ι a) {hp : Heap} (tk : Nat) (h1 : ∀ b o, s.heap.get? b = some o → b ∉ c.fas → ¬ X b → hp.get? b = some o)
  (h2 : ∀ b ∈ c.fas, ∀ o, s.heap.get? b = some o → ∃ sl, hp.get? b = some { o with slots := sl }) : Rep G c ι loc h { s with heap := hp, toks := tk } := by
 have at_ : ∀ a o, At c s.heap a o → (a ∈ ι.ρ ∨ ∃ p ∈ ι.imm, p.1 = a) → At c hp a o := fun a o x y => ⟨h1 a o x.1 x.2.2 (fun q => by
  rcases y with y | ⟨p, hp', rfl⟩
  ·exact (hX a q).2.2.1 y
  ·exact (hX _ q).2.2.2 p hp' rfl), x.2⟩
 refine ⟨fun b o e => h1 b o (rep.keep b o e) (fun q => absurd (Heap.lt_size e) (Nat.not_lt.mpr (k.ab b q))) (fun q => by rw [(hX b q).1] at e; cases e), ?_, fun q hq => ?_, rep.len, rep.nd, fun i a lo e1 e2 => ?_, fun p hp' => at_ _ _ (rep.im p hp') (.inr ⟨p, hp', rfl⟩), rep.dis, rep.cel, rep.gens, rep.drawn, rep.os, rep.tb⟩
 ·obtain ⟨m, ns, x⟩ := rep.ns
  exact ⟨m, Heap.Ns.slots ns (h2 c.L List.mem_cons_self), x⟩
 ·exact Heap.Ns.slots (rep.bel q hq) (h2 q.1 (List.mem_cons_of_mem _ (List.mem_map_of_mem hq)))
 ·obtain ⟨o, x, y⟩ := rep.mu i a lo e1 e2
  exact ⟨o, at_ a o x (.inl (List.mem_of_getElem? e1)), y⟩
theorem outs_fun {hp base : Heap} {l : List Env} {b : List (Addr × (Str → Option Value))} (x : Outs l b) (h1 : ∀ q ∈ b, hp.Ns q.1 q.2) (h2 : ∀ q ∈ b, base.get? q.1 = none) : hp.FunFrames base l ∧ l.filterMap (·.frame) = b.map (·.1) := by
 induction l generalizing b with
 | nil =>
  cases b with
  | nil => exact ⟨trivial, rfl⟩
  | cons q r => exact x.elim
 | cons e l ih =>
  cases b with
  | nil => exact x.elim
  | cons q r =>
   have f := ih x.2.2 (fun q hq => h1 q (.tail _ hq)) (fun q hq => h2 q (.tail _ hq))
   exact ⟨.cons x.1 x.2.1 (h1 q (.head _)) (h2 q (.head _)) f.1, by rw [List.filterMap_cons, x.2.1, List.map_cons, f.2]⟩
theorem Rep.frames (rep : Rep G c ι loc h s) (k : c.Ok G n) : s.heap.FunFrames c.g (c.env :: c.outer) ∧ (c.env :: c.outer).filterMap (·.frame) = c.fas := by
 have hn : ∀ a ∈ c.fas, c.g.get? a = none := fun a ha => by
  cases z : c.g.get? a with
  | none => rfl
  | some o => exact absurd (Heap.lt_size z) (Nat.not_lt.mpr (k.ab a ha))
 obtain ⟨f1, f2⟩ := outs_fun k.ou rep.bel (fun q hq => hn _ (List.mem_cons_of_mem _ (List.mem_map_of_mem hq)))
 obtain ⟨m, ns, _⟩ := rep.ns
 refine ⟨.cons (by rw [show c.env.scope.kind = .function from k.hk]; decide) rfl ns (hn _ List.mem_cons_self) f1, ?_⟩
 rw [List.filterMap_cons]
 show c.L :: List.filterMap _ c.outer = _
 rw [f2]
 rfl
noncomputable def RepF (G : GW) (c : Cx) (ι : Idx) (h : H) (C : Addr) (k : Str) (e : Addr) (s : Shared) (fl : Option (Option Addr)) : Prop := ∃ loc, Rep G c ι loc h s ∧ ExcAt G c ι s.heap C k e fl
theorem w_entry (k : c.Ok G n) (rep : Rep G c ι loc h s) {C e dx : Addr} {kd : Str} {vs : Array Value} {sl : Array (Option Value)} {es : List DictEntry} {m : Nat} {t : Tok} {head : Value} {hn : Bool}
  (he : s.heap.get? e = some ⟨.ref C, some dx, .fields vs, sl⟩) (hsz : vs.size = 6) (oe : Own c ι e) (hd : s.heap.get? dx = some (dictOf es m)) (od : Own c ι dx) (hg : getL "kind" es = some (some (.str kd t)))
  {Q : Unit → Shared → Prop} {E : Value → Shared → Prop} (hq : ∀ hp, RepF G c ι h C kd e { s with heap := hp } (some (some c.L)) → Q () { s with heap := hp }) :
  wpAny (model G.prog G.w) c.A (do setField (.ref e) 1 (← EntryCells.newEntry head (← frameOf c.env) .none (rawInt c.L) .none (← entryPlaceOf c.L hn))) Q E s := by
 obtain ⟨ff, fe⟩ := rep.frames k
 have nf : ∀ a, Own c ι a → a ∉ (c.env :: c.outer).filterMap (·.frame) := fun a o => by rw [fe]; exact o.2.1
 refine wpAny_bind (wpAny_frameOf_fun (base := c.g) k.fr ff rfl fun h₁ hs₁ => ?_)
 refine wpAny_bind (wpAny_entryPlaceOf fun pl hpl => ?_)
 unfold EntryCells.newEntry newFields
 refine wpAny_bind (wpAny_newObj_type ?_ (hpl.sizeOk5 _ _ _ _ _))
 have he₁ := (hs₁.2.1 e (nf e oe)).trans he
 have hd₁ := (hs₁.2.1 dx (nf dx od)).trans hd
 have hne : e ≠ dx := fun q => by subst q; rw [he] at hd; cases hd
 generalize hT : ([head, .ref c.L, .none, rawInt c.L, .none] ++ (if pl.isEmpty then List.replicate 6 Value.none else pl)).toArray = ts
 have hts : ts[3]? = some (rawInt c.L) := by rw [← hT]; rfl
 have oT : Own c ι h₁.objs.size := rep.own (by rw [hs₁.1]; exact Nat.le_refl _)
 have hTe : h₁.objs.size ≠ e := Nat.ne_of_gt (Heap.lt_size he₁)
 have hTd : h₁.objs.size ≠ dx := Nat.ne_of_gt (Heap.lt_size hd₁)
 have he₂ := Heap.get?_push_of_some (h := h₁) { cls := .type "traceback", dict := none, data := .fields ts } he₁
 refine wpAny_setField he₂ rfl (by rw [hsz]; decide) (hq _ ⟨loc, rep.change k (X := fun a => a = e) (fun a q => q ▸ oe) s.toks (fun b o hb hf hx => ?_) (fun b hb o ho => ?_), ?_⟩)
 ·rw [Heap.get?_update_other _ _ (Ne.symm hx)]
  refine Heap.get?_push_of_some _ ?_
  exact (hs₁.2.1 b (by rw [fe]; exact hf)).trans hb
 ·obtain ⟨sl', e'⟩ := hs₁.2.2 b o ho
  exact ⟨sl', by
   rw [Heap.get?_update_other _ _ (show e ≠ b from fun q => oe.2.1 (q ▸ hb))]
   exact Heap.get?_push_of_some _ e'⟩
 ·refine ⟨_, vs.setIfInBounds 1 (.ref h₁.objs.size), dx, es, m, t, Heap.get?_update_self _ he₂ rfl, rfl, rfl, rfl, by simp [hsz], oe, ?_, od, hg, h₁.objs.size, { cls := .type "traceback", dict := none, data := .fields ts }, ts, ?_, ?_, rfl, hts, oT, hTe⟩
  ·show Heap.get? (Heap.update _ e _) dx = _
   rw [Heap.get?_update_other _ _ hne]
   exact Heap.get?_push_of_some _ hd₁
  ·simp [hsz]
  ·show Heap.get? (Heap.update _ e _) _ = _
   rw [Heap.get?_update_other _ _ (Ne.symm hTe)]
   exact Heap.get?_push_size _ rfl
theorem w_note (k : c.Ok G n) {C e : Addr} {kd : Str} (rx : RepX G c ι h C kd e s) {Q : Unit → Shared → Prop} {E : Value → Shared → Prop} (hq : ∀ hp, RepF G c ι h C kd e { s with heap := hp } (some (some c.L)) → Q () { s with heap := hp }) :
  wpAny (model G.prog G.w) c.A (noteFrame (.ref e) c.env) Q E s := by
 obtain ⟨loc, fl, rep, ⟨oe, vs, dx, es, m, t, he, hc, hdi, hda, hsz, oe', hd, od, hg, hfl⟩, hcase⟩ := rx
 obtain ⟨cls, dict, data, sl⟩ := oe
 simp only at hc hdi hda
 subst hc hdi hda
 unfold noteFrame
 rcases hcase with rfl | rfl | rfl
 ·show wpAny _ _ (field (.ref e) 1 >>= _) _ _ _
  refine wpAny_bind (wpAny_field he rfl hfl ?_)
  rw [if_neg (by decide)]
  exact w_entry k rep he hsz oe' hd od hg hq
 ·obtain ⟨T, oT, ts, h1, h2, h3, h4, h5, h6⟩ := hfl
  show wpAny _ _ (field (.ref e) 1 >>= _) _ _ _
  refine wpAny_bind (wpAny_field he rfl h1 ?_)
  rw [if_pos (show (Value.ref T != Value.none) = true from by simp)]
  refine wpAny_bind (wpAny_field h2 h3 h4 ?_)
  rw [if_neg (by simp [rawInt])]
  have h3s : 3 < ts.size := (Array.getElem?_eq_some_iff.mp h4).1
  refine wpAny_bind (wpAny_setField h2 h3 h3s ?_)
  have hTd : dx ≠ T := fun q => by subst q; rw [h2] at hd; cases hd; cases h3
  have rep' := rep.change k (X := fun a => a = T) (fun a q => q ▸ h5) (hp := s.heap.update T (Obj.mapFields (·.setIfInBounds 3 .none))) s.toks
   (fun b o hb hf hx => by rw [Heap.get?_update_other _ _ (Ne.symm hx)]; exact hb)
   (fun b hb o ho => ⟨o.slots, by rw [Heap.get?_update_other _ _ (show T ≠ b from fun q => h5.2.1 (q ▸ hb))]; exact ho⟩)
  exact w_entry k rep' (by show Heap.get? (Heap.update _ T _) e = _; rw [Heap.get?_update_other _ _ h6]; exact he) hsz oe' (by show Heap.get? (Heap.update _ T _) dx = _; rw [Heap.get?_update_other _ _ (Ne.symm hTd)]; exact hd) od hg
   fun hp r => hq hp r
 ·obtain ⟨T, oT, ts, h1, h2, h3, h4, h5, h6⟩ := hfl
  show wpAny _ _ (field (.ref e) 1 >>= _) _ _ _
  refine wpAny_bind (wpAny_field he rfl h1 ?_)
  rw [if_pos (show (Value.ref T != Value.none) = true from by simp)]
  refine wpAny_bind (wpAny_field h2 h3 h4 ?_)
  rw [if_pos (by simp)]
  exact wpAny_pure (hq s.heap ⟨loc, rep, ⟨_, vs, dx, es, m, t, he, rfl, rfl, rfl, hsz, oe', hd, od, hg, ⟨T, oT, ts, h1, h2, h3, h4, h5, h6⟩⟩⟩)
theorem w_flight (k : c.Ok G n) {C e : Addr} {kd : Str} {f f' : Option Addr} (rx : RepF G c ι h C kd e s (some f)) {Q : Unit → Shared → Prop} {E : Value → Shared → Prop} (hq : ∀ hp, RepF G c ι h C kd e { s with heap := hp } (some f') → Q () { s with heap := hp }) :
  wpAny (model G.prog G.w) c.A (setFlight (.ref e) f') Q E s := by
 obtain ⟨loc, rep, oe, vs, dx, es, m, t, he, hc, hdi, hda, hsz, oe', hd, od, hg, T, oT, ts, h1, h2, h3, h4, h5, h6⟩ := rx
 unfold setFlight
 refine wpAny_bind (wpAny_field he hda h1 ?_)
 rw [if_pos (show (Value.ref T != Value.none) = true from by simp)]
 have h3s : 3 < ts.size := (Array.getElem?_eq_some_iff.mp h4).1
 have hTd : dx ≠ T := fun q => by subst q; rw [h2] at hd; cases hd; cases h3
 refine wpAny_setField h2 h3 h3s (hq _ ⟨loc, rep.change k (X := fun a => a = T) (fun a q => q ▸ h5) s.toks (fun b o hb hf hx => by rw [Heap.get?_update_other _ _ (Ne.symm hx)]; exact hb)
   (fun b hb o ho => ⟨o.slots, by rw [Heap.get?_update_other _ _ (show T ≠ b from fun q => h5.2.1 (q ▸ hb))]; exact ho⟩),
  ⟨oe, vs, dx, es, m, t, ?_, hc, hdi, hda, hsz, oe', ?_, od, hg, T, oT.mapFields (·.setIfInBounds 3 (f'.elim Value.none fun a => rawInt a)), ts.setIfInBounds 3 (f'.elim Value.none fun a => rawInt a), h1, ?_, Obj.data_mapFields h3 _, ?_, h5, h6⟩⟩)
 ·show Heap.get? (Heap.update _ T _) e = _
  rw [Heap.get?_update_other _ _ h6]; exact he
 ·show Heap.get? (Heap.update _ T _) dx = _
  rw [Heap.get?_update_other _ _ (Ne.symm hTd)]; exact hd
 ·exact Heap.get?_update_self _ h2 (Obj.isFreed_of_fields (Obj.data_mapFields h3 _))
 ·rw [Array.getElem?_setIfInBounds_self_of_lt h3s]
theorem RepF.x {C e : Addr} {kd : Str} {fl : Option (Option Addr)} (r : RepF G c ι h C kd e s fl) (hf : fl = none ∨ fl = some none ∨ fl = some (some c.L)) : RepX G c ι h C kd e s :=
 r.imp fun loc z => ⟨fl, z.1, z.2, hf⟩
theorem w_noted (k : c.Ok G n) {C e : Addr} {kd : Str} (rx : RepX G c ι h C kd e s) {E : Value → Shared → Prop} (hE : ∀ hp, RepF G c ι h C kd e { s with heap := hp } (some (some c.L)) → E (.ref e) { s with heap := hp }) :
  notedBy (model G.prog G.w) c.A c.env E (.ref e) s := w_note k rx hE
theorem w_back (k : c.Ok G n) {C e : Addr} {kd : Str} (rx : RepF G c ι h C kd e s (some (some c.L))) {E : Value → Shared → Prop} (hE : ∀ hp, RepF G c ι h C kd e { s with heap := hp } (some (some c.L)) → E (.ref e) { s with heap := hp }) :
  cameBackBy (model G.prog G.w) c.A c.env E (.ref e) s := by
 unfold cameBackBy
 obtain ⟨loc, rep, oe, vs, dx, es, m, t, he, hc, hdi, hda, hsz, oe', hd, od, hg, T, oT, ts, h1, h2, h3, h4, h5, h6⟩ := id rx
 refine wpAny_bind (wpAny_field he hda h1 ?_)
 rw [if_neg (by simp)]
 exact w_flight (f' := some c.L) k rx hE
theorem w_leave (k : c.Ok G n) {C e : Addr} {kd : Str} (rx : RepX G c ι h C kd e s) {Q : Unit → Shared → Prop} {E : Value → Shared → Prop} (hq : ∀ hp, RepF G c ι h C kd e { s with heap := hp } (some none) → Q () { s with heap := hp }) :
  wpAny (model G.prog G.w) c.A (leaving c.env (.ref e)) Q E s := by
 unfold leaving
 exact wpAny_bind (w_note k rx fun hp r => w_flight k r fun hp' r' => hq hp' r')
end
section
variable {G : GW} {O : Orc} {Γ : CT} {n N : Nat} {c : Cx} {ι : Idx} {loc : Loc} {h : H}
theorem pss_nil : PSs G O Γ n N [] := fun c ι loc h k ok => by
 exact s_next
theorem pss_cons {s : Stmt} {r : List Stmt} (x : PS G O Γ n N s) (y : PSs G O Γ n N r) : PSs G O Γ n N (s :: r) := fun c ι loc h k ok => by
 rw [arm_execs_cons]
 refine Sim.bind (x c ι loc h k ok) fun q h' ι' f e le hr => ?_
 obtain ⟨q, l⟩ := q
 cases q with
 | next =>
  cases hr
  exact y c ι' l h' k ok
 | ret v =>
  obtain ⟨u, rfl, hu⟩ := hr
  exact Sim.pure rfl ⟨u, rfl, hu⟩
theorem ps_if {t : Expr} {a b : List Stmt} (pt : PT G O Γ n t) (x : PSs G O Γ n N a) (y : PSs G O Γ n N b) (p : Pos) : PS G O Γ n N (.If t a b p) := fun c ι loc h k ok => by
 rw [arm_exec_If]
 exact Sim.standAt (s_if (pt c ι loc h k ok) (fun ι' h' _ => x c ι' loc h' k ok) fun ι' h' _ => y c ι' loc h' k ok)
theorem x_loop (k : c.Ok G n) {C e : Addr} {kd : Str} {s : Shared} (rx : RepX G c ι h C kd e s) {E : Value → Shared → Prop} (hE : ∀ s', RepX G c ι h C kd e s' → E (.ref e) s') :
  notedBy (model G.prog G.w) c.A c.env (fun e s' => cameBackBy (model G.prog G.w) c.A c.env E e s') (.ref e) s :=
 w_noted k rx fun hp r => w_back k r fun hp' r' => hE _ (r'.x (.inr (.inr rfl)))
inductive WhiI (G : GW) (O : Orc) (Γ : CT) (N : Nat) (c : Cx) (t : Expr) (b : List Stmt) (ι : Idx) (r : Res (Fl × Loc)) (m : Nat) (s : Shared) : Prop
 | mk (ι' : Idx) (loc' : Loc) (h' : H) (le : ι.Le ι') (rep : Rep G c ι' loc' h' s) (e : r = loopW (tr O c.cs (cE Γ t)) (xss O c.cs N (cSs Γ b)) m loc' h')
theorem ps_while {t : Expr} {b : List Stmt} (pt : PT G O Γ n t) (x : PSs G O Γ n N b) (p : Pos) : PS G O Γ n N (.While t b [] p) := fun c ι loc h k ok => by
 show Sim G c ι loc h lcF (RF G) _ (loopW (tr O c.cs (cE Γ t)) (xss O c.cs N (cSs Γ b)) N loc h)
 intro s rep Q E hok hex hnb
 generalize hr : loopW (tr O c.cs (cE Γ t)) (xss O c.cs N (cSs Γ b)) N loc h = r at hok hex hnb
 refine wpAny_While (codeAny_whileLoop (WhiI G O Γ N c t b ι r) ?_ N ⟨ι, loc, h, .refl _, rep, hr.symm⟩)
 rintro m s ⟨ι', loc', h', le, rep', heq⟩
 cases m with
 | zero => exact absurd heq hnb
 | succ m =>
  have heq : r = (tr O c.cs (cE Γ t) loc' h').bind _ := heq
  refine pt c ι' loc' h' k ok s rep' _ _ (fun tb h2 ι2 s2 a e2 le2 rep2 hb => ?_) (fun C kd h2 ι2 s2 x e2 le2 rx => x_loop k rx fun s' rx' => hex C kd h2 ι2 s' x (by rw [heq, e2]; rfl) (le.trans le2) rx') (fun q => hnb (by rw [heq, q]; rfl))
  cases hb
  cases tb with
  | false =>
   rw [if_neg Bool.false_ne_true]
   exact wpAny_execs_nil (hok (.next, loc') h2 ι2 s2 _ (by rw [heq, e2]; rfl) (le.trans le2) rep2 rfl)
  | true =>
   rw [if_pos rfl]
   have heq2 : r = (xss O c.cs N (cSs Γ b) loc' h2).bind fun q h => match q with
    | (.next, loc) => loopW (tr O c.cs (cE Γ t)) (xss O c.cs N (cSs Γ b)) m loc h
    | (.ret v, loc) => .ok (.ret v, loc) h := by rw [heq, e2]; rfl
   refine x c ι2 loc' h2 k ok s2 rep2 _ _ (fun q h3 ι3 s3 f e3 le3 rep3 hf => ?_) (fun C kd h3 ι3 s3 x e3 le3 rx => x_loop k rx fun s' rx' => hex C kd h3 ι3 s' x (by rw [heq2, e3]; rfl) ((le.trans le2).trans le3) rx') (fun q => hnb (by rw [heq2, q]; rfl))
   obtain ⟨q, l⟩ := q
   cases q with
   | next =>
    cases hf
    exact ⟨m, Nat.lt_succ_self m, ι3, l, h3, (le.trans le2).trans le3, rep3, by rw [heq2, e3]; rfl⟩
   | ret v =>
    obtain ⟨u, rfl, hu⟩ := hf
    exact hok (.ret v, l) h3 ι3 s3 _ (by rw [heq2, e3]; rfl) ((le.trans le2).trans le3) rep3 ⟨u, rfl, hu⟩
end
noncomputable def Odd (o : Obj) : Prop := (∃ T, o.cls = .type T ∧ T ≠ "tuple" ∧ T ≠ "dict") ∧ (∀ fd, o.data ≠ .func fd) ∧ ∀ cvs, o.data = .fields cvs → ∀ x t, cvs[1]? ≠ some (.str x t)
noncomputable def Idx.drop (ι : Idx) (a : Addr) : Idx := ⟨ι.ρ, ι.imm.filter fun p => decide (p.1 ≠ a)⟩
section
variable {G : GW} {ι : Idx} {a : Addr}
theorem drop_mem (ha : ∀ p ∈ ι.imm, p.1 = a → Odd p.2) {b : Addr} {o : Obj} (hm : (b, o) ∈ ι.imm) (ho : ¬ Odd o) : (b, o) ∈ (ι.drop a).imm :=
 List.mem_filter.mpr ⟨hm, decide_eq_true fun q => ho (ha _ hm q)⟩
theorem RV.less2 (ha : ∀ p ∈ ι.imm, p.1 = a → Odd p.2) : (∀ x, ∀ v, RV G ι x v → RV G (ι.drop a) x v) ∧ ∀ xs, ∀ vs, RVs G ι xs vs → RVs G (ι.drop a) xs vs := by
 refine V.both (fun _ r => r) (fun _ _ r => r) (fun _ _ r => r) (fun _ _ r => r) (fun xs ih v r => ?_) (fun _ _ r => r) (fun k cs v r => ?_) (fun C kd v r => ?_) (fun _ _ r => r) (fun _ r => r) (fun x xs i1 i2 vs r => ?_)
 ·obtain ⟨b, vs, n, e, m, r⟩ := r
  refine .mk b vs n e (drop_mem ha m fun q => ?_) (ih _ r)
  obtain ⟨⟨T, e, h, _⟩, _⟩ := q
  cases e; exact h rfl
 ·obtain ⟨b, o, oc, cl, c, cvs, t, e, m, q, m2, d, d1, n1, n2⟩ := r
  refine .mk b o oc cl c cvs t e (drop_mem ha m fun z => ?_) q (drop_mem ha m2 fun z => z.2.2 _ d _ _ d1) d d1 n1 n2
  obtain ⟨doc, pm, ct, _, o2⟩ := q
  exact z.2.1 _ o2
 ·obtain ⟨b, dx, o, es, n, t, q, m, hC, nc, c, d, m2, g⟩ := r
  refine .mk b dx o es n t q (drop_mem ha m fun z => ?_) hC nc c d (drop_mem ha m2 fun z => ?_) g
  ·obtain ⟨⟨T, e, _⟩, _⟩ := z
   rw [c] at e; cases e
  ·obtain ⟨⟨T, e, _, h⟩, _⟩ := z
   cases e; exact h rfl
 ·obtain ⟨v, ws, e, x, y⟩ := r; exact ⟨v, ws, e, i1 _ x, i2 _ y⟩
theorem RV.less (ha : ∀ p ∈ ι.imm, p.1 = a → Odd p.2) {x : V} {v : Value} : RV G ι x v → RV G (ι.drop a) x v := (RV.less2 ha).1 x v
theorem RVs.less (ha : ∀ p ∈ ι.imm, p.1 = a → Odd p.2) {xs : List V} {vs : List Value} : RVs G ι xs vs → RVs G (ι.drop a) xs vs := (RV.less2 ha).2 xs vs
theorem RDs.less (ha : ∀ p ∈ ι.imm, p.1 = a → Odd p.2) {es : List (Str × V)} {ds : List DictEntry} (p : RDs G ι es ds) : RDs G (ι.drop a) es ds := by
 induction es generalizing ds with
 | nil => exact p
 | cons x es ih => obtain ⟨t, u, ds', e, x, y⟩ := p; exact ⟨t, u, ds', e, x.less ha, ih y⟩
theorem ORel.less (ha : ∀ p ∈ ι.imm, p.1 = a → Odd p.2) {l : LO} {o : Obj} (r : ORel G ι l o) : ORel G (ι.drop a) l o := by
 cases l with
 | lst xs => obtain ⟨vs, n, e, r⟩ := r; exact ⟨vs, n, e, r.less ha⟩
 | dct es => obtain ⟨vs, n, e, r⟩ := r; exact ⟨vs, n, e, r.less ha⟩
 | ins C d => exact r
 | cel v =>
  cases v with
  | none => exact r
  | some x => obtain ⟨v, e, r⟩ := r; exact ⟨v, e, r.less ha⟩
 | tab k =>
  obtain ⟨ps, e, r1, r2, r3⟩ := r
  refine ⟨ps, e, r1, r2, fun j hj => ?_⟩
  obtain ⟨c, oc, cvs, t, a1, a2, a3, a4⟩ := r3 j hj
  exact ⟨c, oc, cvs, t, a1, drop_mem ha a2 fun q => q.2.2 _ a3 _ _ a4, a3, a4⟩
theorem Rep.less {c : Cx} {loc : Loc} {h : H} {s : Shared} (rep : Rep G c ι loc h s) (ha : ∀ p ∈ ι.imm, p.1 = a → Odd p.2) : Rep G c (ι.drop a) loc h s := by
 refine { rep with ns := ?_, mu := fun i b lo e1 e2 => ?_, im := fun p hp => rep.im p (List.mem_filter.mp hp).1, dis := fun p hp => rep.dis p (List.mem_filter.mp hp).1 }
 ·obtain ⟨m, n, x⟩ := rep.ns
  exact ⟨m, n, fun i y v e1 e2 => (x i y v e1 e2).imp fun u z => ⟨z.1, z.2.less ha⟩⟩
 ·obtain ⟨o, x, y⟩ := rep.mu i b lo e1 e2
  exact ⟨o, x, y.less ha⟩
end
section
variable {G : GW} {O : Orc} {Γ : CT} {n N : Nat} {c : Cx} {ι : Idx} {loc : Loc} {h : H}
structure Iter (G : GW) (c : Cx) (I : Addr) (xs : List V) (cond : H → Prop) (Ok : Idx → Prop) (St : Nat → Obj → Prop) : Prop where
 odd : ∀ i o, St i o → Odd o
 cls : ∀ i o, St i o → ∃ T, o.cls = .type T ∧ (["enumerate", "zip", "dict_itemiterator", "dict_reverseitemiterator", "odict_iterator", "itertools.zip_longest", "itertools.pairwise"] : List String).contains T = false
 step : ∀ (i : Nat) (x : V) (ι : Idx) (loc : Loc) (h : H) (s : Shared) (o : Obj), Ok ι → xs[i]? = some x → cond h → Rep G c ι loc h s → s.heap.get? I = some o → St i o → ∀ (Q : Option Value → Shared → Prop) (E : Value → Shared → Prop),
  (∀ u hp tk o', RV G ι x u → hp.get? I = some o' → St (i + 1) o' → (∀ b o, b ≠ I → s.heap.get? b = some o → hp.get? b = some o) → Q (some u) { s with heap := hp, toks := tk }) → wpAny (model G.prog G.w) c.A (pyNext (.ref I)) Q E s
 fin : ∀ (ι : Idx) (loc : Loc) (h : H) (s : Shared) (o : Obj), Ok ι → cond h → Rep G c ι loc h s → s.heap.get? I = some o → St xs.length o → ∀ (Q : Option Value → Shared → Prop) (E : Value → Shared → Prop),
  (∀ hp tk, (∀ b o, b ≠ I → s.heap.get? b = some o → hp.get? b = some o) → Q none { s with heap := hp, toks := tk }) → wpAny (model G.prog G.w) c.A (pyNext (.ref I)) Q E s
theorem w_owned {t : Expr} {I : Addr} {v : Value} {o : Obj} {T : String} {s : Shared} {A : Around} {Q : Unit → Shared → Prop} {E : Value → Shared → Prop} (ho : s.heap.get? I = some o) (hc : o.cls = .type T)
  (hT : (["enumerate", "zip", "dict_itemiterator", "dict_reverseitemiterator", "odict_iterator", "itertools.zip_longest", "itertools.pairwise"] : List String).contains T = false) (hq : Q () s) : wpAny (model G.prog G.w) A (letOwnedTupleGo t (.ref I) v) Q E s := by
 have key : ∀ es k p a, wpAny (model G.prog G.w) A (letOwnedTupleGo (.Tuple es k p) (.ref I) (.ref a)) Q E s := fun es k p a => by
  refine wpAny_bind (wpAny_load ho ?_)
  obtain ⟨c, d, da, sl⟩ := o
  subst hc
  cases da with
  | fields vs =>
   dsimp only
   rw [hT, Bool.false_and, if_neg Bool.false_ne_true]
   exact wpAny_pure hq
  | _ => exact wpAny_pure hq
 cases t with
 | Tuple es k p => cases v <;> first | exact wpAny_pure hq | exact key _ _ _ _
 | List es p => cases v <;> first | exact wpAny_pure hq | exact key [] 0 p _
 | _ => exact wpAny_pure hq
theorem Own.grow {κ : Idx} {c : Cx} {I : Addr} {o : Obj} {loc : Loc} {h : H} {s : Shared} (rep : Rep G c κ loc h s) (hm : (I, o) ∈ κ.imm) : Own c (κ.drop I) I ∧ s.heap.get? I = some o := by
 have x := rep.im _ hm
 refine ⟨⟨x.2.1, x.2.2, rep.dis _ hm, fun p hp => ?_⟩, x.1⟩
 have := (List.mem_filter.mp hp).2
 simpa using this
inductive ForI (G : GW) (O : Orc) (Γ : CT) (N : Nat) (c : Cx) (b : List Stmt) (I : Addr) (xs : List V) (cond : H → Prop) (Ok : Idx → Prop) (St : Nat → Obj → Prop) (put : V → Loc → Option Loc) (still : H → Bool) (ι : Idx) (r : Res (Fl × Loc)) (m : Nat) (s : Shared) : Prop
 | mk (i : Nat) (ι' : Idx) (loc' : Loc) (h' : H) (o : Obj) (hm : m + i = xs.length) (le : ι.Le ι') (oki : Ok ι') (hc : cond h') (rep : Rep G c ι' loc' h' s) (ho : s.heap.get? I = some o) (hs : St i o) (own : Own c ι' I) (e : r = loopL (xss O c.cs N (cSs Γ b)) put still (xs.drop i) loc' h')
theorem s_for {I : Addr} {xs : List V} {cond : H → Prop} {Ok : Idx → Prop} {St : Nat → Obj → Prop} (it : Iter G c I xs cond Ok St) (hok' : ∀ ι κ : Idx, Ok ι → ι.Le κ → Ok κ) (k : c.Ok G (4 * n + 3)) (ok : Γ.Ok c) {t : Expr} {b : List Stmt} (x : PSs G O Γ n N b) {still : H → Bool}
  (hst : ∀ h, still h = true → cond h) {put : V → Loc → Option Loc} (hput : ∀ ι loc h v u l, put v loc = some l → RV G ι v u → Sim G c ι loc h (fun l => l) RTr (assign t c.env u) (.ok l h))
  (oki : Ok ι) (hc : cond h) {s : Shared} (rep : Rep G c ι loc h s) {o : Obj} (ho : s.heap.get? I = some o) (h0 : St 0 o) (hown : Own c ι I) {r : Res (Fl × Loc)} (hr : loopL (xss O c.cs N (cSs Γ b)) put still xs loc h = r)
  {Q : Flow → Shared → Prop} {E : Value → Shared → Prop} (hok : ∀ q h' ι' s' f, r = .ok q h' → ι.Le ι' → Rep G c ι' (lcF q) h' s' → RF G ι' q f → Q f s') (hex : ∀ C k h' ι' s' e, r = .exc C k h' → ι.Le ι' → RepX G c ι' h' C k e s' → E (.ref e) s') (hnb : r ≠ .bad) :
  codeAny (model G.prog G.w) c.A (.forLoop t (.ref I) b [] c.env) (fun r s' => match r with | .ok f => Q f s' | .error e => cameBackBy (model G.prog G.w) c.A c.env E e s') s := by
 refine codeAny_forLoop_any (ForI G O Γ N c b I xs cond Ok St put still ι r) ?_ xs.length
  ⟨0, ι, loc, h, o, rfl, .refl _, oki, hc, rep, ho, h0, hown, by rw [List.drop_zero]; exact hr.symm⟩
 rintro m s ⟨i, ι', loc', h', o, hm, le, oki', hc', rep', ho', hs', own', heq⟩
 have chg : ∀ hp tk, (∀ b o, b ≠ I → s.heap.get? b = some o → hp.get? b = some o) → Rep G c ι' loc' h' { s with heap := hp, toks := tk } := fun hp tk kp =>
  rep'.change k (X := fun a => a = I) (fun a q => q ▸ own') tk (fun b o hb _ hx => kp b o hx hb) (fun b hb o ho => ⟨o.slots, kp b o (fun q => own'.2.1 (q ▸ hb)) ho⟩)
 cases m with
 | zero =>
  have hi : i = xs.length := (Nat.zero_add i).symm.trans hm
  subst hi
  rw [List.drop_length] at heq
  refine it.fin ι' loc' h' s o oki' hc' rep' ho' hs' _ _ fun hp tk kp => ?_
  exact wpAny_execs_nil (hok (.next, loc') h' ι' _ _ heq le (chg hp tk kp) rfl)
 | succ m =>
  have hm : m + (i + 1) = xs.length := by rw [← hm, Nat.add_assoc, Nat.add_comm 1 i]
  have hi : i < xs.length := Nat.le.intro ((Nat.add_comm _ _).trans hm)
  have hx : xs[i]? = some xs[i] := List.getElem?_eq_getElem hi
  rw [List.drop_eq_getElem_cons hi] at heq
  have heq : r = (match put xs[i] loc' with
   | none => Res.bad
   | some loc => (xss O c.cs N (cSs Γ b) loc h').bind fun q h => match q with
    | (.next, loc) => if still h then loopL (xss O c.cs N (cSs Γ b)) put still (xs.drop (i + 1)) loc h else .bad
    | (.ret v, loc) => .ok (.ret v, loc) h) := heq
  refine it.step i _ ι' loc' h' s o oki' hx hc' rep' ho' hs' _ _ fun u hp tk o2 hu ho2 hs2 kp => ?_
  obtain ⟨T, hT1, hT2⟩ := it.cls _ _ hs2
  refine w_owned ho2 hT1 hT2 ?_
  have rep2 := chg hp tk kp
  obtain ⟨rep3, le3⟩ := rep2.addI (tk := tk) (fun _ _ e => e) ho2 own'
  cases hp' : put xs[i] loc' with
  | none => rw [hp'] at heq; exact absurd heq hnb
  | some l =>
   rw [hp'] at heq
   dsimp only at heq
   refine hput _ loc' h' _ u l hp' (hu.mono le3) _ rep3 _ _ (fun l2 h2 ι2 s2 a e2 le2 rep4 _ => ?_) (fun C kd h2 ι2 s2 y e2 _ _ => by cases e2) (fun q => by cases q)
   cases e2
   have le4 : ι.Le ι2 := (le.trans le3).trans le2
   refine x c ι2 l h' k ok s2 rep4 _ _ (fun q h3 ι3 s3 f e3 le5 rep5 hf => ?_) (fun C kd h3 ι3 s3 y e3 le5 rx => x_loop k rx fun s' rx' => hex C kd h3 ι3 s' y (by rw [heq, e3]; rfl) (le4.trans le5) rx') (fun q => hnb (by rw [heq, q]; rfl))
   obtain ⟨q, l3⟩ := q
   rw [e3] at heq
   dsimp only [Res.bind] at heq
   cases q with
   | ret v =>
    obtain ⟨u2, rfl, hu2⟩ := hf
    exact hok (.ret v, l3) h3 ι3 s3 _ heq (le4.trans le5) rep5 ⟨u2, rfl, hu2⟩
   | next =>
    cases hf
    dsimp only at heq
    by_cases hst' : still h3 = true
    ·rw [if_pos hst'] at heq
     have hmem : (I, o2) ∈ ι3.imm := le5.sub _ (le2.sub _ (.head _))
     have hodd : ∀ p ∈ ι3.imm, p.1 = I → Odd p.2 := fun p hp hpI => by
      have e1 := (rep5.im p hp).1
      have e2 := (rep5.im _ hmem).1
      rw [hpI, e2] at e1
      cases e1
      exact it.odd _ _ hs2
     obtain ⟨own3, get3⟩ := Own.grow rep5 hmem
     have le6 : ι'.Le (ι3.drop I) := by
      obtain ⟨pre, sub⟩ := (le3.trans le2).trans le5
      exact ⟨pre, fun p hp => List.mem_filter.mpr ⟨sub p hp, decide_eq_true (own'.2.2.2 p hp)⟩⟩
     exact ⟨m, Nat.lt_succ_self m, i + 1, ι3.drop I, l3, h3, o2, hm, le.trans le6, hok' _ _ oki' le6, hst _ hst', rep5.less hodd, get3, hs2, own3, heq⟩
    ·rw [if_neg hst'] at heq
     exact absurd heq hnb
end
section
variable {G : GW} {O : Orc} {Γ : CT} {n N : Nat} {c : Cx} {ι : Idx} {loc : Loc} {h : H}
theorem odd_of {o : Obj} {T : String} {a : Value} {i : Int} {t : Tok} {r : List Value} (hc : o.cls = .type T) (h1 : T ≠ "tuple") (h2 : T ≠ "dict") (hd : o.data = .fields (a :: .int i t :: r).toArray) : Odd o :=
 ⟨⟨T, hc, h1, h2⟩, (fun fd q => by rw [hd] at q; cases q), fun cvs q x t' => by
  rw [hd] at q; cases q
  simp⟩
theorem it_list (k : c.Ok G n) {I ax : Addr} {r : Nat} {xs : List V} : Iter G c I xs (fun h => h[r]? = some (.lst xs)) (fun ι => ι.ρ[r]? = some ax) (fun i o => o.cls = .type "list_iterator" ∧ o.data = .fields #[.ref ax, .int i 0]) where
 odd := fun i o st => odd_of (r := []) st.1 (by decide) (by decide) st.2
 cls := fun i o st => ⟨_, st.1, by decide⟩
 step := fun i x ι loc h s o oki hx hc rep ho st Q E hq => by
  obtain ⟨ol, xl, vs, m, rfl, rv⟩ := rep.mu r _ _ oki hc
  obtain ⟨u, hu, ru⟩ := rv.get hx
  refine wpAny_pyNext_list_item ⟨o, ho, st⟩ xl.isList (by simpa using hu) fun h' hit hs => ?_
  obtain ⟨o', ho', st'⟩ := hit
  exact hq u h' s.toks o' ru ho' st' fun b ob hb e => (hs.2 b hb).trans e
 fin := fun ι loc h s o oki hc rep ho st Q E hq => by
  obtain ⟨ol, xl, vs, m, rfl, rv⟩ := rep.mu r _ _ oki hc
  have hl := rv.length
  exact wpAny_pyNext_list_end k.hh ⟨o, ho, st⟩ xl.isList (by simp [hl]) fun h' hs => hq h' s.toks fun b ob hb e => hs b ob hb e
theorem chars_at {x : Str} {i : Nat} {v : V} (e : (chars x)[i]? = some v) : ∃ ch, x.cps[i]? = some ch ∧ v = .str ⟨#[ch]⟩ := by
 unfold chars at e
 rw [List.getElem?_map] at e
 obtain ⟨ch, h1, h2⟩ := Option.map_eq_some_iff.mp e
 exact ⟨ch, by simpa using h1, h2.symm⟩
theorem it_walk {I : Addr} {xs : List V} {P : Nat → Value → Prop} {Sh : Nat → Heap → Prop} {St : Nat → Obj → Prop} (W : Walks G.prog G.w c.A I [I] [I] xs.length P Sh) (odd : ∀ i o, St i o → Odd o)
  (cls : ∀ i o, St i o → ∃ T, o.cls = .type T ∧ (["enumerate", "zip", "dict_itemiterator", "dict_reverseitemiterator", "odict_iterator", "itertools.zip_longest", "itertools.pairwise"] : List String).contains T = false)
  (to : ∀ i hp o, hp.get? I = some o → St i o → Sh i hp) (fro : ∀ i hp, Sh i hp → ∃ o, hp.get? I = some o ∧ St i o) (hP : ∀ (ι : Idx) i u x, xs[i]? = some x → P i u → RV G ι x u) : Iter G c I xs (fun _ => True) (fun _ => True) St where
 odd := odd
 cls := cls
 step := fun i x ι loc h s o _ hx _ rep ho st Q E hq => W.item i s Q E (List.getElem?_eq_some_iff.mp hx).1 (to i _ o ho st) fun u h' tk p sh kp => by
  obtain ⟨o', ho', st'⟩ := fro _ _ sh
  exact hq u h' tk o' (hP ι i u x hx p) ho' st' fun b ob hb e => kp b ob (by simpa using hb) e
 fin := fun ι loc h s o _ _ rep ho st Q E hq => W.done s Q E (to _ _ o ho st) fun h' tk kp => hq h' tk fun b ob hb e => kp b ob (by simpa using hb) e
theorem it_str (k : c.Ok G n) {I : Addr} {x : Str} {t : Tok} : Iter G c I (chars x) (fun _ => True) (fun _ => True) (fun i o => o.cls = .type (strIterType x) ∧ o.data = .fields #[.str x t, .int i 0]) := by
 have hl : (chars x).length = x.cps.size := by simp [chars]
 have hT : strIterType x = "str_ascii_iterator" ∨ strIterType x = "str_iterator" := by unfold strIterType; split <;> simp
 have W : Walks G.prog G.w c.A I [I] [I] (chars x).length (SignAt x) (fun i h => h.IsStrIter I (strIterType x) x t i) := by
  rw [hl]
  rcases hT with e | e
  ·rw [e]; exact Walks.strAscii k.hh I x t
  ·rw [e]; exact Walks.strWide k.hh I x t
 refine it_walk W (fun i o st => odd_of (r := []) st.1 ?_ ?_ st.2) (fun i o st => ⟨_, st.1, ?_⟩) (fun i hp o ho st => ⟨o, ho, st⟩) (fun i hp st => st) fun ι i u y hy p => ?_
 ·rcases hT with e | e <;> rw [e] <;> decide
 ·rcases hT with e | e <;> rw [e] <;> decide
 ·rcases hT with e | e <;> rw [e] <;> decide
 ·obtain ⟨ch, tk, h1, rfl⟩ := p
  obtain ⟨ch', h2, rfl⟩ := chars_at hy
  rw [h1] at h2; cases h2
  exact .str _ _
noncomputable def nums (m : Nat) : List V := (List.range m).map fun (i : Nat) => .int i
theorem it_range (k : c.Ok G n) {I : Addr} {m : Nat} : Iter G c I (nums m) (fun _ => True) (fun _ => True) (fun i o => o = { cls := .type "range_iterator", dict := none, data := .fields #[rawInt (0 + (i : Nat) * 1), rawInt ((m : Int) - (i : Nat)), rawInt 1], slots := #[] }) := by
 have hl : (nums m).length = m := by simp [nums]
 have W := Walks.range (prog := G.prog) (w := G.w) (A := c.A) k.hh I 0 1 m
 refine it_walk (Sh := fun i h => IsRangeIter h I (0 + (i : Nat) * 1) ((m : Int) - (i : Nat)) 1) (by rw [hl]; exact W) (fun i o st => ?_) (fun i o st => ⟨"range_iterator", by rw [st], by decide⟩) (fun i hp o ho st => by rw [st] at ho; exact ho) (fun i hp st => ⟨_, st, rfl⟩) fun ι i u y hy p => ?_
 ·subst st
  exact odd_of (r := [_]) rfl (by decide) (by decide) rfl
 ·obtain ⟨tk, rfl⟩ := p
  unfold nums at hy
  rw [List.getElem?_map] at hy
  obtain ⟨j, h1, rfl⟩ := Option.map_eq_some_iff.mp hy
  have : j = i := by
   obtain ⟨h2, h3⟩ := List.getElem?_eq_some_iff.mp h1
   simpa using h3.symm
  subst this
  have e : (0 : Int) + (j : Nat) * 1 = (j : Int) := by omega
  rw [e]
  exact .int _ _
theorem loopR_eq (body : Loc → H → Res (Fl × Loc)) (i : Nat) (m j : Nat) (loc : Loc) (h : H) : loopR body i j m loc h = loopL body (fun v loc => some (loc.set i (some v))) (fun _ => true) ((List.range' j m).map fun (q : Nat) => V.int q) loc h := by
 induction m generalizing j loc h with
 | zero => rfl
 | succ m ih =>
  show (body (loc.set i (some (.int j))) h).bind _ = (body (loc.set i (some (.int j))) h).bind _
  congr 1
  funext q h
  obtain ⟨q, l⟩ := q
  cases q with
  | next => exact ih (j + 1) l h
  | ret v => rfl
theorem same_list {r : Nat} {xs : List V} {h : H} (e : sameList r xs h = true) : h[r]? = some (.lst xs) := @of_decide_eq_true _ (Classical.propDecidable _) e
theorem fold_set {it : Expr} (hs : ∀ a b d, it ≠ .Set a b d) (env : Env) (x : Value) : foldedSetIterable it env x = pure x := by
 cases it <;> first | rfl | exact absurd rfl (hs _ _ _)
theorem s_forV (k : c.Ok G (4 * n + 3)) (ok : Γ.Ok c) {t it : Expr} {b : List Stmt} (x : PSs G O Γ n N b) (hit : PE G O Γ n it) {put : V → Loc → Option Loc} (hput : ∀ ι loc h v u l, put v loc = some l → RV G ι v u → Sim G c ι loc h (fun l => l) RTr (assign t c.env u) (.ok l h)) {pos : Pos} :
  Sim G c ι loc h lcF (RF G) (exec (.For t it b [] pos) c.env) ((ev O c.cs (cE Γ it) loc h).bind fun v h => loopV (xss O c.cs N (cSs Γ b)) put v loc h) := by
 by_cases hset : ∃ a b d, it = .Set a b d
 ·obtain ⟨a, b', d, rfl⟩ := hset
  exact Sim.bad
 intro s rep Q E hok hex hnb
 refine wpAny_For (hit c ι loc h k ok s rep _ _ (fun v h' ι' s' u e le rep' hr => ?_) (fun C kd h' ι' s' y e le rx => hex C kd h' ι' s' y (by rw [e]; rfl) le rx) (fun q => hnb (by rw [q]; rfl))) (fold_set (fun a b d q => hset ⟨a, b, d, q⟩) c.env)
 rw [e] at hok hex hnb
 cases v with
 | ref r =>
  obtain ⟨ax, rfl, e'⟩ := hr
  cases hl : lst? h' r with
  | none => exact absurd (show (lst? h' r).elim _ _ = _ by rw [hl]; rfl) hnb
  | some xs =>
   have hv : ∀ {loc}, loopV (xss O c.cs N (cSs Γ b)) put (.ref r) loc h' = loopL (xss O c.cs N (cSs Γ b)) put (sameList r xs) xs loc h' := fun {loc} => by
    show (lst? h' r).elim _ _ = _
    rw [hl]; rfl
   obtain ⟨ol, xl, vs, m, rfl, rv⟩ := rep'.mu r _ _ e' (lst_of hl)
   refine wpAny_pyIter_list xl.isList ?_
   have rep2 := rep'.grow (hp := s'.heap.push { cls := .type "list_iterator", data := .fields #[.ref ax, .int 0 0] }) (tk := s'.toks) fun b o e => Heap.get?_push_of_some _ e
   exact s_for (it_list k (ax := ax) (r := r)) (fun ι κ a l => l.at a) k ok x (fun h q => same_list q) hput e' (lst_of hl) rep2 (Heap.get?_push_size _ rfl) ⟨rfl, rfl⟩ (rep'.own (Nat.le_refl _)) hv.symm
    (fun q h2 ι2 s2 f e2 le2 => hok q h2 ι2 s2 f e2 (le.trans le2)) (fun C kd h2 ι2 s2 y e2 le2 => hex C kd h2 ι2 s2 y e2 (le.trans le2)) hnb
 | str y =>
  obtain ⟨t', rfl⟩ := hr
  refine wpAny_pyIter_strU ?_
  have rep2 := rep'.grow (hp := s'.heap.push { cls := .type (strIterType y), data := .fields #[.str y t', .int 0 0] }) (tk := s'.toks) fun b o e => Heap.get?_push_of_some _ e
  exact s_for (it_str k (x := y) (t := t')) (fun ι κ a l => trivial) k ok x (fun h q => trivial) hput trivial trivial rep2 (Heap.get?_push_size _ rfl) ⟨rfl, rfl⟩ (rep'.own (Nat.le_refl _)) rfl
   (fun q h2 ι2 s2 f e2 le2 => hok q h2 ι2 s2 f e2 (le.trans le2)) (fun C kd h2 ι2 s2 y e2 le2 => hex C kd h2 ι2 s2 y e2 (le.trans le2)) hnb
 | _ => exact absurd rfl hnb
end
noncomputable def isRng : Ex → Bool
 | .rng _ => true
 | _ => false
section
variable {Γ : CT}
theorem nr_elim {α : Type} {x : Option α} {f : α → Ex} (y : ∀ v, isRng (f v) = false) : isRng (x.elim .stop f) = false := by
 cases x with
 | none => rfl
 | some v => exact y v
theorem nr_ite {b : Bool} {x : Ex} (h : isRng x = false) : isRng (if b = true then x else .stop) = false := by
 cases b with
 | false => rfl
 | true => exact h
theorem nr_const (c : Const) : isRng (cConst c) = false := by cases c <;> rfl
theorem nr_name (x : Str) : isRng (cName Γ x) = false := by
 unfold cName
 cases idx x Γ.loc 0 with
 | some i => rfl
 | none => cases idx x Γ.cel 0 with
  | some j => rfl
  | none => exact nr_ite (nr_elim fun _ => rfl)
theorem nr_meth (x : Str) (o : Ex) (xs : List Ex) : isRng (cMeth Γ x o xs) = false := by
 unfold cMeth
 cases cBM x with
 | some f => rfl
 | none => cases Γ.mth.lookup x with
  | some f => rfl
  | none => exact nr_ite rfl
theorem nr_dict (ks : List (Option Expr)) (xs : List Ex) : isRng (cDict ks xs) = false := by
 unfold cDict
 by_cases h : (ks.isEmpty && xs.isEmpty) = true
 ·rw [if_pos h]; rfl
 ·rw [if_neg h]; exact nr_elim fun _ => nr_elim fun _ => nr_elim fun _ => nr_elim fun _ => rfl
theorem nr_sub (a i : Ex) : isRng (cSub a i) = false := by cases i <;> rfl
theorem nr_comp (e : Expr) (g : List Comprehension) (sc : Scope) : isRng (cComp Γ e g sc) = false :=
 nr_elim fun _ => nr_elim fun _ => nr_elim fun _ => nr_elim fun _ => nr_elim fun _ => nr_elim fun _ => nr_elim fun _ => nr_elim fun _ => nr_elim fun _ => nr_elim fun _ => nr_elim fun _ => nr_elim fun _ => nr_elim fun _ => nr_elim fun _ => nr_elim fun _ => nr_elim fun _ => nr_elim fun _ => nr_ite (nr_elim fun _ => rfl)
theorem rng_no {x m : Ex} (h : x = .rng m) (q : isRng x = false) {P : Prop} : P := by rw [h] at q; cases q
theorem ite_rng {b : Bool} {x m : Ex} (h : (if b = true then x else .stop) = .rng m) : b = true ∧ x = .rng m := by
 cases b with
 | false => exact rng_no h rfl
 | true => exact ⟨rfl, h⟩
theorem rng_call {x : Str} {xs : List Ex} {l : Option (Ex × Str)} {m : Ex} (h : cCall Γ x xs l = .rng m) : isGlo Γ x = true ∧ x = "range" ∧ xs = [m] := by
 obtain ⟨hg, h⟩ := ite_rng h
 cases q1 : Γ.fns.lookup x with
 | some f => rw [q1] at h; exact rng_no h rfl
 | none =>
  rw [q1] at h
  cases q2 : Γ.cls.lookup x with
  | some f => rw [q2] at h; exact rng_no h rfl
  | none =>
   rw [q2] at h
   dsimp only at h
   by_cases hx : (x == "isinstance") = true
   ·rw [if_pos hx] at h; exact rng_no h (nr_elim fun _ => nr_ite rfl)
   ·rw [if_neg hx] at h
    by_cases hr : (x == "range") = true
    ·rw [if_pos hr] at h
     cases q3 : l1? xs with
     | none => rw [q3] at h; exact rng_no h rfl
     | some z => rw [q3] at h; obtain ⟨z, hz⟩ := z; cases h; exact ⟨hg, eq_of_beq hr, hz⟩
    ·rw [if_neg hr] at h; exact rng_no h (nr_elim fun _ => rfl)
theorem rng_shape {e : Expr} {m : Ex} (h : cE Γ e = .rng m) : ∃ q a p, e = .Call (.Name "range" q) [a] [] p ∧ isGlo Γ "range" = true ∧ m = cE Γ a ∧ noStar a = true := by
 cases e with
 | Constant c k p => exact rng_no h (nr_const c)
 | Name x p => exact rng_no h (nr_name x)
 | Dict => exact rng_no h (nr_dict _ _)
 | Subscript => exact rng_no h (nr_sub _ _)
 | ListComp => exact rng_no h (nr_comp _ _ _)
 | UnaryOp op x p => exact rng_no h (by cases op <;> rfl)
 | Compare l ops rs p =>
  refine rng_no h ?_
  show isRng (match l1? ops with
   | some op => (l1? (cEs Γ rs)).elim .stop fun b => .cmp op.1 (cE Γ l) b.1
   | none => (l2? ops).elim .stop fun o => (l2? (cEs Γ rs)).elim .stop fun p => .cmp2 o.1.1 o.1.2 (cE Γ l) p.1.1 p.1.2) = false
  cases l1? ops with
  | some op => exact nr_elim fun _ => rfl
  | none => exact nr_elim fun _ => nr_elim fun _ => rfl
 | JoinedStr ps p =>
  refine rng_no h ?_
  show isRng (if 2 ≤ ps.length then .js (cPs Γ ps) else .stop) = false
  by_cases q : 2 ≤ ps.length
  ·rw [if_pos q]; rfl
  ·rw [if_neg q]; rfl
 | Tuple => exact rng_no h (nr_ite rfl)
 | List => exact rng_no h (nr_ite rfl)
 | Attribute => exact rng_no h (nr_ite rfl)
 | Slice lo hi st p => exact rng_no h (by cases st <;> rfl)
 | Call f args kws p =>
  cases f with
  | Name x q =>
   obtain ⟨hp, h0⟩ := ite_rng (b := kws.isEmpty && plainArgs args) h
   obtain ⟨h1, h2, h3⟩ := rng_call h0
   have hp := Bool.and_eq_true_iff.mp hp
   cases List.isEmpty_iff.mp hp.1
   subst h2
   obtain ⟨a, rfl, h4⟩ := es_one h3
   exact ⟨q, a, p, rfl, h1, h4.symm, (Bool.and_eq_true_iff.mp (plain_no hp.2).1).1⟩
  | Attribute o x q => exact rng_no h (nr_ite (b := kws.isEmpty && plainArgs args) (nr_ite (b := noCall o && q.endLine == p.line) (nr_meth _ _ _)))
  | _ => exact rng_no h (nr_ite (b := kws.isEmpty && plainArgs args) rfl)
 | _ => exact rng_no h rfl
end
section
variable {G : GW} {O : Orc} {Γ : CT} {n N : Nat} {c : Cx} {ι : Idx} {loc : Loc} {h : H}
theorem range_boot : bootBuiltins "range" = some (.type "range") := rfl
theorem w_rangeV (k : c.Ok G (4 * n + 3)) (gt : GT G Γ) (ok : Γ.Ok c) {a : Expr} (pa : PE G O Γ n a) (hg : isGlo Γ "range" = true) (hs : noStar a = true) {q p : Pos} {s : Shared} (rep : Rep G c ι loc h s) {Q : Value → Shared → Prop} {E : Value → Shared → Prop}
  (hok : ∀ (i : Int) h' ι' hp tk r t u v (s' : Shared), ev O c.cs (cE Γ a) loc h = .ok (.int i) h' → ι.Le ι' → Rep G c ι' loc h' { s' with heap := hp, toks := tk } → IsRange hp r 0 i 1 t u v → Q (.ref r) { s' with heap := hp, toks := tk })
  (hint : ∀ v h', ev O c.cs (cE Γ a) loc h = .ok v h' → ∃ i, v = .int i)
  (hex : ∀ C kd h' ι' s' e, ev O c.cs (cE Γ a) loc h = .exc C kd h' → ι.Le ι' → RepX G c ι' h' C kd e s' → E (.ref e) s') (hnb : ev O c.cs (cE Γ a) loc h ≠ .bad) :
  wpAny (model G.prog G.w) c.A (eval (.Call (.Name "range" q) [a] [] p) c.env) Q E s := by
 have hsA : [a].all noStar = true := by simp [hs]
 have he : eval (.Call (.Name "range" q) [a] [] p) c.env = (do callWith p (← eval (.Name "range" q) c.env) [] (backTo p (starEach [a] c.env)) (backToKw p (keywordEach [] c.env))) := rfl
 rw [he, star_plain hsA]
 refine wpAny_bind (w_gloB k ok hg (gt.bf _ (by decide +kernel)) range_boot (by decide +kernel) rep ?_)
 refine callWith_type1 (t := eval a c.env) (pa c ι loc h k ok s rep _ _ (fun v h' ι' s' u e le rep' hr => ?_) (fun C kd h' ι' s' y e le rx => hex C kd h' ι' s' y e le rx) hnb)
 obtain ⟨i, rfl⟩ := hint v h' e
 obtain ⟨t, rfl⟩ := hr
 obtain ⟨m, news, F, N, own, back⟩ := rep'.via k
 refine range1_rows F N fun hp tk t₁ u₁ v₁ hR F' N' kp => ?_
 exact hok i h' ι' hp tk _ _ _ _ s' e le (back hp tk F' fun p hp => (N' p hp).1) hR
theorem ps_for (gt : GT G Γ) (he : ∀ e, PX G O Γ n e) {t it : Expr} {b : List Stmt} (x : PSs G O Γ n N b) (pos : Pos) : PS G O Γ n N (.For t it b [] pos) := fun c ι loc h k ok => by
 cases t with
 | Name y py =>
  show Sim G c ι loc h lcF (RF G) _ (xs1 O c.cs N ((idx y Γ.loc 0).elim .stop (cForN (cE Γ it) (cSs Γ b))) loc h)
  refine Sim.xElim fun i hi => ?_
  unfold cForN
  have hx : c.names[i]? = some y := by rw [← ok.loc]; exact idx_get hi
  have hput : ∀ ι loc h v u l, (some (loc.set i (some v)) : Option Loc) = some l → RV G ι v u → Sim G c ι loc h (fun l => l) RTr (assign (.Name y py) c.env u) (.ok l h) := fun ι loc h v u l e hr => by
   cases e; exact s_setL k hx hr
  cases (cE Γ it).rng? with
  | none => exact s_forV k ok x (he it).1.1 hput
  | some m =>
   obtain ⟨m, hm⟩ := m
   obtain ⟨q, a, p, rfl, hg, rfl, hs⟩ := rng_shape hm
   intro s rep Q E hok hex hnb
   have hint : ∀ v h', ev O c.cs (cE Γ a) loc h = .ok v h' → ∃ i, v = .int i := fun v h' e => by
    cases v with
    | int i => exact ⟨i, rfl⟩
    | _ => exact absurd (show (ev O c.cs (cE Γ a) loc h).bind _ = _ by rw [e]; rfl) hnb
   have eo : ∀ {j h'}, ev O c.cs (cE Γ a) loc h = .ok (.int j) h' → xs1 O c.cs N (.forR i (cE Γ a) (cSs Γ b)) loc h = if 0 ≤ j ∧ j ≤ 1000 then loopL (xss O c.cs N (cSs Γ b)) (fun v loc => some (loc.set i (some v))) (fun _ => true) (nums j.toNat) loc h' else .bad := fun {j h'} e => by
    show (ev O c.cs (cE Γ a) loc h).bind _ = _
    rw [e]
    show (if 0 ≤ j ∧ j ≤ 1000 then loopR (xss O c.cs N (cSs Γ b)) i 0 j.toNat loc h' else .bad) = _
    rw [loopR_eq, show (List.range' 0 j.toNat).map (fun (q : Nat) => V.int q) = nums j.toNat by unfold nums; rw [List.range_eq_range']]
   refine wpAny_For (w_rangeV k gt ok (he a).1.1 hg hs rep (fun j h' ι' hp tk r t u v s' e le rep' hR => ?_) hint (fun C kd h' ι' s' y e le rx => hex C kd h' ι' s' y (show (ev O c.cs (cE Γ a) loc h).bind _ = _ by rw [e]; rfl) le rx) (fun q => hnb (show (ev O c.cs (cE Γ a) loc h).bind _ = _ by rw [q]; rfl)))
   rw [eo e] at hok hex hnb
   by_cases hj : 0 ≤ j ∧ j ≤ 1000
   ·rw [if_pos hj] at hok hex hnb
    have hsz : Builtin.Range.rangeSize 0 j 1 = (j.toNat : Int) := by
     have := rangeSize_nat 0 j
     rw [this]; congr 2; omega
    refine wpAny_pyIter_range (s := { s' with heap := hp, toks := tk }) hR ?_ ?_
    ·exact small_one (by decide) (by decide) (by omega) (by omega)
    ·rw [hsz]
     have rep2 := rep'.grow (hp := hp.push { cls := .type "range_iterator", data := .fields #[rawInt 0, rawInt (j.toNat : Int), rawInt 1] }) (tk := tk) fun b o e => Heap.get?_push_of_some _ e
     exact s_for (it_range k (m := j.toNat)) (fun ι κ a l => trivial) k ok x (fun h q => trivial) hput trivial trivial rep2 (Heap.get?_push_size _ rfl) (by simp) (rep'.own (Nat.le_refl _)) rfl
      (fun q h2 ι2 s2 f e2 le2 => hok q h2 ι2 s2 f e2 (le.trans le2)) (fun C kd h2 ι2 s2 y e2 le2 => hex C kd h2 ι2 s2 y e2 (le.trans le2)) hnb
   ·rw [if_neg hj] at hnb; exact absurd rfl hnb
 | Tuple es q py =>
  refine Sim.xElim fun is his => ?_
  exact s_forV k ok x (he it).1.1 (put := putT is) fun ι loc h v u l e hr => (s_setT k ok his hr).res (by rw [e])
 | _ => exact Sim.bad
end
structure FX where
 name : Str
 qual : Str
 params : Arguments
 body : List Stmt
 scope : Scope
 dV : Value
 kV : Value
 doc : Value
 pm : Value
 an : Option Addr
 cdv : Value
 ct : Value
 ps : List Str
 loc : List Str
 cel : Option Str
 defs : List (Str × Nat)
noncomputable def FX.dq (F : FX) : Str := (envX F.qual F.scope 0 0 .none []).qual
noncomputable def FX.fd (F : FX) : FuncData := fnX F.name F.qual F.params F.body F.scope [] F.dV F.kV F.doc F.pm F.an F.cdv F.ct
structure FX.Ok (G : GW) (F : FX) (a : Addr) : Prop where
 at_ : ∃ o, G.K.lookup a = some o ∧ o.data = .func F.fd
 rec_ : ∀ hp, G.K.In hp → hp.CodeRec F.cdv F.qual
 bind : ∀ s us, G.K.In s.heap → us.length = F.ps.length → BindsTo s F.fd ⟨us, []⟩ (F.ps.zip us)
 co : F.scope.isCoroutine = false
 gen : F.scope.isGenerator = false
 kind : F.scope.kind = .function
 nm : ∀ x ∈ F.loc, F.scope.names.lookup x = some .local ∧ (x == ("__debug__" : Str)) = false
 nn : F.loc.Nodup
 cells : ∀ n, cellsFrom n F.scope.names [] = F.cel.toList.map fun x => (x, n)
 cn : ∀ x, F.cel = some x → F.scope.names.lookup x = some .cell ∧ (x == ("__debug__" : Str)) = false ∧ (x == ("__classdict__" : Str)) = false
 ps : ∀ x ∈ F.ps, x ∈ F.loc ∨ F.cel = some x
 psn : F.ps.Nodup
 dfs : F.defs ≠ [] → ∃ c0, F.cdv = .ref c0 ∧ ∀ hp, G.K.In hp → CodeHd hp c0 G.P
noncomputable def CT.at (Γ : CT) (sc : Scope) (loc cel : List Str) (defs : List (Str × Nat)) (dq : Str) : CT := { Γ with sc := sc, loc := loc, cel := cel, defs := defs, dq := dq }
noncomputable def endR (r : Res (Fl × Loc)) : Res V := r.bind fun q h => match q.1 with
 | .next => .ok .none h
 | .ret v => .ok v h
noncomputable def runF (O : Orc) (N : Nat) (Γ : CT) (F : FX) (vs : List V) (h : H) : Res V :=
 if vs.length = F.ps.length then
  endR (xss O (F.cel.toList.map fun _ => h.length) N (cSs (Γ.at F.scope F.loc F.cel.toList F.defs F.dq) F.body) (F.loc.map fun x => (F.ps.zip vs).lookup x) (h ++ F.cel.toList.map fun x => LO.cel ((F.ps.zip vs).lookup x)))
 else .bad
section
variable {G : GW} {ι : Idx}
theorem zip_lookup (ps : List Str) {vs : List V} {us : List Value} (p : RVs G ι vs us) (x : Str) : ((ps.zip vs).lookup x = none → (ps.zip us).lookup x = none) ∧ ∀ v, (ps.zip vs).lookup x = some v → ∃ u, (ps.zip us).lookup x = some u ∧ RV G ι v u := by
 induction ps generalizing vs us with
 | nil => exact ⟨fun _ => rfl, (fun v e => nomatch e)⟩
 | cons q ps ih =>
  cases vs with
  | nil => cases p; exact ⟨fun _ => rfl, (fun v e => nomatch e)⟩
  | cons w vs =>
   obtain ⟨u, us, rfl, a, b⟩ := p
   rw [List.zip_cons_cons, List.zip_cons_cons, List.lookup_cons, List.lookup_cons]
   cases x == q with
   | true => exact ⟨(fun e => (nomatch e)), fun v e => by cases e; exact ⟨_, rfl, a⟩⟩
   | false => exact ih b
theorem look_none {α : Type} {x : Str} {l : List (Str × α)} (h : x ∉ l.map (·.1)) : l.lookup x = none := by
 induction l with
 | nil => rfl
 | cons p r ih =>
  have h := not_or.mp fun q => h (List.mem_cons.mpr q)
  rw [List.lookup_cons, beq_eq_false_iff_ne.mpr h.1]
  exact ih h.2
theorem bindL_look {kf : Str → Option NameKind} {x : Str} (hx : kf x = some .local) (l : List (Str × Value)) (h : (l.map (·.1)).Nodup) (m : Str → Option Value) : bindL kf l m x = match l.lookup x with
  | some v => some v
  | none => m x := by
 induction l generalizing m with
 | nil => rfl
 | cons p r ih =>
  have h := List.nodup_cons.mp h
  refine (ih h.2 _).trans ?_
  rw [List.lookup_cons]
  by_cases q : x = p.1
  ·rw [← q, beq_self_eq_true, look_none (by rw [q]; exact h.1), if_pos hx]
   exact if_pos rfl
  ·rw [beq_eq_false_iff_ne.mpr q]
   cases r.lookup x with
   | some w => rfl
   | none =>
    dsimp only
    by_cases z : kf p.1 = some .local
    ·rw [if_pos z, if_neg q]
    ·rw [if_neg z]
theorem bindC_look {kf : Str → Option NameKind} {x : Str} (hx : kf x = some .cell) (l : List (Str × Value)) (h : (l.map (·.1)).Nodup) (m : Str → Option Value) : bindC kf l m x = match l.lookup x with
  | some v => some v
  | none => m x := by
 induction l generalizing m with
 | nil => rfl
 | cons p r ih =>
  have h := List.nodup_cons.mp h
  refine (ih h.2 _).trans ?_
  rw [List.lookup_cons]
  by_cases q : x = p.1
  ·rw [← q, beq_self_eq_true, look_none (by rw [q]; exact h.1), if_neg (by rw [hx]; decide)]
   exact if_pos rfl
  ·rw [beq_eq_false_iff_ne.mpr q]
   cases r.lookup x with
   | some w => rfl
   | none =>
    dsimp only
    by_cases z : kf p.1 = some .local
    ·rw [if_pos z]
    ·rw [if_neg z, if_neg q]
theorem zip_nodup {α : Type} {ps : List Str} {us : List α} (h : ps.Nodup) : ((ps.zip us).map (·.1)).Nodup := by
 induction ps generalizing us with
 | nil => exact List.nodup_nil
 | cons p ps ih =>
  cases us with
  | nil => exact List.nodup_nil
  | cons u us =>
   have h := List.nodup_cons.mp h
   refine List.nodup_cons.mpr ⟨fun q => h.1 ?_, ih h.2⟩
   obtain ⟨y, hy, e⟩ := List.mem_map.mp q
   rw [← show y.1 = p from e]
   exact (List.of_mem_zip hy).1
end
section
variable {G : GW} {c : Cx} {ι : Idx} {loc : Loc} {h : H} {n : Nat} {s : Shared}
noncomputable def Cx.call (c : Cx) (qual : Str) (scope : Scope) (L f : Addr) (cdv : Value) (cl : List (Str × Addr)) (names : List Str) (cids : List (Str × Nat)) (m : Str → Option Value) : Cx :=
 { A := c.A.deeper (envX qual scope L f cdv cl), g := c.g, L := L, qual := qual, scope := scope, fa := f, cd := cdv, cl := cl, names := names, cids := cids, below := (c.L, m) :: c.below, outer := c.env :: c.outer, S := c.S }
theorem Cx.Ok.call (k : c.Ok G (n + 1)) (rep : Rep G c ι loc h s) {qual : Str} {scope : Scope} {L f : Addr} {cdv : Value} {cl : List (Str × Addr)} {names : List Str} {cids : List (Str × Nat)} {m : Str → Option Value} (hL : s.heap.objs.size ≤ L)
  (hk : scope.kind = .function) (nm : ∀ x ∈ names, scope.names.lookup x = some .local ∧ (x == ("__debug__" : Str)) = false) (nn : names.Nodup)
  (cn : ∀ q ∈ cids, (scope.names.lookup q.1 = some .cell ∨ scope.names.lookup q.1 = some .free) ∧ (q.1 == ("__debug__" : Str)) = false ∧ (q.1 == ("__classdict__" : Str)) = false) : (c.call qual scope L f cdv cl names cids m).Ok G n where
 X := k.X
 T := k.T
 fr := by
  show (c.A.frames.map _) = _
  rw [k.fr]; rfl
 hh := k.hh
 gd := k.gd
 dep := by
  show c.A.depth + 1 + n < 900
  rw [Nat.add_assoc, Nat.add_comm 1 n]
  exact k.dep
 un := by
  show c.A.units + 3 + 20 * n < 9000
  rw [Nat.add_assoc, Nat.add_comm 3]
  exact Nat.lt_of_le_of_lt (Nat.add_le_add_left (Nat.add_le_add_left (m := 20) (by decide) (20 * n)) _) k.un
 hk := hk
 nm := nm
 nn := nn
 cn := cn
 ab := fun a ha => by
  obtain ⟨m', F, _⟩ := rep.fr k
  rcases List.mem_cons.mp ha with q | q
  ·rw [q]
   exact Nat.le_trans F.above (Nat.le_trans (Nat.le_of_lt F.ns.lt) hL)
  ·exact k.ab a q
 fd := List.nodup_cons.mpr ⟨rep.freshF hL, k.fd⟩
 ou := ⟨by rw [show c.env.scope.kind = .function from k.hk]; decide, rfl, k.ou⟩
 sm := k.sm
 sc := k.sc
theorem Own.leave {qual : Str} {scope : Scope} {L f : Addr} {cdv : Value} {cl : List (Str × Addr)} {names : List Str} {cids : List (Str × Nat)} {m : Str → Option Value} {a : Addr} (o : Own (c.call qual scope L f cdv cl names cids m) ι a) : Own c ι a :=
 ⟨o.1, fun q => o.2.1 (List.mem_cons_of_mem _ q), o.2.2⟩
theorem Rep.leave {qual : Str} {scope : Scope} {L f : Addr} {cdv : Value} {cl : List (Str × Addr)} {names : List Str} {cids : List (Str × Nat)} {m : Str → Option Value} {κ : Idx} {l2 : Loc} {h2 : H} {s2 : Shared}
  (rep : Rep G c ι loc h s) (hm : ∀ (i : Nat) (x : Str) (v : V), c.names[i]? = some x → loc[i]? = some (some v) → ∃ u, m x = some u ∧ RV G ι v u) (le : ι.Le κ) (r : Rep G (c.call qual scope L f cdv cl names cids m) κ l2 h2 s2) : Rep G c κ loc h2 s2 := by
 have at_ : ∀ a o, At (c.call qual scope L f cdv cl names cids m) s2.heap a o → At c s2.heap a o := fun a o x => ⟨x.1, x.2.1, fun q => x.2.2 (List.mem_cons_of_mem _ q)⟩
 refine ⟨r.keep, ⟨m, r.bel (c.L, m) List.mem_cons_self, fun i x v e1 e2 => (hm i x v e1 e2).imp fun u z => ⟨z.1, z.2.mono le⟩⟩, fun q hq => r.bel q (List.mem_cons_of_mem _ hq), r.len, r.nd, fun i a lo e1 e2 => ?_, fun p hp => at_ _ _ (r.im p hp), r.dis, fun q hq => ?_, r.gens, r.drawn, r.os, r.tb⟩
 ·obtain ⟨o, x, y⟩ := r.mu i a lo e1 e2
  exact ⟨o, at_ a o x, y⟩
 ·obtain ⟨a, e1, e2⟩ := rep.cel q hq
  exact ⟨a, e1, le.at e2⟩
theorem RepF.leave {qual : Str} {scope : Scope} {L f : Addr} {cdv : Value} {cl : List (Str × Addr)} {names : List Str} {cids : List (Str × Nat)} {m : Str → Option Value} {κ : Idx} {h2 : H} {s2 : Shared} {C e : Addr} {kd : Str}
  (rep : Rep G c ι loc h s) (hm : ∀ (i : Nat) (x : Str) (v : V), c.names[i]? = some x → loc[i]? = some (some v) → ∃ u, m x = some u ∧ RV G ι v u) (le : ι.Le κ) (r : RepF G (c.call qual scope L f cdv cl names cids m) κ h2 C kd e s2 (some none)) : RepXL G c κ loc h2 C kd e s2 := by
 obtain ⟨l2, r1, oe, vs, dx, es, m', t, a1, a2, a3, a4, a5, a6, a7, a8, a9, T, oT, ts, x1, x2, x3, x4, x5, x6⟩ := r
 exact ⟨some none, rep.leave hm le r1, ⟨oe, vs, dx, es, m', t, a1, a2, a3, a4, a5, a6.leave, a7, a8.leave, a9, T, oT, ts, x1, x2, x3, x4, x5.leave, x6⟩, .inr (.inl rfl)⟩
end
section
variable {G : GW} {c : Cx} {ι : Idx} {loc : Loc} {h : H} {n N : Nat} {O : Orc} {Γ : CT}
set_option backward.match.sparseCases true in
theorem w_body {c' : Cx} (k : c'.Ok G (4 * n + 3)) (ok : Γ.Ok c') {body : List Stmt} (b : PSs G O Γ n N body) {ι' : Idx} {l0 : Loc} {h0 : H} {s0 : Shared} (rep : Rep G c' ι' l0 h0 s0) {r : Res V} (hr : endR (xss O c'.cs N (cSs Γ body) l0 h0) = r) {R : Result → Shared → Prop}
  (hok : ∀ v h2 κ s2 u l2, r = .ok v h2 → ι'.Le κ → Rep G c' κ l2 h2 s2 → RV G κ v u → R (.ok (.ret u)) s2)
  (hex : ∀ C kd h2 κ s2 e, r = .exc C kd h2 → ι'.Le κ → RepF G c' κ h2 C kd e s2 (some none) → R (.error (.ref e)) s2) (hnb : r ≠ .bad) :
  wpAny (model G.prog G.w) c'.A (execs body c'.env) (fun f s' => R (.ok (.ret (match f with | .ret v => v | _ => .none))) s')
   (fun e s' => wpAny (model G.prog G.w) c'.A (leaving c'.env e) (fun _ s'' => R (.error e) s'') (fun e' s'' => R (.error e') s'') s') s0 := by
 subst hr
 refine b c' ι' l0 h0 k ok s0 rep _ _ (fun q h2 κ s2 f e le rep2 hf => ?_) (fun C kd h2 κ s2 y e le rx => ?_) (fun q => hnb (by unfold endR; rw [q]; rfl))
 ·obtain ⟨q, l2⟩ := q
  cases q with
  | next =>
   cases hf
   exact hok .none h2 κ s2 _ l2 (by unfold endR; rw [e]; rfl) le rep2 .none
  | ret v =>
   obtain ⟨u, rfl, hu⟩ := hf
   exact hok v h2 κ s2 u l2 (by unfold endR; rw [e]; rfl) le rep2 hu
 ·exact w_leave k rx fun hp r => hex C kd h2 κ _ y (by unfold endR; rw [e]; rfl) le r
theorem Rep.withC {s : Shared} (r : Rep G c ι loc h s) (cl : List (Str × Addr)) (cids : List (Str × Nat)) (hc : ∀ q ∈ cids, ∃ a, cl.lookup q.1 = some a ∧ ι.ρ[q.2]? = some a) : Rep G { c with cl := cl, cids := cids } ι loc h s :=
 ⟨r.keep, r.ns, r.bel, r.len, r.nd, r.mu, r.im, r.dis, hc, r.gens, r.drawn, r.os, r.tb⟩
set_option backward.match.sparseCases true in
theorem call_fn {F : FX} {a : Addr} (hP : Γ.P = G.P) (fo : F.Ok G a) (b : PSs G O (Γ.at F.scope F.loc F.cel.toList F.defs F.dq) n N F.body) (k : c.Ok G (4 * n + 4)) {vs : List V} {us : List Value} (hv : RVs G ι vs us) :
  SimC G c ι loc h (.call (.ref a) ⟨us, []⟩) (runF O N Γ F vs h) := by
 unfold runF
 split
 ·rename_i hlen
  intro s rep R hok hex hnb
  obtain ⟨o, hl, hd⟩ := fo.at_
  obtain ⟨m, FF, hm⟩ := rep.fr k
  have X : G.K.In s.heap := k.X.keeps FF.keep
  have hbn : (F.ps.zip us).map (·.1) |>.Nodup := zip_nodup fo.psn
  refine codeAny_call_function (fd := F.fd) (body := F.body) (Nat.lt_trans (Nat.lt_of_le_of_lt (Nat.le_add_right _ _) k.dep) (by decide)) (X _ _ hl) hd fo.co fo.gen rfl (fo.rec_ _ X) (fo.bind s us X (by rw [← hv.length]; exact hlen) _ _ _ _ ?_)
  refine wpAny_newFunctionEnv_cells (scope := F.scope) fo.kind (fun x hx => ?_) fun env he s' xc => ?_
  ·have hp : x.1 ∈ F.ps := (List.of_mem_zip hx).1
   rcases fo.ps _ hp with q | q
   ·exact .inl (fo.nm _ q).1
   ·refine .inr ⟨(fo.cn _ q).1, ?_⟩
    rw [fo.cells, q]
    simp
  ·obtain ⟨h₁, tk, rfl, kp⟩ := xc.toInCall.done
   have hns : h₁.Ns s.heap.objs.size (bindL env.kindOf (F.ps.zip us) fun _ => none) := by
    have := xc.toInCall.ns
    rw [he] at this ⊢
    exact this
   have hcl := fo.cells (s.heap.objs.size + 1)
   have henv : env = envX F.qual F.scope s.heap.objs.size a F.cdv (F.cel.toList.map fun x => (x, s.heap.objs.size + 1)) := by
    rw [he, hcl]; rfl
   have hkf : ∀ x, env.kindOf x = F.scope.names.lookup x := fun x => by rw [henv]; rfl
   refine ⟨k.T.nolimit.keeps (fun b o e => kp b o (FF.keep b o e)), codeAny_func ?_⟩
   let c' : Cx := c.call F.qual F.scope s.heap.objs.size a F.cdv (F.cel.toList.map fun x => (x, s.heap.objs.size + 1)) F.loc (F.cel.toList.map fun x => (x, h.length)) m
   have k' : c'.Ok G (4 * n + 3) := Cx.Ok.call k rep (Nat.le_refl _) fo.kind fo.nm fo.nn fun q hq => by
    obtain ⟨x, hx, rfl⟩ := List.mem_map.mp hq
    have := fo.cn x (Option.mem_toList.mp hx)
    exact ⟨.inl this.1, this.2⟩
   have ok' : (Γ.at F.scope F.loc F.cel.toList F.defs F.dq).Ok c' := ⟨rfl, rfl, by
    show F.cel.toList = (F.cel.toList.map _).map _
    rw [List.map_map]; simp [Function.comp_def], fun q => by
    obtain ⟨c0, q1, q2⟩ := fo.dfs q
    exact ⟨c0, q1, by rw [show (Γ.at F.scope F.loc F.cel.toList F.defs F.dq).P = G.P from hP]; exact q2 _ k.X, rfl⟩⟩
   have hcs : c'.cs = F.cel.toList.map fun _ => h.length := by
    show (F.cel.toList.map _).map _ = _
    rw [List.map_map]; rfl
   have locs : ∀ (ι' : Idx), ι.Le ι' → ∀ (i : Nat) (x : Str) (v : V), F.loc[i]? = some x → (F.loc.map fun x => (F.ps.zip vs).lookup x)[i]? = some (some v) → ∃ u, bindL env.kindOf (F.ps.zip us) (fun _ => none) x = some u ∧ RV G ι' v u := fun ι' le i x v e1 e2 => by
    rw [List.getElem?_map, e1] at e2
    simp only [Option.map_some, Option.some.injEq] at e2
    obtain ⟨u, q1, q2⟩ := (zip_lookup F.ps hv x).2 v e2
    refine ⟨u, ?_, q2.mono le⟩
    rw [bindL_look (by rw [hkf]; exact (fo.nm x (List.mem_of_getElem? e1)).1) _ hbn, q1]
   have at0 : ∀ b ob, At c s.heap b ob → At c' h₁ b ob := fun b ob x => ⟨kp b ob x.1, x.2.1, fun q => by
    rcases List.mem_cons.mp q with q | q
    ·have := Heap.lt_size x.1; rw [q] at this; exact Nat.lt_irrefl _ this
    ·exact x.2.2 q⟩
   let c0 : Cx := { c' with cl := [], cids := [] }
   have rep0 : Rep G c0 ι (F.loc.map fun x => (F.ps.zip vs).lookup x) h { s with heap := h₁, toks := tk } := by
    refine ⟨fun b ob e => kp b ob (FF.keep b ob e), ⟨_, hns, locs ι (.refl _)⟩, fun q hq => ?_, rep.len, rep.nd, fun i b lo e1 e2 => ?_, fun p hp => at0 _ _ (rep.im p hp), rep.dis, fun q hq => (nomatch hq), rep.gens, rep.drawn, rep.os, rep.tb⟩
    ·rcases List.mem_cons.mp hq with q' | q'
     ·rw [q']; exact FF.ns.keeps kp
     ·exact (rep.bel q q').keeps kp
    ·obtain ⟨ob, x, y⟩ := rep.mu i b lo e1 e2
     exact ⟨ob, at0 b ob x, y⟩
   have fin : ∀ ι', ι.Le ι' → Rep G c' ι' (F.loc.map fun x => (F.ps.zip vs).lookup x) (h ++ F.cel.toList.map fun x => LO.cel ((F.ps.zip vs).lookup x)) { s with heap := h₁, toks := tk } →
     wpAny (model G.prog G.w) c'.A (execs F.body c'.env) (fun f s' => R (.ok (.ret (match f with | .ret v => v | _ => .none))) s')
      (fun e s' => wpAny (model G.prog G.w) c'.A (leaving c'.env e) (fun _ s'' => R (.error e) s'') (fun e' s'' => R (.error e') s'') s') { s with heap := h₁, toks := tk } := fun ι' le rep' => by
    refine w_body k' ok' b rep' (by rw [hcs]) (fun v h2 κ s2 u l2 e le2 rep2 hu => ?_) (fun C kd h2 κ s2 e e2 le2 rx => ?_) hnb
    ·exact hok v h2 κ s2 u e (le.trans le2) (rep.leave hm (le.trans le2) rep2) hu
    ·exact hex C kd h2 κ s2 e e2 (le.trans le2) (rx.leave rep hm (le.trans le2))
   obtain ⟨ι', le, rep'⟩ : ∃ ι', ι.Le ι' ∧ Rep G c' ι' (F.loc.map fun x => (F.ps.zip vs).lookup x) (h ++ F.cel.toList.map fun x => LO.cel ((F.ps.zip vs).lookup x)) { s with heap := h₁, toks := tk } := by
    cases hce : F.cel with
    | none =>
     refine ⟨ι, .refl _, ?_⟩
     have := rep0.withC (F.cel.toList.map fun x => (x, s.heap.objs.size + 1)) (F.cel.toList.map fun x => (x, h.length)) (by rw [hce]; intro q hq; cases hq)
     show Rep G c' ι _ (h ++ []) _
     rw [List.append_nil]
     exact this
    | some x =>
     have hkx := (fo.cn x hce).1
     have hcell : h₁.IsCell (s.heap.objs.size + 1) (bindC env.kindOf (F.ps.zip us) (fun _ => none) x) := by
      have := xc.cell x (s.heap.objs.size + 1) (by rw [henv, hce]; simp)
      exact this
     rw [bindC_look (by rw [hkf]; exact hkx) _ hbn] at hcell
     obtain ⟨oc, hoc, hdc⟩ := hcell
     have own : Own c0 ι (s.heap.objs.size + 1) := by
      have o := rep.own (Nat.le_succ s.heap.objs.size)
      refine ⟨o.1, fun q => ?_, o.2.2⟩
      rcases List.mem_cons.mp q with q | q
      ·exact absurd q (Nat.succ_ne_self _)
      ·exact o.2.1 q
     have hor : ORel G ⟨ι.ρ ++ [s.heap.objs.size + 1], ι.imm⟩ (.cel ((F.ps.zip vs).lookup x)) oc := by
      have le0 : ι.Le ⟨ι.ρ ++ [s.heap.objs.size + 1], ι.imm⟩ := ⟨⟨[_], rfl⟩, fun p hp => hp⟩
      cases hl : (F.ps.zip vs).lookup x with
      | none =>
       rw [(zip_lookup F.ps hv x).1 hl] at hdc
       exact hdc
      | some v =>
       obtain ⟨u, q1, q2⟩ := (zip_lookup F.ps hv x).2 v hl
       rw [q1] at hdc
       exact ⟨u, hdc, q2.mono le0⟩
     obtain ⟨rep1, le1⟩ := rep0.addM (tk := tk) (fun _ _ e => e) hoc own hor
     refine ⟨_, le1, ?_⟩
     have := rep1.withC (F.cel.toList.map fun x => (x, s.heap.objs.size + 1)) (F.cel.toList.map fun x => (x, h.length)) (by
      rw [hce]
      intro q hq
      have hq : q = (x, h.length) := by simpa using hq
      subst hq
      refine ⟨s.heap.objs.size + 1, by simp, ?_⟩
      show (ι.ρ ++ [s.heap.objs.size + 1])[h.length]? = _
      rw [List.getElem?_append_right (by rw [rep.len]; exact Nat.le_refl _), rep.len]
      simp)
     exact this
   rw [henv]
   exact fin ι' le rep'
 ·exact fun s rep R hok hex hnb => absurd rfl hnb
end
structure CF where
 ps : List Str
 loc : List Str
 fr : Str
structure CF.Ok (G : GW) (k : Nat) (F : CF) : Prop where
 bind : ∀ (s : Shared) us cl doc pm cdv ct, us.length = F.ps.length → BindsTo s (fnX (G.CI k).name (G.CI k).qual (G.CI k).params (G.CI k).body (G.CI k).scope cl .none .none doc pm none cdv ct) ⟨us, []⟩ (F.ps.zip us)
 co : (G.CI k).scope.isCoroutine = false
 gen : (G.CI k).scope.isGenerator = false
 kind : (G.CI k).scope.kind = .function
 nm : ∀ x ∈ F.loc, (G.CI k).scope.names.lookup x = some .local ∧ (x == ("__debug__" : Str)) = false
 nn : F.loc.Nodup
 cell : ∀ x ∈ (G.CI k).scope.names, x.2 ≠ .cell
 free : freeNames (G.CI k).scope = [F.fr]
 cn : (G.CI k).scope.names.lookup F.fr = some .free ∧ (F.fr == ("__debug__" : Str)) = false ∧ (F.fr == ("__classdict__" : Str)) = false
 ps : ∀ x ∈ F.ps, x ∈ F.loc
 psn : F.ps.Nodup
noncomputable def runC (O : Orc) (N : Nat) (Γ : CT) (I : FI) (F : CF) (cs : List Nat) (vs : List V) (h : H) : Res V :=
 if vs.length = F.ps.length then
  endR (xss O cs N (cSs (Γ.at I.scope F.loc [F.fr] [] Str.empty) I.body) (F.loc.map fun x => (F.ps.zip vs).lookup x) h)
 else .bad
theorem look_append {α : Type} (x : Str) (a b : List (Str × α)) : (a ++ b).lookup x = (a.lookup x).or (b.lookup x) := by
 induction a with
 | nil => rfl
 | cons p r ih =>
  rw [List.cons_append, List.lookup_cons, List.lookup_cons, ih]
  cases x == p.1 <;> rfl
theorem look_rev {α : Type} {x : Str} {l : List (Str × α)} (h : (l.map (·.1)).Nodup) : l.reverse.lookup x = l.lookup x := by
 induction l with
 | nil => rfl
 | cons p r ih =>
  rw [List.map_cons, List.nodup_cons] at h
  rw [List.reverse_cons, look_append, ih h.2, List.lookup_cons, List.lookup_cons]
  by_cases q : x = p.1
  ·rw [look_none (q ▸ h.1), q, beq_self_eq_true]; rfl
  ·rw [beq_eq_false_iff_ne.mpr q]
   cases r.lookup x <;> rfl
section
variable {G : GW} {c : Cx} {ι : Idx} {loc : Loc} {h : H} {n N : Nat} {O : Orc} {Γ : CT}
set_option tactic.hygienic true in
theorem call_clo {kk : Nat} {F : CF} (fo : F.Ok G kk) (b : PSs G O (Γ.at (G.CI kk).scope F.loc [F.fr] [] Str.empty) n N (G.CI kk).body) (k : c.Ok G (4 * n + 4)) {cs : List Nat} {u : Value} (hu : RV G ι (.clo kk cs) u) {vs : List V} {us : List Value} (hv : RVs G ι vs us) :
  SimC G c ι loc h (.call u ⟨us, []⟩) (runC O N Γ (G.CI kk) F cs vs h) := by
 unfold runC
 split
 ·rename_i hlen
  intro s rep R hok hex hnb
  obtain ⟨a, o, oc, cl, cd, cvs, t, rfl, m1, co, m2, dd, nn, cc1, cc2⟩ := hu
  obtain ⟨doc, pm, ct, o1, o2⟩ := co
  obtain ⟨m, FF, hm⟩ := rep.fr k
  have X : G.K.In s.heap := k.X.keeps FF.keep
  have hbn : (F.ps.zip us).map (·.1) |>.Nodup := zip_nodup fo.psn
  rw [fo.free] at cc1
  obtain ⟨ac, hcl⟩ : ∃ ac, cl = [(F.fr, ac)] := by
   cases cl with
   | nil => cases cc1
   | cons p r =>
    cases r with
    | nil => exact ⟨p.2, by rw [← (List.cons.inj (show [p.1] = [F.fr] from cc1)).1]⟩
    | cons _ _ => exact nomatch (List.cons.inj cc1).2
  subst hcl
  obtain ⟨i, hcs, hi⟩ : ∃ i, cs = [i] ∧ ι.ρ[i]? = some ac := by
   cases cs with
   | nil => cases cc2
   | cons i r =>
    cases r with
    | nil => exact ⟨i, rfl, (List.cons.inj (show [some ac] = [ι.ρ[i]?] from cc2)).1.symm⟩
    | cons _ _ => exact nomatch (List.cons.inj cc2).2
  subst hcs
  refine codeAny_call_def (body := (G.CI kk).body) (binds := F.ps.zip us) (Nat.lt_trans (Nat.lt_of_le_of_lt (Nat.le_add_right _ _) k.dep) (by decide)) (rep.im _ m1).1 o2 (k.T.nolimit.keeps FF.keep) ⟨cd, oc, cvs, t, rfl, (rep.im _ m2).1, dd, nn⟩ rfl
   (fo.bind s us _ doc pm _ ct (by rw [← hv.length]; exact hlen)) fo.cell (fun x hx => (fo.nm _ (fo.ps _ (List.of_mem_zip hx).1)).1) (fun h₁ hns kp => ?_) fo.co fo.gen fo.kind
  let c' : Cx := c.call (G.CI kk).qual (G.CI kk).scope s.heap.objs.size a (.ref cd) [(F.fr, ac)] F.loc [(F.fr, i)] m
  have k' : c'.Ok G (4 * n + 3) := Cx.Ok.call k rep (Nat.le_refl _) fo.kind fo.nm fo.nn fun q hq => by
   have hq : q = (F.fr, i) := by simpa using hq
   subst hq
   exact ⟨.inr fo.cn.1, fo.cn.2⟩
  have ok' : (Γ.at (G.CI kk).scope F.loc [F.fr] [] Str.empty).Ok c' := ⟨rfl, rfl, rfl, fun q => absurd rfl q⟩
  have rep' : Rep G c' ι (F.loc.map fun x => (F.ps.zip vs).lookup x) h { s with heap := h₁, toks := s.toks + (F.ps.zip us).length } := by
   have at0 : ∀ b ob, At c s.heap b ob → At c' h₁ b ob := fun b ob x => ⟨kp b ob x.1, x.2.1, fun q => by
    rcases List.mem_cons.mp q with q | q
    ·have := Heap.lt_size x.1; rw [q] at this; exact Nat.lt_irrefl _ this
    ·exact x.2.2 q⟩
   refine ⟨fun b ob e => kp b ob (FF.keep b ob e), ⟨_, hns, fun j x v e1 e2 => ?_⟩, fun q hq => ?_, rep.len, rep.nd, fun j b lo e1 e2 => ?_, fun p hp => at0 _ _ (rep.im p hp), rep.dis, fun q hq => ?_, rep.gens, rep.drawn, rep.os, rep.tb⟩
   ·rw [List.getElem?_map, show F.loc[j]? = some x from e1] at e2
    simp only [Option.map_some, Option.some.injEq] at e2
    obtain ⟨u, q1, q2⟩ := (zip_lookup F.ps hv x).2 v e2
    exact ⟨u, by rw [look_rev hbn]; exact q1, q2⟩
   ·rcases List.mem_cons.mp hq with q' | q'
    ·rw [q']; exact FF.ns.keeps kp
    ·exact (rep.bel q q').keeps kp
   ·obtain ⟨ob, x, y⟩ := rep.mu j b lo e1 e2
    exact ⟨ob, at0 b ob x, y⟩
   ·have hq : q ∈ [(F.fr, i)] := hq
    have hq : q = (F.fr, i) := by simpa using hq
    subst hq
    exact ⟨ac, by show List.lookup F.fr [(F.fr, ac)] = _; simp, hi⟩
  exact w_body (c' := c') k' ok' b rep' rfl (fun v h2 κ s2 u l2 e le2 rep2 hu => hok v h2 κ s2 u e le2 (rep.leave hm le2 rep2) hu) (fun C kd h2 κ s2 e e2 le2 rx => hex C kd h2 κ s2 e e2 le2 (rx.leave rep hm le2)) hnb
 ·exact fun s rep R hok hex hnb => absurd rfl hnb
end
section
variable {G : GW} {O : Orc} {Γ : CT} {n N : Nat} {c : Cx} {ι : Idx} {loc : Loc} {h : H}
theorem s_loadL (k : c.Ok G n) {x : Str} {i : Nat} (e : c.names[i]? = some x) {v : V} (hv : loc[i]? = some (some v)) : Sim G c ι loc h (fun _ => loc) (RV G) (loadName c.env x) (.ok v h) := by
 refine Sim.val fun s rep Q E hq => ?_
 obtain ⟨m, F, hm⟩ := rep.fr k
 obtain ⟨u, h1, h2⟩ := hm i x v e hv
 obtain ⟨k1, k2⟩ := k.nm x (List.mem_of_getElem? e)
 exact wpAny_loadName_local k.hk k1 F.ns h1 (hq u s.toks h2)
theorem s_ishr {a b : V} {x y : Value} (hx : RV G ι a x) (hy : RV G ι b y) : Sim G c ι loc h (fun _ => loc) (RV G) (inplaceOp .RShift x y) (binV .RShift a b h) :=
 s_ii hx hy fun i j t1 t2 => Sim.okP fun hz => Sim.int fun s Q E _ hq => irshift_int hz (hq _ _)
theorem Sim.xDec {α : Type} {lc : Fl × Loc → Loc} {R : Idx → Fl × Loc → α → Prop} {t : Sem α} {cs : List Nat} {p : Prop} [Decidable p] {x : St} (y : p → Sim G c ι loc h lc R t (xs1 O cs N x loc h)) : Sim G c ι loc h lc R t (xs1 O cs N (if p then x else .stop) loc h) := by
 by_cases q : p
 ·rw [if_pos q]; exact y q
 ·rw [if_neg q]; exact Sim.bad
theorem ps_aug (he : ∀ e, PX G O Γ n e) (t : Expr) (op : Operator) (v : Expr) (pos : Pos) : PS G O Γ n N (.AugAssign t op v pos) := fun c ι loc h k ok => by
 refine Sim.xElim fun X _ => Sim.xDec fun hop => Sim.xElim fun i hi => ?_
 obtain ⟨⟨x, p⟩, hX⟩ := X
 dsimp only at hX hi
 subst hX hop
 have hx : c.names[i]? = some x := by rw [← ok.loc]; exact idx_get hi
 show Sim G c ι loc h lcF (RF G) _ (match loc[i]? with
  | some (some x) => (ev O c.cs (cE Γ v) loc h).bind fun y h => (binV .RShift x y h).bind fun v h => .ok (.next, loc.set i (some v)) h
  | _ => .bad)
 cases hw : loc[i]? with
 | none => exact Sim.bad
 | some w =>
  cases w with
  | none => exact Sim.bad
  | some w =>
   rw [arm_exec_AugAssign]
   refine Sim.standAt ?_
   refine (Sim.bind (f := fun y h => (ev O c.cs (cE Γ v) loc h).bind fun z h => (binV .RShift y z h).bind fun r h => .ok (.next, loc.set i (some r)) h) (s_loadL k hx hw) fun y h1 ι1 u e1 le1 hu => ?_).res rfl
   refine Sim.bind (Sim.holding ((he v).1.1 c ι1 loc h1 k ok)) fun z h2 ι2 u2 e2 le2 hu2 => ?_
   refine Sim.standAt (Sim.bind (Sim.operate (s_ishr (hu.mono le2) hu2)) fun r h3 ι3 u3 e3 le3 hu3 => ?_)
   refine Sim.standAt ?_
   exact fun s rep Q E hok _ _ => wpAny_bind (wpAny_bindName (rep.set k hx hu3 fun hp tk rep' => wpAny_pure (hok _ h3 ι3 _ _ rfl (.refl _) rep' rfl)))
end
section
variable {prog : Program} {w : World} {A : Around} {E : Value → Shared → Prop} {R : Result → Shared → Prop} {h : Heap} {g : Array GenState} {d : Drawn} {t : Nat} {os : OsState}
variable {nm q : Str} {C N : Addr} {bs bm bmB : List Value} {hdct : Bool} {sn : List Str} {sub : List Value} {ab : Bool} {col : Option Bool} {dd : Option Addr} {k0 k1 k2 k3 k5 : Option Value} {B newId initId : String}
structure Over (B : String) (C : Addr) (bm : List Value) : Prop where
 hB : (Value.ref C :: bm).contains (.type B) = true
 hA : (Value.ref C :: bm).contains (.type "AttributeError") = false
 hN : (Value.ref C :: bm).contains (.type "NameError") = false
theorem exc_new (F : ExcBaseFacts B newId initId bmB) (V : Over B C bm) {rest : List Value} (hC : h.get? C = some (excClassObj nm q C N bs bm hdct sn sub ab col dd k0 k1 k2 k3 k5 newId))
  (hq : R (.ok (.ret (.ref (h.objs.size + 1)))) ⟨(h.push { cls := .type "tuple", data := .seq rest.toArray }).push
   { cls := .ref C, data := .fields #[.ref h.objs.size, .none, .none, .none, .bool false, .none] }, g, d, t, os⟩) (hrest : rest.length ≤ sizeLine) :
  codeAny (model prog w) A (.builtin newId ⟨.ref C :: rest, []⟩) R ⟨h, g, d, t, os⟩ := by
 have hends := F.ends
 have hcB := V.hB
 have hcA := V.hA
 have hcN := V.hN
 refine codeAny_builtinAt F.entry ?_
 unfold Builtin.«BaseException.__new__»
 refine PySem.wpAt_bind ?_
 show PySem.wpAt _ _ _ (stack >>= _) _ _ _
 refine PySem.wpAt_bind (PySem.wpAt_stack fun p below => PySem.wpAt_of_wpAny ?_)
 wp_walk
 refine PySem.wpAt_of_wpAny ?_
 rw [F.owner]
 repeat (first | with_reducible refine wpAny_madeHere_exc F.canon hC ?_ | with_reducible refine wpAny_loadPart_at hC ?_ | (with_reducible refine wpAny_isSubtype_exc hC ?_; first | rw [hcB] | rw [hcA] | rw [hcN]) | wp_step)
 show R _ _
 rw [Heap.size_push]
 exact hq
theorem exc_check {M : Model} (F : ExcBaseFacts B newId initId bmB) (V : Over B C bm) {rest : List Value} {Q : Unit → Shared → Prop} (hC : h.get? C = some (excClassObj nm q C N bs bm hdct sn sub ab col dd k0 k1 k2 k3 k5 newId))
  (hq : Q () ⟨h, g, d, t, os⟩) : wpAny M A (checkBuiltinCall newId ⟨.ref C :: rest, []⟩) Q E ⟨h, g, d, t, os⟩ := by
 have hcont := V.hB
 have hstar := F.noStar
 simp only [checkBuiltinCall, F.newKind, F.newSplit, F.newRow]
 repeat (first | refine wpAny_loadPart_at hC ?_ | (refine wpAny_isSubtype_exc hC ?_; rw [hcont]) | refine wpAny_staticBase_exc hC ?_ | refine wpAny_madeBy_exc hC ?_ | simp only [bne_self_eq_false, Bool.false_eq_true, if_false] | wp_step)
 exact hq
end
section
variable {prog : Program} {w : World} {A : Around} {E : Value → Shared → Prop} {h : Heap} {g : Array GenState} {d : Drawn} {t : Nat} {os : OsState}
variable {nm q : Str} {C N : Addr} {bs bm bmB : List Value} {hdct : Bool} {sn : List Str} {sub : List Value} {ab : Bool} {col : Option Bool} {dd : Option Addr} {k0 k1 k2 k3 k5 : Option Value} {B newId initId : String} {K : Frag}
theorem exc_type_call (F : ExcBaseFacts B newId initId bmB) (V : Over B C bm) (X : K.In h) {rest : List Value} {fI : Addr} {Q : Fin → Shared → Prop}
  (hC : h.get? C = some (excClassObj nm q C N bs bm hdct sn sub ab col dd k0 k1 k2 k3 k5 newId)) (hi : findIn K (.ref C) "__init__" = some (some (.ref fI))) (hf : typeIn K (.ref fI) = some (.type "function"))
  (hq : wpAny (model prog w) A (call (.ref fI) (.ref (h.objs.size + 1) :: rest)) (fun r s' => r = .none ∧ Q (.done (.ret (.ref (h.objs.size + 1)))) s') E
   ⟨(h.push { cls := .type "tuple", data := .seq rest.toArray }).push { cls := .ref C, data := .fields #[.ref h.objs.size, .none, .none, .none, .bool false, .none] }, g, d, t, os⟩) (hrest : rest.length ≤ sizeLine) :
  wpAny (model prog w) A (Builtin.«type.__call__» ⟨.ref C :: rest, []⟩) Q E ⟨h, g, d, t, os⟩ := by
 repeat (first | with_reducible refine wpAny_loadPart_at hC ?_ | with_reducible refine wpAny_madeBy_exc hC ?_ | wp_step)
 refine codeAny_call_builtin_code (Code.quiet_builtin _ F.quiet) (exc_check F V hC ?_)
 refine exc_new F V hC ?_ hrest
 show wpAny _ _ _ _ _ _
 have keep : ∀ b o, h.get? b = some o → ((h.push { cls := .type "tuple", data := .seq rest.toArray }).push { cls := .ref C, data := .fields #[.ref h.objs.size, .none, .none, .none, .bool false, .none] }).get? b = some o :=
  fun b o e => Heap.get?_push_of_some _ (Heap.get?_push_of_some _ e)
 have hC₁ := keep _ _ hC
 have X₁ := X.keeps keep
 have hget : ((h.push { cls := .type "tuple", data := .seq rest.toArray }).push
   { cls := .ref C, data := .fields #[.ref h.objs.size, .none, .none, .none, .bool false, .none] }).get? (h.objs.size + 1) = some
   { cls := .ref C, data := .fields #[.ref h.objs.size, .none, .none, .none, .bool false, .none] } := by heap_get
 have hcC : (Value.ref C :: bm).contains (.ref C) = true := by simp
 unfold isInstance
 repeat (first | with_reducible refine wpAny_loadPart_at hget ?_ | (with_reducible refine wpAny_isSubtype_exc hC₁ ?_; rw [hcC]) | wp_step)
 show wpAny _ _ (typeLookup (.ref C) _) _ _ _
 refine (looks_findIn X₁ hi).here ?_
 refine wpAny_holding (wpAny_bind ?_)
 refine (bind_fn X₁ (.ref (h.objs.size + 1)) hf).here ?_
 refine wpAny_bind (wpAny_mono hq (fun r s' hr => ?_) fun _ _ x => x)
 obtain ⟨rfl, hQ⟩ := hr
 wp_walk
 exact hQ
end
section
variable {prog : Program} {w : World} {A : Around} {E : Value → Shared → Prop} {h : Heap} {g : Array GenState} {d : Drawn} {t : Nat} {os : OsState}
variable {nm q : Str} {C N : Addr} {bs bm bmB : List Value} {hdct : Bool} {sn : List Str} {sub : List Value} {ab : Bool} {col : Option Bool} {dd : Option Addr} {k0 k1 k2 k3 k5 : Option Value} {B newId initId : String} {K : Frag}
theorem exc_call (F : ExcBaseFacts B newId initId bmB) (V : Over B C bm) (X : K.In h) {rest : List Value} {fI : Addr} {Q : Value → Shared → Prop}
  (hC : h.get? C = some (excClassObj nm q C N bs bm hdct sn sub ab col dd k0 k1 k2 k3 k5 newId)) (hi : findIn K (.ref C) "__init__" = some (some (.ref fI))) (hf : typeIn K (.ref fI) = some (.type "function"))
  (hq : wpAny (model prog w) (A.under (.builtin "type.__call__" ⟨.ref C :: rest, []⟩)) (call (.ref fI) (.ref (h.objs.size + 1) :: rest)) (fun r s' => r = .none ∧ Q (.ref (h.objs.size + 1)) s') E
   ⟨(h.push { cls := .type "tuple", data := .seq rest.toArray }).push { cls := .ref C, data := .fields #[.ref h.objs.size, .none, .none, .none, .bool false, .none] }, g, d, t, os⟩) (hrest : rest.length ≤ sizeLine) :
  wpAny (model prog w) A (call (.ref C) rest) Q E ⟨h, g, d, t, os⟩ := by
 have f1 := tc_lookup
 have f2 := tc_bind (.ref C)
 have hT : (⟨h, g, d, t, os⟩ : Shared).TypeIs (.ref C) "type" := ⟨_, hC, rfl⟩
 refine wpAny_call (codeAny_of_tree ?_)
 show wpAny _ _ (callAny (.ref C) _) _ _ _
 repeat (any_goals (first | assumption | with_reducible refine wpAny_loadPart_at hC ?_ | wp_step))
 refine ⟨rfl, ?_⟩
 refine codeAny_call_builtin_at (Code.quiet_builtin _ (by decide +kernel)) entry_typeCall (wpAny_check_type_call_sub hC (exc_type_call F V X hC hi hf ?_ hrest))
 exact hq
end
section
variable {prog : Program} {w : World} {A : Around} {s : Shared} {K : Frag} {x C : Addr} {R : Result → Shared → Prop}
theorem osa_any {ox : Obj} {od : Option Obj} {cd : ClassData} {name : Str} {tk : Tok} {v : Value} (X : K.In s.heap) (I : InstAt s.heap x ox C od) (hc : clsIn K C = some cd) (ho : cd.mro.contains (.type "object") = true)
  (hr : refuseLoop (.ref x) "__setattr__" cd.mro = pure ()) (ha : findIn K (.ref C) name = some none)
  (h : wpAny (model prog w) A.in1 (storeInOwnDict (.ref x) (.ref C) (.str name tk) name v false)
   (fun fin s' => match fin with | .done f => R (.ok f) s' | .again c' => c'.quiet = true ∧ codeAny (model prog w) A c' R s') (fun e s' => R (.error e) s') s) :
  codeAny (model prog w) A (.call (.builtin "object.__setattr__") ⟨[.ref x, .str name tk, v], []⟩) R s := by
 have SF := PySem.F.store_object
 have ne : cd.mro.isEmpty = false := by cases q : cd.mro with | nil => rw [q] at ho; cases ho | cons _ _ => rfl
 have sub : Looks (model prog w) s.heap (isInstance (.ref x) (.type "object")) true := I.type.andThen (looks_mroIn X (by unfold mroIn; rw [hc, Option.bind_some, if_neg (by rw [ne]; decide), ho]))
 refine codeAny_call_builtin SF.slot.plain SF.entry (@check_slot (model prog w) _ _ s "object.__setattr__" "object" "__setattr__" (.ref x) [.str name tk, v] [] _ SF.kind SF.split sub (SF.args (.ref x) (.str name tk) v) ?_)
 have hm : Looks (model prog w) s.heap (mroOf (.ref C)) cd.mro := (looks_clsIn X hc).andThen .now
 have L3 : Looks (model prog w) s.heap (storeTaker? none) none := .now
 rw [osa_eq, refuse_eq]
 refine wpAny_bind (wpAny_bind (I.type.here (wpAny_bind (hm.here ?_))))
 rw [hr]
 exact wpAny_pure (wpAny_bind (I.type.here (wpAny_bind ((looks_findIn X ha).here (wpAny_bind (L3.here h))))))
end
section
variable {prog : Program} {w : World} {A : Around} {s : Shared} {K : Frag} {x C dx : Addr} {R : Fin → Shared → Prop} {E : Value → Shared → Prop}
theorem store_in {es : List DictEntry} {n : Nat} {name : Str} {nt : Tok} {v : Value} (hd : s.heap.get? dx = some (dictOf es n)) (hl : (getL name es).isSome = true) (hz : (putL name (PyData.keyHash w.params name) (.str name s.toks) v es).length ≤ 1000)
  (h : ∀ h', Heap.SameBut dx s.heap h' → h'.get? dx = some (dictOf (putL name (PyData.keyHash w.params name) (.str name s.toks) v es) (putN name es n)) → R (.done (.ret .none)) { s with heap := h', toks := s.toks + 1 }) :
  wpAny (model prog w) A (storeInDict dx (.str name nt) name v) R E s := by
 unfold storeInDict
 refine wpAny_bind (m := newKeyGuard dx name (.str name nt)) (wpAny_pure (wpAny_bind ?_))
 unfold nsSet
 refine wpAny_bind (wpAny_bind (wpAny_askSetting (wpAny_pure (wpAny_bind (wpAny_mkText (wpAny_bind (wpAny_loadPart hd ?_)))))))
 dsimp only
 have c : (!es.toArray.any (·.key.isStr name) && es.toArray.any (·.refKey)) = false := by
  rw [← Array.any_toList, ← Array.any_toList]
  unfold getL at hl
  cases he : es.find? (·.key.isStr name) with
  | some en => rw [List.any_eq_true.mpr ⟨en, List.mem_of_find?_eq_some he, List.find?_some he⟩]; rfl
  | none =>
   rw [he] at hl
   cases z : es.any (·.refKey) with
   | true => rw [z] at hl; cases hl
   | false => rw [Bool.and_false]
 rw [aRefKeyMayBeTheName_at, c]
 refine wpAny_updatePart hd ?_
 have D' : (s.heap.update dx (Obj.putName name (PyData.keyHash w.params name) (.str name s.toks) v)).get? dx = some (dictOf (putL name (PyData.keyHash w.params name) (.str name s.toks) v es) (putN name es n)) := by
  rw [Heap.get?_update_self _ hd (by rw [putName_dict]; rfl), putName_dict]
 refine wpAny_bind (wpAny_lookBehind D' (by rw [show (dictOf (putL name (PyData.keyHash w.params name) (.str name s.toks) v es) (putN name es n)).data = .dict _ _ from rfl]; exact pastItsLine_dict (by rw [List.size_toArray, sizeLine_eq]; omega)) ?_)
 exact wpAny_pure (h _ (Heap.SameBut.update ..) D')
end
section
variable {prog : Program} {w : World} {A : Around} {s : Shared} {K : Frag} {x C dx : Addr} {R : Fin → Shared → Prop} {E : Value → Shared → Prop}
theorem own_has {cd : ClassData} {di : Addr} {vs : Array Value} {sl : Array (Option Value)} {name : Str} {nt : Tok} {v : Value} {b : Bool} (X : K.In s.heap) (hc : clsIn K C = some cd) (hh : cd.hasDict = true) (hx : s.heap.get? x = some ⟨.ref C, some di, .fields vs, sl⟩)
  (h : wpAny (model prog w) A (storeInDict di (.str name nt) name v) R E s) : wpAny (model prog w) A (storeInOwnDict (.ref x) (.ref C) (.str name nt) name v b) R E s := by
 unfold storeInOwnDict
 refine wpAny_bind (m := ownStreamTells (.ref x) (.ref C)) (wpAny_pure ?_)
 rw [if_neg (by simp)]
 refine wpAny_bind ?_
 unfold ownDictForStores instanceDict
 refine wpAny_bind (wpAny_loadPart hx ?_)
 refine wpAny_bind ((looks_clsIn X hc).here ?_)
 rw [hh]
 exact wpAny_pure h
theorem own_new {cd : ClassData} {vs : Array Value} {sl : Array (Option Value)} {name : Str} {nt : Tok} {v : Value} {b : Bool} (X : K.In s.heap) (hc : clsIn K C = some cd) (hh : cd.hasDict = true) (hx : s.heap.get? x = some ⟨.ref C, none, .fields vs, sl⟩)
  (h : ∀ h', (∀ b o, b ≠ x → s.heap.get? b = some o → h'.get? b = some o) → h'.get? x = some ⟨.ref C, some s.heap.objs.size, .fields vs, sl⟩ → h'.get? s.heap.objs.size = some (dictOf [] 0) →
   wpAny (model prog w) A (storeInDict s.heap.objs.size (.str name nt) name v) R E { s with heap := h' }) : wpAny (model prog w) A (storeInOwnDict (.ref x) (.ref C) (.str name nt) name v b) R E s := by
 unfold storeInOwnDict
 refine wpAny_bind (m := ownStreamTells (.ref x) (.ref C)) (wpAny_pure ?_)
 rw [if_neg (by simp)]
 refine wpAny_bind ?_
 unfold ownDictForStores instanceDict
 refine wpAny_bind (wpAny_loadPart hx ?_)
 refine wpAny_bind ((looks_clsIn X hc).here ?_)
 rw [hh]
 dsimp only
 have hx' := Heap.get?_push_of_some (h := s.heap) { cls := .type "dict", data := .dict #[] } hx
 have hne : s.heap.objs.size ≠ x := Nat.ne_of_gt (Heap.lt_size hx)
 refine wpAny_bind (wpAny_alloc ?_)
 refine wpAny_bind (wpAny_update hx' ?_)
 show wpAny _ _ (pure (some s.heap.objs.size)) _ _ _
 refine wpAny_pure ?_
 refine h _ (fun b o hb e => ?_) ?_ ?_
 ·rw [Heap.get?_update_other _ _ (Ne.symm hb)]
  exact Heap.get?_push_of_some _ e
 ·exact Heap.get?_update_self _ hx' rfl
 ·rw [Heap.get?_update_other _ _ (Ne.symm hne)]
  exact Heap.get?_push_size _ rfl
end
structure XK (K : Frag) (C : Addr) (cd : ClassData) (ns : List Str) : Prop where
 cls : clsIn K C = some cd
 dic : cd.hasDict = true
 obj : cd.mro.contains (.type "object") = true
 ref : ∀ x : Addr, refuseLoop (.ref x) "__setattr__" cd.mro = pure ()
 set : findIn K (.ref C) "__setattr__" = some (some (.builtin "object.__setattr__"))
 no : ∀ n ∈ ns, findIn K (.ref C) n = some none
section
variable {prog : Program} {w : World} {A : Around} {s : Shared} {K : Frag} {x C dx : Addr} {Q : Unit → Shared → Prop} {E : Value → Shared → Prop} {cd : ClassData} {ns : List Str}
theorem x_set1 (k : XK K C cd ns) (X : K.In s.heap) {name : Str} (hn : name ∈ ns) {vs : Array Value} {sl : Array (Option Value)} {v : Value} (hx : s.heap.get? x = some ⟨.ref C, none, .fields vs, sl⟩)
  (hq : ∀ h' d t, (∀ b o, b ≠ x → s.heap.get? b = some o → h'.get? b = some o) → s.heap.objs.size ≤ d → h'.get? x = some ⟨.ref C, some d, .fields vs, sl⟩ → h'.get? d = some (dictOf [⟨PyData.keyHash w.params name, .str name t, v⟩] 1) → Q () { s with heap := h', toks := s.toks + 2 }) :
  wpAny (model prog w) A (setAttr (.ref x) name v) Q E s := by
 have I : InstAt s.heap x ⟨.ref C, none, .fields vs, sl⟩ C none := ⟨hx, rfl, rfl, trivial⟩
 refine set_plain X I k.set (osa_any (s := { s with toks := s.toks + 1 }) X I k.cls k.obj (k.ref x) (k.no name hn) (own_new (s := { s with toks := s.toks + 1 }) X k.cls k.dic hx fun h' kp ho hd => ?_))
 refine store_in (s := { heap := h', gens := s.gens, drawn := s.drawn, toks := s.toks + 1, os := s.os }) hd rfl (by simp [putL]) fun h2 hs ho2 => ?_
 have hne : x ≠ s.heap.objs.size := Nat.ne_of_lt (Heap.lt_size hx)
 exact hq h2 s.heap.objs.size _ (fun b o hb e => (hs.2 b (Nat.ne_of_lt (Heap.lt_size e))).trans (kp b o hb e)) (Nat.le_refl _) ((hs.2 x hne).trans ho) ho2
theorem x_set2 (k : XK K C cd ns) (X : K.In s.heap) {name : Str} (hn : name ∈ ns) {vs : Array Value} {sl : Array (Option Value)} {v : Value} {es : List DictEntry} {n : Nat} (hx : s.heap.get? x = some ⟨.ref C, some dx, .fields vs, sl⟩) (hd : s.heap.get? dx = some (dictOf es n))
  (hl : (getL name es).isSome = true) (hz : ∀ t : Tok, (putL name (PyData.keyHash w.params name) (.str name t) v es).length ≤ 1000)
  (hq : ∀ h' t, Heap.SameBut dx s.heap h' → h'.get? dx = some (dictOf (putL name (PyData.keyHash w.params name) (.str name t) v es) (putN name es n)) → Q () { s with heap := h', toks := s.toks + 2 }) :
  wpAny (model prog w) A (setAttr (.ref x) name v) Q E s := by
 have I : InstAt s.heap x ⟨.ref C, some dx, .fields vs, sl⟩ C (some (dictOf es n)) := ⟨hx, rfl, rfl, hd⟩
 refine set_plain X I k.set (osa_any (s := { s with toks := s.toks + 1 }) X I k.cls k.obj (k.ref x) (k.no name hn) (own_has (s := { s with toks := s.toks + 1 }) X k.cls k.dic hx ?_))
 exact store_in (s := { s with toks := s.toks + 1 }) hd hl (hz _) fun h2 hs ho2 => hq h2 _ hs ho2
end
section
variable {prog : Program} {w : World} {A : Around} {s : Shared} {Q : Flow → Shared → Prop} {E : Value → Shared → Prop}
theorem w_asgSelf {env : Env} {m : Str → Option Value} {self x n : Str} {ov v : Value} {p1 p2 p3 pos : Pos} (hk : env.scope.kind = .function) (ns : s.heap.Ns env.locals m) (k1 : env.kindOf self = some .local) (k2 : env.kindOf x = some .local)
  (d1 : (self == ("__debug__" : Str)) = false) (d2 : (x == ("__debug__" : Str)) = false) (h1 : m self = some ov) (h2 : m x = some v) (h : wpAny (model prog w) A (setAttr ov n v) (fun _ s' => Q .next s') E s) :
  wpAny (model prog w) A (exec (.Assign [.Attribute (.Name self p1) n p2] (.Name x p3) pos) env) Q E s := by
 rw [arm_exec_Assign]
 refine wpAny_bind (wpAny_standAt ?_)
 refine wpAny_bind (m := swapsWithSole _ _ _ _) (wpAny_pure ?_)
 rw [if_neg Bool.false_ne_true]
 refine wpAny_bind (wpAny_Name (wpAny_loadName_local hk k2 ns h2 ?_) d2)
 refine wpAny_bind (m := swappedStores _ _ _) (wpAny_pure ?_)
 show wpAny _ _ (do assign (.Attribute (.Name self p1) n p2) env v; pure .next) Q E s
 rw [arm_assign_Attribute]
 refine wpAny_bind (wpAny_bind (wpAny_holding (wpAny_Name (wpAny_loadName_local hk k1 ns h1 ?_) d1)))
 refine wpAny_bind (wpAny_standAt (wpAny_bind (wpAny_holding (wpAny_mono h (fun _ s' z => ?_) fun _ _ z => z))))
 exact wpAny_release (wpAny_pure z)
end
structure IK (G : GW) (a : Addr) (F : FX) (ns : List Str) : Prop where
 at_ : ∃ o, G.K.lookup a = some o ∧ o.data = .func F.fd
 rec_ : ∀ hp, G.K.In hp → hp.CodeRec F.cdv F.qual
 bind : ∀ (s : Shared) (e u v w : Value), G.K.In s.heap → BindsTo s F.fd ⟨[e, u, v, w], []⟩ [("self", e), ("kind", u), ("at", v), ("detail", w)]
 co : F.scope.isCoroutine = false
 gen : F.scope.isGenerator = false
 kind : F.scope.kind = .function
 cell : ∀ x ∈ F.scope.names, x.2 ≠ .cell
 loc : ∀ x ∈ (["self", "kind", "at", "detail"] : List Str), F.scope.names.lookup x = some .local
 body : ∃ p1 p2 p3 p4 p5 p6 p7 p8 p9 q1 q2 q3, F.body = [.Assign [.Attribute (.Name "self" p1) "kind" p2] (.Name "kind" p3) q1, .Assign [.Attribute (.Name "self" p4) "at" p5] (.Name "at" p6) q2,
  .Assign [.Attribute (.Name "self" p7) "detail" p8] (.Name "detail" p9) q3]
 ns : ∀ x ∈ (["kind", "at", "detail"] : List Str), x ∈ ns
section
variable {G : GW} {A : Around} {s : Shared} {C e a : Addr} {cd : ClassData} {ns : List Str} {F : FX} {Q : Value → Shared → Prop} {E : Value → Shared → Prop} {vs : Array Value} {sl : Array (Option Value)} {kd : Str} {t : Tok} {av dv : Value}
theorem exc_init (ik : IK G a F ns) (xk : XK G.K C cd ns) (X : G.K.In s.heap) (nl : s.heap.NoLimit) (hroom : A.depth < recursionLimit) (he : s.heap.get? e = some ⟨.ref C, none, .fields vs, sl⟩) (heK : ∀ o, G.K.lookup e ≠ some o)
  (hq : ∀ hp tk dx es n, (∀ b o, b ≠ e → s.heap.get? b = some o → hp.get? b = some o) → hp.get? e = some ⟨.ref C, some dx, .fields vs, sl⟩ → s.heap.objs.size ≤ dx → hp.get? dx = some (dictOf es n) → (∃ t' : Tok, getL "kind" es = some (some (.str kd t))) → Q (.none) { s with heap := hp, toks := tk }) :
  wpAny (model G.prog G.w) A (call (.ref a) [.ref e, .str kd t, av, dv]) Q E s := by
 obtain ⟨o, hl, hd⟩ := ik.at_
 obtain ⟨p1, p2, p3, p4, p5, p6, p7, p8, p9, q1, q2, q3, hb⟩ := ik.body
 refine wpAny_call (codeAny_call_def (fd := F.fd) (body := F.body) hroom (X _ _ hl) hd nl (ik.rec_ _ X) rfl (ik.bind s _ _ _ _ X) ik.cell (fun x hx => ?_) (fun h₁ hns kp => ?_) ik.co ik.gen ik.kind)
 ·have : x.1 ∈ (["self", "kind", "at", "detail"] : List Str) := by
   simp only [List.mem_cons, List.not_mem_nil, or_false] at hx
   rcases hx with rfl | rfl | rfl | rfl <;> simp
  exact ik.loc _ this
 ·rw [hb]
  have l1 := ik.loc "self" (by simp)
  have l2 := ik.loc "kind" (by simp)
  have l3 := ik.loc "at" (by simp)
  have l4 := ik.loc "detail" (by simp)
  have he1 := kp _ _ he
  have hLe : s.heap.objs.size ≠ e := Nat.ne_of_gt (Heap.lt_size he)
  have X1 := X.keeps kp
  have m1 : (List.lookup ("self" : Str) ([("self", Value.ref e), ("kind", .str kd t), ("at", av), ("detail", dv)] : List (Str × Value)).reverse) = some (.ref e) := by rfl
  have m2 : (List.lookup ("kind" : Str) ([("self", Value.ref e), ("kind", .str kd t), ("at", av), ("detail", dv)] : List (Str × Value)).reverse) = some (.str kd t) := by rfl
  have m3 : (List.lookup ("at" : Str) ([("self", Value.ref e), ("kind", .str kd t), ("at", av), ("detail", dv)] : List (Str × Value)).reverse) = some av := by rfl
  have m4 : (List.lookup ("detail" : Str) ([("self", Value.ref e), ("kind", .str kd t), ("at", av), ("detail", dv)] : List (Str × Value)).reverse) = some dv := by rfl
  refine wpAny_execs_cons (w_asgSelf ik.kind hns l1 l2 (by decide +kernel) (by decide +kernel) m1 m2 ?_)
  refine x_set1 xk X1 (ik.ns _ (by simp)) he1 fun h2 d t2 kp2 hd2 he2 hdd => ?_
  have hns2 : h2.Ns s.heap.objs.size _ := hns.at' (fun o q => kp2 _ o hLe q)
  have kp3 : ∀ b o, b ≠ e → s.heap.get? b = some o → h2.get? b = some o := fun b o q q' => kp2 b o q (kp b o q')
  have hde : d ≠ e := Nat.ne_of_gt (Nat.lt_of_lt_of_le (Heap.lt_size he1) hd2)
  have hdL : s.heap.objs.size ≠ d := by
   have := hns.lt
   exact Nat.ne_of_lt (Nat.lt_of_lt_of_le this hd2)
  have X2 : G.K.In h2 := fun b o q => kp3 b o (fun z => heK o (z ▸ q)) (X b o q)
  refine wpAny_execs_cons (w_asgSelf (s := { s with heap := h2, toks := _ }) ik.kind hns2 l1 l3 (by decide +kernel) (by decide +kernel) m1 m3 ?_)
  refine x_set2 (s := { s with heap := h2, toks := _ }) xk X2 (ik.ns _ (by simp)) he2 hdd (by rfl) (fun t => by show (2 : Nat) ≤ 1000; decide) fun h3 t3 hs3 hd3 => ?_
  have hns3 : h3.Ns s.heap.objs.size _ := hns2.sameBut hs3 hdL
  have he3 := (hs3.2 e (Ne.symm hde)).trans he2
  have X3 : G.K.In h3 := fun b o q => (hs3.2 b (Nat.ne_of_lt (Nat.lt_of_lt_of_le (Heap.lt_size (X b o q)) (Nat.le_trans (Nat.le_of_lt hns.lt) hd2)))).trans (X2 b o q)
  refine wpAny_execs_cons (w_asgSelf (s := { s with heap := h3, toks := _ }) ik.kind hns3 l1 l4 (by decide +kernel) (by decide +kernel) m1 m4 ?_)
  refine x_set2 (s := { s with heap := h3, toks := _ }) xk X3 (ik.ns _ (by simp)) he3 hd3 (by rfl) (fun t => by show (3 : Nat) ≤ 1000; decide) fun h4 t4 hs4 hd4 => ?_
  refine wpAny_execs_nil ?_
  refine hq h4 _ d _ _ (fun b o q q' => ?_) ((hs4.2 e (Ne.symm hde)).trans he3) ?_ hd4 ⟨t, rfl⟩
  ·have hbd : b ≠ d := Nat.ne_of_lt (Nat.lt_of_lt_of_le (Heap.lt_size q') (Nat.le_trans (Nat.le_of_lt hns.lt) hd2))
   exact (hs4.2 b hbd).trans ((hs3.2 b hbd).trans (kp3 b o q q'))
  ·exact Nat.le_trans (Nat.le_of_lt hns.lt) hd2
end
section
variable {M : Model} {A : Around} {E : Value → Shared → Prop} {s : Shared} {env : Env}
theorem raise_made {C : Addr} {x : Sem Value} {Q : Flow → Shared → Prop} (hh : A.handled = none)
  (h : wpAny M A x (fun v s₁ => ∃ e t d, v = .ref e ∧ (∃ (nm q : Str) (N : Addr) (bs bm : List Value) (hdct : Bool) (sn : List Str) (sub : List Value) (ab : Bool) (col : Option Bool) (dd : Option Addr) (k0 k1 k2 k3 k5 : Option Value) (newId : String),
    s₁.heap.get? C = some (excClassObj nm q C N bs bm hdct sn sub ab col dd k0 k1 k2 k3 k5 newId) ∧ (Value.ref C :: bm).contains (.type "BaseException") = true) ∧
   s₁.heap.get? e = some { cls := .ref C, dict := some d, data := .fields #[.ref t, .none, .none, .none, .bool false, .none] } ∧ E (.ref e) s₁) E s) :
  wpAny M A (raiseStmt env (some x) none) Q E s := by
 unfold raiseStmt
 refine wpAny_bind (wpAny_mono h (fun v s₁ h₁ => ?_) fun _ _ x => x)
 obtain ⟨e, t, d', rfl, ⟨nm, q, N, bs, bm, hdct, sn, sub, ab, col, dd, k0, k1, k2, k3, k5, newId, hC, hcB⟩, he, hE⟩ := h₁
 obtain ⟨hp, g, d, tk, os⟩ := s₁
 repeat (first | with_reducible refine wpAny_loadPart_at he ?_ | with_reducible refine wpAny_loadPart_at hC ?_ | (with_reducible refine wpAny_isSubtype_exc hC ?_; rw [hcB]) | wp_step)
 exact wpAny_raiseNew_none hh hE
end
structure XC (G : GW) (C : Addr) : Prop where
 ex : ∃ (nm q : Str) (N : Addr) (bs bm bmB : List Value) (hdct : Bool) (sn : List Str) (sub : List Value) (ab : Bool) (col : Option Bool) (dd : Option Addr) (k0 k1 k2 k3 k5 : Option Value) (B newId initId : String) (cd : ClassData) (ns : List Str) (fI : Addr) (F : FX),
  G.K.lookup C = some (excClassObj nm q C N bs bm hdct sn sub ab col dd k0 k1 k2 k3 k5 newId) ∧ ExcBaseFacts B newId initId bmB ∧ Over B C bm ∧ (Value.ref C :: bm).contains (.type "BaseException") = true ∧
  findIn G.K (.ref C) "__init__" = some (some (.ref fI)) ∧ typeIn G.K (.ref fI) = some (.type "function") ∧ IK G fI F ns ∧ XK G.K C cd ns
 kp : keepIn G.K (.ref C) = true
section
variable {G : GW} {O : Orc} {Γ : CT} {n N : Nat} {c : Cx} {ι : Idx} {loc : Loc} {h : H}
theorem w_made (k : c.Ok G (n + 6)) {C : Addr} (xc : XC G C) {s : Shared} (rep : Rep G c ι loc h s) {kd : Str} {t : Tok} {av dv : Value} {Q : Value → Shared → Prop} {E : Value → Shared → Prop}
  (hq : ∀ hp tk e tt d (nm q : Str) (N : Addr) (bs bm : List Value) (hdct : Bool) (sn : List Str) (sub : List Value) (ab : Bool) (col : Option Bool) (dd : Option Addr) (k0 k1 k2 k3 k5 : Option Value) (newId : String),
   RepF G c ι h C kd e { s with heap := hp, toks := tk } none → hp.get? C = some (excClassObj nm q C N bs bm hdct sn sub ab col dd k0 k1 k2 k3 k5 newId) → (Value.ref C :: bm).contains (.type "BaseException") = true →
   hp.get? e = some { cls := .ref C, dict := some d, data := .fields #[.ref tt, .none, .none, .none, .bool false, .none] } → Q (.ref e) { s with heap := hp, toks := tk }) :
  wpAny (model G.prog G.w) c.A (call (.ref C) [.str kd t, av, dv]) Q E s := by
 obtain ⟨nm, q, N, bs, bm, bmB, hdct, sn, sub, ab, col, dd, k0, k1, k2, k3, k5, B, newId, initId, cd, ns, fI, F, hC, FB, V, hbase, hi, hf, ik, xk⟩ := xc.ex
 obtain ⟨m, FF, _⟩ := rep.fr k
 have X : G.K.In s.heap := k.X.keeps FF.keep
 obtain ⟨hp0, g, d, tk0, os⟩ := s
 refine exc_call (bmB := bmB) FB V X (X _ _ hC) hi hf ?_ (by simp [sizeLine])
 have kp0 : ∀ b o, hp0.get? b = some o → ((hp0.push { cls := .type "tuple", data := .seq [.str kd t, av, dv].toArray }).push { cls := .ref C, data := .fields #[.ref hp0.objs.size, .none, .none, .none, .bool false, .none] }).get? b = some o :=
  fun b o e => Heap.get?_push_of_some _ (Heap.get?_push_of_some _ e)
 have he : ((hp0.push { cls := .type "tuple", data := .seq [.str kd t, av, dv].toArray }).push { cls := .ref C, data := .fields #[.ref hp0.objs.size, .none, .none, .none, .bool false, .none] }).get? (hp0.objs.size + 1) = some
   { cls := .ref C, data := .fields #[.ref hp0.objs.size, .none, .none, .none, .bool false, .none] } := by heap_get
 have heK : ∀ o, G.K.lookup (hp0.objs.size + 1) ≠ some o := fun o q => by
  have := Heap.lt_size (X _ _ q)
  exact absurd this (Nat.not_lt.mpr (Nat.le_succ _))
 refine exc_init (s := ⟨_, g, d, tk0, os⟩) ik xk (X.keeps kp0) ((k.T.nolimit.keeps FF.keep).keeps kp0) ?_ he heK fun hp tk dx es m kp1 he1 hdx hd1 hk1 => ⟨rfl, ?_⟩
 ·exact Nat.lt_trans (Nat.lt_of_le_of_lt (Nat.add_le_add_left (show 1 ≤ _ from Nat.succ_pos _) c.A.depth) k.dep) (by decide)
 ·have kp2 : ∀ b o, hp0.get? b = some o → hp.get? b = some o := fun b o q => kp1 b o (Nat.ne_of_lt (Nat.lt_succ_of_lt (Heap.lt_size q))) (kp0 b o q)
  have rep1 := rep.grow (tk := tk) kp2
  have oe : Own c ι (hp0.objs.size + 1) := rep.own (Nat.le_succ _)
  have od : Own c ι dx := rep.own (Nat.le_trans (by rw [Heap.size_push, Heap.size_push]; exact Nat.le_succ_of_le (Nat.le_succ _)) hdx)
  obtain ⟨t', ht'⟩ := hk1
  exact hq hp tk _ _ dx nm q N bs bm hdct sn sub ab col dd k0 k1 k2 k3 k5 newId ⟨loc, rep1, ⟨_, _, dx, es, m, t, he1, rfl, rfl, rfl, rfl, oe, hd1, od, ht', rfl⟩⟩ (kp2 _ _ (X _ _ hC)) hbase he1
end
noncomputable def GX (G : GW) (Γ : CT) : Prop := ∀ x C, Γ.exc.lookup x = some C → nsIn G.K mainGlobals x = some (some (.ref C)) ∧ XC G C
section
variable {G : GW} {O : Orc} {Γ : CT} {n N : Nat} {c : Cx} {ι : Idx} {loc : Loc} {h : H}
theorem and2 {a b : Bool} (h : (a && b) = true) : a = true ∧ b = true := Bool.and_eq_true_iff.mp h
theorem nam_eq {a a' : Str} {p : Pos} (h : a = a') : Expr.Name a p = .Name a' p := by rw [h]
theorem cal_eq {f f' : Expr} {as as' : List Expr} {ks ks' : List Keyword} {p : Pos} (h1 : f = f') (h2 : as = as') (h3 : ks = ks') : Expr.Call f as ks p = .Call f' as' ks' p := by rw [h1, h2, h3]
inductive RaiS (Γ : CT) (e : Option Expr) : St → Prop
 | stop : RaiS Γ e .stop
 | mk (x : Str) (np cpos : Pos) (args : List Expr) (C : Nat) (he : e = some (.Call (.Name x np) args [] cpos)) (hg : isGlo Γ x = true) (hp : plainArgs args = true) (hC : Γ.exc.lookup x = some C) : RaiS Γ e (.rai C (cEs Γ args))
theorem RaiS.el {e : Option Expr} {γ : Type} {o : Option γ} {f : γ → St} (h : ∀ a, o = some a → RaiS Γ e (f a)) : RaiS Γ e (o.elim .stop f) := by
 cases o with
 | none => exact .stop
 | some a => exact h a rfl
theorem RaiS.it {e : Option Expr} {b : Bool} {r : St} (h : b = true → RaiS Γ e r) : RaiS Γ e (if b = true then r else .stop) := by
 cases b with
 | false => exact .stop
 | true => exact h rfl
theorem rai_shape {e : Option Expr} {pos : Pos} : RaiS Γ e (cS Γ (.Raise e none pos)) :=
 RaiS.el fun e0 _ => RaiS.el fun C _ => RaiS.el fun X _ => RaiS.it fun h => RaiS.el fun D hD =>
  .mk X.1.1 X.1.2 C.1.2.2.2 C.1.2.1 D (e0.2.trans (congrArg some (C.2.trans (cal_eq X.2 rfl (List.isEmpty_iff.mp (and2 (and2 h).1).1))))) (and2 (and2 h).1).2 (and2 h).2 hD
theorem ps_raise (gx : GX G Γ) (he : ∀ e, PX G O Γ n e) (k6 : ∀ c : Cx, c.Ok G (4 * n + 3) → c.Ok G 6) (e cz : Option Expr) (pos : Pos) : PS G O Γ n N (.Raise e cz pos) := fun c ι loc h k ok => by
 cases cz with
 | some => exact Sim.bad
 | none =>
 have sh := rai_shape (Γ := Γ) (e := e) (pos := pos)
 generalize cS Γ (.Raise e none pos) = r at sh
 cases sh with
 | stop => exact Sim.bad
 | mk x np cpos args C he2 hp2 hp3 hC =>
 subst he2
 obtain ⟨h1, xc⟩ := gx x C hC
 obtain ⟨hs, _⟩ := plain_no hp3
 rw [arm_exec_Raise]
 refine Sim.standAt (β := Fl × Loc) ?_
 intro s rep Q E hok hex hnb
 show wpAny _ _ (raiseStmt c.env (some (do let v ← eval (.Call (.Name x np) args [] cpos) c.env; standAt pos; pure v)) none) Q E s
 refine raise_made k.hh (C := C) (wpAny_bind ?_)
 rw [show eval (.Call (.Name x np) args [] cpos) c.env = (do callWith cpos (← eval (.Name x np) c.env) [] (backTo cpos (starEach args c.env)) (backToKw cpos (keywordEach [] c.env))) from rfl, star_plain hs]
 refine wpAny_bind (w_glo k ok hp2 h1 rep ?_)
 refine callWith_of (P := G.K.In) (by rw [map_plain]; rfl) (keeps_K xc.kp) ?_
 have key := s_args args hs (fun e _ => (he e).1.1) c ι loc h k ok s rep (fun us s₁ => G.K.In s₁.heap ∧ wpAny (model G.prog G.w) c.A (call (.ref C) us) (fun v s' => wpAny (model G.prog G.w) c.A (do standAt pos; pure v) (fun v s₁ => ∃ e t d, v = .ref e ∧ (∃ (nm q : Str) (N : Addr) (bs bm : List Value) (hdct : Bool) (sn : List Str) (sub : List Value) (ab : Bool) (col : Option Bool) (dd : Option Addr) (k0 k1 k2 k3 k5 : Option Value) (newId : String),
   s₁.heap.get? C = some (excClassObj nm q C N bs bm hdct sn sub ab col dd k0 k1 k2 k3 k5 newId) ∧ (Value.ref C :: bm).contains (.type "BaseException") = true) ∧
   s₁.heap.get? e = some { cls := .ref C, dict := some d, data := .fields #[.ref t, .none, .none, .none, .bool false, .none] } ∧ E (.ref e) s₁) E s') E s₁) E
  (fun vs h' ι' s' us e le rep' hr => by
   refine ⟨by obtain ⟨m, F, _⟩ := rep'.fr k; exact k.X.keeps F.keep, ?_⟩
   have ex : xs1 O c.cs N (.rai C (cEs Γ args)) loc h = (k3? vs).elim .bad fun kd => .exc C kd h' := by
    show Res.bind _ _ = _
    rw [e]; rfl
   cases hk3 : k3? vs with
   | none => rw [hk3] at ex; exact absurd ex hnb
   | some kd =>
    rw [hk3] at ex
    obtain ⟨a, b, rfl⟩ := k3_of hk3
    obtain ⟨u, v, w, rfl, r1, r2, r3⟩ := hr.three
    obtain ⟨tt0, rfl⟩ := r1
    refine w_made (n := 0) (k6 c k) xc rep' fun hp tk e1 tt d nm q N bs bm hdct sn sub ab col dd k0 k1 k2 k3 k5 newId rf hc hb he1 => ?_
    exact wpAny_bind (wpAny_standAt (wpAny_pure ⟨e1, tt, d, rfl, ⟨nm, q, N, bs, bm, hdct, sn, sub, ab, col, dd, k0, k1, k2, k3, k5, newId, hc, hb⟩, he1, hex C kd h' ι' _ e1 ex le (rf.x (.inl rfl))⟩)))
  (fun C' kd h' ι' s' y e le rx => hex C' kd h' ι' s' y (by show Res.bind _ _ = _; rw [e]; rfl) le rx) (fun q => hnb (by show Res.bind _ _ = _; rw [q]; rfl))
 cases args with
 | nil => exact absurd rfl hnb
 | cons a r => exact evalArgs_plain key
end
section
variable {prog : Program} {w : World} {A : Around} {E : Value → Shared → Prop} {s : Shared} {K : Frag} {x C : Addr} {ox : Obj} {od : Option Obj} {cd : ClassData} {name : Str} {expr : Bool} {Q : Value → Shared → Prop}
theorem x_get {v : Value} {B : String} (FB : PySem.Slot B "__getattribute__" "BaseException.__getattribute__") (X : K.In s.heap) (I : InstAt s.heap x ox C od) (hga : findIn K (.ref C) "__getattribute__" = some (some (.builtin "BaseException.__getattribute__"))) (hgn : findIn K (.ref C) "__getattr__" = some none)
  (hcd : clsIn K C = some cd) (hb : cd.mro.contains (.type "BaseException") = true) (hf : findObj K C od name = some (.value v)) (hh : handedIn v = true) (h : Q v { s with toks := s.toks + 1 }) :
  wpAny (model prog w) A (getAttr (.ref x) name expr) Q E s := by
 obtain ⟨hp, g, d, t, os⟩ := s
 have L0 := I.type (M := model prog w)
 have L1 := looks_findIn (M := model prog w) X hga
 have L2 := looks_findIn (M := model prog w) X hgn
 have L3 := looks_find (M := model prog w) X I hf
 have ne : cd.mro.isEmpty = false := by cases q : cd.mro with | nil => rw [q] at hb; cases hb | cons _ _ => rfl
 have sub : Looks (model prog w) hp (isInstance (.ref x) (.type "BaseException")) true := L0.andThen (looks_mroIn X (by unfold mroIn; rw [hcd, Option.bind_some, if_neg (by rw [ne]; decide), hb]))
 unfold getAttr getAttrBy
 refine wpAny_bind (wpAny_mkText (wpAny_holding (wpAny_bind (L0.at (wpAny_bind (L1.at ?_))))))
 have hx2 : (Value.builtin "BaseException.__getattribute__" == Value.builtin "object.__getattribute__") = false := by decide +kernel
 dsimp only
 rw [hx2, Bool.and_false, if_neg Bool.false_ne_true]
 unfold getAttrByItsOwn hookBefore
 rw [show onTheHeap (.ref C) = true from rfl, if_pos rfl]
 refine wpAny_bind (L2.at (wpAny_bind (wpAny_attempt (wpAny_holding ?_))))
 unfold callGetattribute
 have hx0 : (expr && onTheHeap (Value.builtin "BaseException.__getattribute__")) = false := by cases expr <;> rfl
 rw [hx0, if_neg Bool.false_ne_true]
 unfold boundAndCalled
 rw [FB.bind]
 refine wpAny_bind (wpAny_pure (wpAny_call ?_))
 have hk : builtinKind "BaseException.__getattribute__" = some .slot := by decide +kernel
 have hsp : splitId "BaseException.__getattribute__" = some ("BaseException", "__getattribute__") := by decide +kernel
 refine codeAny_call_builtin FB.plain PySem.F.entry_bexc_ga (@check_slot (model prog w) _ _ _ "BaseException.__getattribute__" "BaseException" "__getattribute__" (.ref x) [.str name t] [] _ hk hsp sub (PySem.F.args_bexc_ga _ _) ?_)
 unfold Builtin.«object.__getattribute__»
 refine wpAny_bind (wpAny_pure (wpAny_bind (wpAny_pure (wpAny_bind (L0.at (wpAny_bind (L3.at ?_)))))))
 refine wpAny_pure ?_
 show wpAny _ _ (handedOut v) _ _ _
 rw [handedOut_of hh]
 exact wpAny_pure h
end
section
variable {G : GW} {c : Cx} {ι : Idx} {loc : Loc} {h : H} {n : Nat} {s : Shared}
theorem Rep.storeAny (k : c.Ok G n) (r : Rep G c ι loc h s) {hp : Heap} {tk : Nat} {i : Nat} {x : Str} {m m' : Str → Option Value} (hx : c.names[i]? = some x) (hs : Heap.SameBut c.L s.heap hp)
  (hm : ∀ (i : Nat) (x : Str) (v : V), c.names[i]? = some x → loc[i]? = some (some v) → ∃ u, m x = some u ∧ RV G ι v u) (hn : hp.Ns c.L m') (hmm : ∀ y, y ≠ x → m' y = m y) :
  Rep G c ι (loc.set i none) h { s with heap := hp, toks := tk } := by
 refine ⟨fun b ob e => ?_, ⟨m', hn, fun j z w e1 e2 => ?_⟩, fun q hq => ?_, r.len, r.nd, ?_, ?_, r.dis, r.cel, r.gens, r.drawn, r.os, r.tb⟩
 ·exact (hs.2 b fun q => absurd (Heap.lt_size e) (Nat.not_lt.mpr (q ▸ k.ab c.L List.mem_cons_self))).trans (r.keep b ob e)
 ·by_cases hj : j = i
  ·subst hj
   have hl : j < loc.length := by
    have := (List.getElem?_eq_some_iff.mp e2).1
    simpa using this
   rw [List.getElem?_set_self hl] at e2
   cases e2
  ·rw [List.getElem?_set_ne (Ne.symm hj)] at e2
   obtain ⟨w', f1, f2⟩ := hm j z w e1 e2
   have hne : z ≠ x := by
    intro q; subst q
    obtain ⟨h1, e1'⟩ := List.getElem?_eq_some_iff.mp e1
    obtain ⟨h2, e2'⟩ := List.getElem?_eq_some_iff.mp hx
    exact hj ((List.getElem_inj k.nn).mp (e1'.trans e2'.symm))
   exact ⟨w', by rw [hmm z hne]; exact f1, f2⟩
 ·refine (r.bel q hq).sameBut hs fun z => ?_
  have := (List.nodup_cons.mp k.fd).1
  exact this (z ▸ List.mem_map_of_mem hq)
 ·intro j b l e1 e2
  obtain ⟨ob, y, z⟩ := r.mu j b l e1 e2
  exact ⟨ob, ⟨(hs.2 b fun q => y.2.2 (q ▸ List.mem_cons_self)).trans y.1, y.2⟩, z⟩
 ·intro p hp'
  have y := r.im p hp'
  exact ⟨(hs.2 p.1 fun q => y.2.2 (q ▸ List.mem_cons_self)).trans y.1, y.2⟩
end
theorem isType_of {M : Model} {K : Frag} {h : Heap} {D : Addr} {cd : ClassData} (X : K.In h) (e : clsIn K D = some cd) : Looks M h (isType (.ref D)) true := by
 unfold clsIn at e
 cases hl : K.lookup D with
 | none => rw [hl] at e; cases e
 | some o =>
  rw [hl] at e
  obtain ⟨a, b, d, f⟩ := o
  cases d <;> first | exact (Looks.ld (X _ _ hl)).andThen .now | cases e
section
variable {M : Model} {A : Around} {E : Value → Shared → Prop} {s : Shared} {K : Frag} {x C D : Addr} {ox : Obj} {od : Option Obj} {r : Bool} {Q : Bool → Shared → Prop}
theorem x_match (X : K.In s.heap) (I : InstAt s.heap x ox C od) (ht : typeIn K (.ref D) = some (.type "type")) (hD : subIn K (.ref D) (.type "BaseException") = some true) (h1 : subIn K (.type "type") (.type "tuple") = some false) {cdD : ClassData} (h2 : clsIn K D = some cdD)
  (hr : subIn K (.ref C) (.ref D) = some r) (h : Q r s) : wpAny M A (excMatches (.ref x) (.ref D)) Q E s := by
 have T := looks_typeIn (M := M) X ht
 have i1 : Looks M s.heap (isInstance (.ref D) (.type "tuple")) false := T.andThen (looks_subIn X h1)
 have i2 : Looks M s.heap (isType (.ref D)) true := isType_of X h2
 have i3 : Looks M s.heap (isExcClass (.ref D)) true := i2.andThen (looks_subIn X hD)
 unfold excMatches
 refine wpAny_bind (i1.here ?_)
 rw [if_neg Bool.false_ne_true]
 refine wpAny_bind (wpAny_pure ?_)
 dsimp only
 refine wpAny_bind ?_
 rw [List.forIn_cons]
 refine wpAny_bind (wpAny_bind (i3.here ?_))
 rw [if_neg (by simp)]
 refine wpAny_pure ?_
 dsimp only
 rw [List.forIn_nil]
 refine wpAny_pure (wpAny_bind (I.type.here (wpAny_bind ?_)))
 rw [List.forIn_cons]
 refine wpAny_bind (wpAny_bind ((looks_subIn X hr).here ?_))
 cases r with
 | true => exact wpAny_pure (wpAny_pure (wpAny_pure h))
 | false =>
  refine wpAny_pure ?_
  dsimp only
  rw [List.forIn_nil]
  exact wpAny_pure (wpAny_pure h)
end
section
variable {G : GW} {c : Cx} {ι : Idx} {loc : Loc} {h : H} {n : Nat} {s : Shared} {A : Around}
theorem w_flightA (k : c.Ok G n) {C e : Addr} {kd : Str} {f f' : Option Addr} (rep : Rep G c ι loc h s) (rx : ExcAt G c ι s.heap C kd e (some f)) {Q : Unit → Shared → Prop} {E : Value → Shared → Prop}
  (hq : ∀ hp, Rep G c ι loc h { s with heap := hp } → ExcAt G c ι hp C kd e (some f') → Q () { s with heap := hp }) :
  wpAny (model G.prog G.w) A (setFlight (.ref e) f') Q E s := by
 obtain ⟨oe, vs, dx, es, m, t, he, hc, hdi, hda, hsz, oe', hd, od, hg, T, oT, ts, h1, h2, h3, h4, h5, h6⟩ := rx
 unfold setFlight
 refine wpAny_bind (wpAny_field he hda h1 ?_)
 rw [if_pos (show (Value.ref T != Value.none) = true from by simp)]
 have h3s : 3 < ts.size := (Array.getElem?_eq_some_iff.mp h4).1
 have hTd : dx ≠ T := fun q => by subst q; rw [h2] at hd; cases hd; cases h3
 refine wpAny_setField h2 h3 h3s (hq _ (rep.change k (X := fun a => a = T) (fun a q => q ▸ h5) s.toks (fun b o hb hf hx => by rw [Heap.get?_update_other _ _ (Ne.symm hx)]; exact hb)
   (fun b hb o ho => ⟨o.slots, by rw [Heap.get?_update_other _ _ (show T ≠ b from fun q => h5.2.1 (q ▸ hb))]; exact ho⟩))
  ⟨oe, vs, dx, es, m, t, ?_, hc, hdi, hda, hsz, oe', ?_, od, hg, T, oT.mapFields (·.setIfInBounds 3 (f'.elim Value.none fun a => rawInt a)), ts.setIfInBounds 3 (f'.elim Value.none fun a => rawInt a), h1, ?_, Obj.data_mapFields h3 _, ?_, h5, h6⟩)
 ·show Heap.get? (Heap.update _ T _) e = _
  rw [Heap.get?_update_other _ _ h6]; exact he
 ·show Heap.get? (Heap.update _ T _) dx = _
  rw [Heap.get?_update_other _ _ (Ne.symm hTd)]; exact hd
 ·exact Heap.get?_update_self _ h2 (Obj.isFreed_of_fields (Obj.data_mapFields h3 _))
 ·rw [Array.getElem?_setIfInBounds_self_of_lt h3s]
theorem ExcAt.frame {C e : Addr} {kd : Str} {fl : Option (Option Addr)} {hp hp' : Heap} (x : ExcAt G c ι hp C kd e fl) (kp : ∀ b o, b ∉ c.fas → hp.get? b = some o → hp'.get? b = some o) : ExcAt G c ι hp' C kd e fl := by
 obtain ⟨oe, vs, dx, es, m, t, he, hc, hdi, hda, hsz, oe', hd, od, hg, hfl⟩ := x
 refine ⟨oe, vs, dx, es, m, t, kp _ _ oe'.2.1 he, hc, hdi, hda, hsz, oe', kp _ _ od.2.1 hd, od, hg, ?_⟩
 match fl, hfl with
 | none, q => exact q
 | some f, ⟨T, oT, ts, h1, h2, h3, h4, h5, h6⟩ => exact ⟨T, oT, ts, h1, kp _ _ h5.2.1 h2, h3, h4, h5, h6⟩
end
structure XG (G : GW) (C : Addr) : Prop where
 slot : ∃ B, PySem.Slot B "__getattribute__" "BaseException.__getattribute__"
 ga : findIn G.K (.ref C) "__getattribute__" = some (some (.builtin "BaseException.__getattribute__"))
 gn : findIn G.K (.ref C) "__getattr__" = some none
 cls : ∃ cd, clsIn G.K C = some cd ∧ cd.mro.contains (.type "BaseException") = true
 dic : hasDictIn G.K C = true
 no : findIn G.K (.ref C) "kind" = some none
 ty : typeIn G.K (.ref C) = some (.type "type")
 sub : subIn G.K (.ref C) (.type "BaseException") = some true
section
variable {G : GW} {c : Cx} {ι : Idx} {loc : Loc} {h : H} {n : Nat} {s : Shared} {A : Around}
theorem ExcAt.inst {C e : Addr} {kd : Str} {fl : Option (Option Addr)} {hp : Heap} (x : ExcAt G c ι hp C kd e fl) : ∃ oe es m t, InstAt hp e oe C (some (dictOf es m)) ∧ getL "kind" es = some (some (.str kd t)) := by
 obtain ⟨oe, vs, dx, es, m, t, he, hc, hdi, hda, hsz, oe', hd, od, hg, hfl⟩ := x
 exact ⟨oe, es, m, t, ⟨he, hc, by unfold notCls; rw [hda], by rw [hdi]; exact hd⟩, hg⟩
theorem w_found (k : c.Ok G n) {C e : Addr} {kd : Str} {fl : Option (Option Addr)} (xg : XG G C) (rep : Rep G c ι loc h s) (rx : ExcAt G c ι s.heap C kd e fl) {m : Str → Option Value} (ns : s.heap.Ns c.L m)
  (hm : ∀ (i : Nat) (x : Str) (v : V), c.names[i]? = some x → loc[i]? = some (some v) → ∃ u, m x = some u ∧ RV G ι v u) {z f : Str} {i x : Nat} (hz : c.names[x]? = some z) (hf : c.names[i]? = some f) (hmz : m z = some (.ref e)) {st : Str} {kd1 : Nat} {p1 p2 p3 p4 ap tp : Pos} {q}
  {Q : Flow → Shared → Prop} {E : Value → Shared → Prop}
  (hq : ∀ hp tk ι' m', ι.Le ι' → Rep G c ι' (loc.set i (some (.tup [.str st, .str kd]))) h { s with heap := hp, toks := tk } → hp.Ns c.L m' → (∀ (j : Nat) (y : Str) (v : V), c.names[j]? = some y → (loc.set i (some (.tup [.str st, .str kd])))[j]? = some (some v) → ∃ u, m' y = some u ∧ RV G ι' v u) →
   (∀ y, y ≠ f → m' y = m y) → Q .next { s with heap := hp, toks := tk }) :
  wpAny (model G.prog G.w) A (execs [.Assign [.Name f p1] (.Tuple [.Constant (.str st) kd1 p2, .Attribute (.Name z p3) "kind" p4] q tp) ap] c.env) Q E s := by
 obtain ⟨kz1, kz2⟩ := k.nm z (List.mem_of_getElem? hz)
 obtain ⟨kf1, kf2⟩ := k.nm f (List.mem_of_getElem? hf)
 obtain ⟨oe, es, mm, t, I, hg⟩ := rx.inst
 obtain ⟨B, FB⟩ := xg.slot
 obtain ⟨cd, hcd, hb⟩ := xg.cls
 obtain ⟨mF, FF, _⟩ := rep.fr k
 have X : G.K.In s.heap := k.X.keeps FF.keep
 refine wpAny_execs_cons ?_
 rw [arm_exec_Assign]
 refine wpAny_bind (wpAny_standAt ?_)
 refine wpAny_bind (m := swapsWithSole _ _ _ _) (wpAny_pure ?_)
 rw [if_neg Bool.false_ne_true]
 refine wpAny_bind ?_
 rw [arm_eval_Tuple, star_plain (by rfl)]
 refine wpAny_bind (wpAny_standAt (wpAny_bind ?_))
 refine spliced_cons (wpAny_mkText (spliced_cons ?_))
 rw [arm_eval_Attribute, att_base (by rfl)]
 refine wpAny_bind (wpAny_Name (wpAny_loadName_local k.hk kz1 ns hmz ?_) kz2)
 refine wpAny_bind (wpAny_standAt (wpAny_bind (wpAny_holding ?_)))
 refine x_get FB (s := { s with toks := s.toks + 1 }) X I xg.ga xg.gn hcd hb (findObj_own xg.dic xg.no rfl (by show lookIn "kind" (dictOf es mm) = _; rw [lookIn_dict, hg])) rfl ?_
 refine wpAny_bind (wpAny_letTemporaryGo (wpAny_pure (spliced_nil ?_)))
 refine wpAny_newTuple ?_ (by show (2 : Nat) ≤ sizeLine; unfold sizeLine; omega)
 obtain ⟨rep1, le1⟩ := rep.addI (tk := s.toks + 1 + 1) (a := s.heap.objs.size) (o := tupO [.str st s.toks, .str kd t] 0) (fun b o e => Heap.get?_push_of_some _ e) (Heap.get?_push_size _ rfl) (rep.own (Nat.le_refl _))
 refine wpAny_bind (m := swappedStores _ _ _) (wpAny_pure ?_)
 show wpAny _ _ (do assign (.Name f p1) c.env _; pure Flow.next) _ E _
 rw [arm_assign_Name]
 have ns1 : (s.heap.push { cls := .type "tuple", data := .seq [Value.str st s.toks, .str kd t].toArray }).Ns c.L m := ns.push _
 have hv : RV G ⟨ι.ρ, (s.heap.objs.size, tupO [.str st s.toks, .str kd t] 0) :: ι.imm⟩ (.tup [.str st, .str kd]) (.ref s.heap.objs.size) := .tup (.head _) (.cons (.str _ _) (.cons (.str _ _) .nil))
 refine wpAny_bind (wpAny_bind (wpAny_standAt (wpAny_bindName (wpAny_storeName_local kf1 ns1 (fun h' hn hs => ?_) (by show (c.scope.kind == .class || (c.scope.kind == .module && c.L != mainGlobals)) = false; rw [k.hk]; rfl)))))
 refine wpAny_pure (wpAny_execs_nil ?_)
 have hm1 : ∀ (i : Nat) (x : Str) (v : V), c.names[i]? = some x → loc[i]? = some (some v) → ∃ u, m x = some u ∧ RV G ⟨ι.ρ, (s.heap.objs.size, tupO [.str st s.toks, .str kd t] 0) :: ι.imm⟩ v u := fun i x v e1 e2 => (hm i x v e1 e2).imp fun u z => ⟨z.1, z.2.mono le1⟩
 have rep2 := rep1.store (tk := s.toks + 1 + 1 + 1) k hf hs ⟨m, hm1, hn⟩ hv
 refine hq _ _ _ _ le1 rep2 hn (fun j y v e1 e2 => ?_) (fun y hy => if_neg hy)
 by_cases hj : j = i
 ·subst hj
  rw [hf] at e1; cases e1
  have hl : j < loc.length := by
   have := (List.getElem?_eq_some_iff.mp e2).1
   simpa using this
  rw [List.getElem?_set_self hl] at e2
  cases e2
  exact ⟨_, by simp, hv⟩
 ·rw [List.getElem?_set_ne (Ne.symm hj)] at e2
  obtain ⟨u, a, b⟩ := hm1 j y v e1 e2
  have hne : y ≠ f := by
   intro q; subst q
   obtain ⟨h1, e1'⟩ := List.getElem?_eq_some_iff.mp e1
   obtain ⟨h2, e2'⟩ := List.getElem?_eq_some_iff.mp hf
   exact hj ((List.getElem_inj k.nn).mp (e1'.trans e2'.symm))
  exact ⟨u, by rw [if_neg hne]; exact a, b⟩
end
section
variable {G : GW} {c : Cx} {ι : Idx} {loc : Loc} {h : H} {n : Nat} {s : Shared} {A : Around}
theorem w_gone (k : c.Ok G n) (rep : Rep G c ι loc h s) {m : Str → Option Value} (ns : s.heap.Ns c.L m) (hm : ∀ (i : Nat) (x : Str) (v : V), c.names[i]? = some x → loc[i]? = some (some v) → ∃ u, m x = some u ∧ RV G ι v u)
  {x : Nat} {z : Str} (hz : c.names[x]? = some z) {pos : Pos} {Q : Unit → Shared → Prop} {E : Value → Shared → Prop} (hq : ∀ hp tk, Rep G c ι (loc.set x none) h { s with heap := hp, toks := tk } → Q () { s with heap := hp, toks := tk }) :
  wpAny (model G.prog G.w) A (do bindName c.env z .none; unbindBehindTheSuite c.env z pos) Q E s := by
 obtain ⟨kz1, kz2⟩ := k.nm z (List.mem_of_getElem? hz)
 have hp : (c.env.scope.kind == .class || (c.env.scope.kind == .module && c.env.locals != c.env.globals)) = false := by show (c.scope.kind == .class || (c.scope.kind == .module && c.L != mainGlobals)) = false; rw [k.hk]; rfl
 refine wpAny_bind (wpAny_bindName (wpAny_storeName_local kz1 ns (fun h₁ hn₁ hs₁ => ?_) hp))
 unfold unbindBehindTheSuite
 refine wpAny_onRaise ?_
 refine wpAny_unbindName_local kz1 hn₁ (v := .none) (by simp) hp fun h2 u hn2 hs2 => ?_
 exact hq h2 _ (rep.storeAny k hz (hs₁.trans hs2) hm hn2 fun y hy => by simp [hy])
end
section
variable {G : GW} {O : Orc} {Γ : CT} {n N : Nat} {c : Cx} {ι : Idx} {loc : Loc} {h : H} {s : Shared}
theorem l_ev (cs : List Nat) (i : Nat) (loc : Loc) (h : H) : (∃ v, ev O cs (.l i) loc h = .ok v h) ∨ ev O cs (.l i) loc h = .bad := by
 rw [show ev O cs (.l i) loc h = (match loc[i]? with
  | some (some v) => .ok v h
  | _ => .bad) from rfl]
 cases loc[i]? with
 | none => exact .inr rfl
 | some w => cases w with
  | none => exact .inr rfl
  | some v => exact .inl ⟨v, rfl⟩
theorem ce_ev (cs : List Nat) (j : Nat) (loc : Loc) (h : H) : (∃ v, ev O cs (.ce j) loc h = .ok v h) ∨ ev O cs (.ce j) loc h = .bad := by
 rw [show ev O cs (.ce j) loc h = (match cs[j]? with
  | some i => match h[i]? with
   | some (.cel (some v)) => .ok v h
   | _ => .bad
  | none => .bad) from rfl]
 cases cs[j]? with
 | none => exact .inr rfl
 | some i =>
  dsimp only
  cases h[i]? with
  | none => exact .inr rfl
  | some o => cases o with
   | cel w => cases w with
    | none => exact .inr rfl
    | some v => exact .inl ⟨v, rfl⟩
   | _ => exact .inr rfl
theorem nm_ev {x : Str} (cs : List Nat) (loc : Loc) (h : H) : (∃ v, ev O cs (cName Γ x) loc h = .ok v h) ∨ ev O cs (cName Γ x) loc h = .bad := by
 unfold cName
 cases idx x Γ.loc 0 with
 | some i => exact l_ev cs i loc h
 | none => cases idx x Γ.cel 0 with
  | some j => exact ce_ev cs j loc h
  | none => cases isGlo Γ x with
   | false => exact .inr rfl
   | true => cases Γ.gl.lookup x with
    | none => exact .inr rfl
    | some i => exact .inl ⟨_, rfl⟩
theorem Res.bind_exc {α β : Type} {r : Res α} {f : α → H → Res β} {C : Nat} {k : Str} {h : H} (e : r.bind f = .exc C k h) : r = .exc C k h ∨ ∃ a h', r = .ok a h' ∧ f a h' = .exc C k h := by
 cases r with
 | ok a h' => exact .inr ⟨a, h', rfl, e⟩
 | exc _ _ _ => cases e; exact .inl rfl
 | bad => cases e
theorem nm_noexc (cs : List Nat) (es : List Expr) (he : es.all isNm = true) (loc : Loc) (h : H) (C : Nat) (kd : Str) (h' : H) : evs O cs (cEs Γ es) loc h ≠ .exc C kd h' := by
 induction es generalizing h with
 | nil => intro q; cases q
 | cons e r ih =>
  obtain ⟨h1, h2⟩ := Bool.and_eq_true_iff.mp he
  obtain ⟨x, p, rfl⟩ : ∃ x p, e = .Name x p := by cases e with
   | Name x p => exact ⟨x, p, rfl⟩
   | _ => cases h1
  intro q
  rcases Res.bind_exc (r := ev O cs (cName Γ x) loc h) q with q | ⟨v, h1, q, q2⟩
  ·rcases nm_ev (O := O) (Γ := Γ) (x := x) cs loc h with ⟨v, e⟩ | e
   ·rw [e] at q; cases q
   ·rw [e] at q; cases q
  ·rcases Res.bind_exc (r := evs O cs (cEs Γ r) loc h1) q2 with q2 | ⟨_, _, _, q2⟩
   ·exact ih h2 h1 q2
   ·cases q2
theorem w_callN (gt : GT G Γ) (oc : OrcOk G O n) (he : ∀ e, PX G O Γ n e) (k : c.Ok G (4 * n + 3)) (ok : Γ.Ok c) (rep : Rep G c ι loc h s) {x : Str} {fp cp : Pos} {args : List Expr} {f : Nat} (hg : isGlo Γ x = true) (hf : Γ.fns.lookup x = some f) (hp : plainArgs args = true) (hn : args.all isNm = true)
  {r : Res V} (hr : (evs O c.cs (cEs Γ args) loc h).bind (fun vs h => O.fn f vs h) = r) {Q : Value → Shared → Prop} {E : Value → Shared → Prop}
  (hok : ∀ v h' ι' s' u, r = .ok v h' → ι.Le ι' → Rep G c ι' loc h' s' → RV G ι' v u → Q u s')
  (hex : ∀ C kd h' ι' s' e, r = .exc C kd h' → ι.Le ι' → RepXL G c ι' loc h' C kd e s' → E (.ref e) s') (hnb : r ≠ .bad) :
  wpAny (model G.prog G.w) c.A (eval (.Call (.Name x fp) args [] cp) c.env) Q E s := by
 subst hr
 obtain ⟨h1, h2⟩ := gt.fns x f hf
 obtain ⟨hs, _⟩ := plain_no hp
 rw [show eval (.Call (.Name x fp) args [] cp) c.env = (do callWith cp (← eval (.Name x fp) c.env) [] (backTo cp (starEach args c.env)) (backToKw cp (keywordEach [] c.env))) from rfl, star_plain hs]
 refine wpAny_bind (w_glo k ok hg h1 rep ?_)
 refine callWith_of (P := G.K.In) (by rw [map_plain]; rfl) (keeps_K h2) ?_
 have key := s_args args hs (fun e _ => (he e).1.1) c ι loc h k ok s rep (fun us s₁ => G.K.In s₁.heap ∧ wpAny (model G.prog G.w) c.A (call (.ref (G.fa f)) us) Q E s₁) E
  (fun vs h' ι' s' us e le rep' hr => by
   refine ⟨by obtain ⟨m, F, _⟩ := rep'.fr k; exact k.X.keeps F.keep, ?_⟩
   rw [e] at hok hex hnb
   refine wpAny_call (oc.fn f c ι' loc h' vs us (k.le (by omega)) hr s' rep' _ (fun v h2 ι2 s2 u e2 le2 rep2 hr2 => ?_) (fun C kd h2 ι2 s2 e1 e2 le2 rx => ?_) hnb)
   ·exact hok v h2 ι2 s2 u e2 (le.trans le2) rep2 hr2
   ·exact hex C kd h2 ι2 s2 e1 e2 (le.trans le2) rx)
  (fun C' kd h' ι' s' y e le rx => absurd e (nm_noexc c.cs args hn loc h _ _ _)) (fun q => hnb (by rw [q]; rfl))
 cases args with
 | nil =>
  refine evalArgs_nil3 ⟨by obtain ⟨m, F, _⟩ := rep.fr k; exact k.X.keeps F.keep, ?_⟩
  exact wpAny_call (oc.fn f c ι loc h [] [] (k.le (by omega)) RVs.nil s rep _ hok hex hnb)
 | cons a r => exact evalArgs_plain key
structure XGs (G : GW) (Γ : CT) : Prop where
 nm : ∀ x D, Γ.exc.lookup x = some D → nsIn G.K mainGlobals x = some (some (.ref D)) ∧ XG G D
 sub : ∀ x D y C, Γ.exc.lookup x = some D → Γ.exc.lookup y = some C → subIn G.K (.ref C) (.ref D) = some (C == D)
 tt : subIn G.K (.type "type") (.type "tuple") = some false
theorem hs_exc {x i : Nat} {hs : List ExceptHandler} {hl : List (Nat × Str)} (e : cHs Γ x i hs = some hl) {C : Nat} {st : Str} (e2 : hl.lookup C = some st) : ∃ y, Γ.exc.lookup y = some C := by
 induction hs generalizing hl with
 | nil => cases e; cases e2
 | cons a r ih =>
  obtain ⟨q, _, e3⟩ := Option.bind_eq_some_iff.mp e
  cases ho : hOk Γ x i q.1 with
  | false => rw [ho] at e3; cases e3
  | true =>
   rw [ho, if_pos rfl] at e3
   obtain ⟨D, hD, e4⟩ := Option.bind_eq_some_iff.mp e3
   obtain ⟨hl2, e5, e6⟩ := Option.map_eq_some_iff.mp e4
   subst e6
   rw [List.lookup_cons] at e2
   by_cases w : C = D
   ·subst w; exact ⟨_, hD⟩
   ·rw [beq_eq_false_iff_ne.mpr w] at e2
    exact ih e5 e2
end
section
variable {G : GW} {c : Cx} {ι : Idx} {loc : Loc} {h : H} {n : Nat} {s : Shared}
theorem w_entryL (k : c.Ok G n) (rep : Rep G c ι loc h s) {C e dx : Addr} {kd : Str} {vs : Array Value} {sl : Array (Option Value)} {es : List DictEntry} {m : Nat} {t : Tok} {head : Value} {hn : Bool}
  (he : s.heap.get? e = some ⟨.ref C, some dx, .fields vs, sl⟩) (hsz : vs.size = 6) (oe : Own c ι e) (hd : s.heap.get? dx = some (dictOf es m)) (od : Own c ι dx) (hg : getL "kind" es = some (some (.str kd t)))
  {Q : Unit → Shared → Prop} {E : Value → Shared → Prop} (hq : ∀ hp, Rep G c ι loc h { s with heap := hp } → ExcAt G c ι hp C kd e (some (some c.L)) → Q () { s with heap := hp }) :
  wpAny (model G.prog G.w) c.A (do setField (.ref e) 1 (← EntryCells.newEntry head (← frameOf c.env) .none (rawInt c.L) .none (← entryPlaceOf c.L hn))) Q E s := by
 obtain ⟨ff, fe⟩ := rep.frames k
 have nf : ∀ a, Own c ι a → a ∉ (c.env :: c.outer).filterMap (·.frame) := fun a o => by rw [fe]; exact o.2.1
 refine wpAny_bind (wpAny_frameOf_fun (base := c.g) k.fr ff rfl fun h₁ hs₁ => ?_)
 refine wpAny_bind (wpAny_entryPlaceOf fun pl hpl => ?_)
 unfold EntryCells.newEntry newFields
 refine wpAny_bind (wpAny_newObj_type ?_ (hpl.sizeOk5 _ _ _ _ _))
 have he₁ := (hs₁.2.1 e (nf e oe)).trans he
 have hd₁ := (hs₁.2.1 dx (nf dx od)).trans hd
 have hne : e ≠ dx := fun q => by subst q; rw [he] at hd; cases hd
 generalize hT : ([head, .ref c.L, .none, rawInt c.L, .none] ++ (if pl.isEmpty then List.replicate 6 Value.none else pl)).toArray = ts
 have hts : ts[3]? = some (rawInt c.L) := by rw [← hT]; rfl
 have oT : Own c ι h₁.objs.size := rep.own (by rw [hs₁.1]; exact Nat.le_refl _)
 have hTe : h₁.objs.size ≠ e := Nat.ne_of_gt (Heap.lt_size he₁)
 have hTd : h₁.objs.size ≠ dx := Nat.ne_of_gt (Heap.lt_size hd₁)
 have he₂ := Heap.get?_push_of_some (h := h₁) { cls := .type "traceback", dict := none, data := .fields ts } he₁
 refine wpAny_setField he₂ rfl (by rw [hsz]; decide) (hq _ (rep.change k (X := fun a => a = e) (fun a q => q ▸ oe) s.toks (fun b o hb hf hx => ?_) (fun b hb o ho => ?_)) ?_)
 ·rw [Heap.get?_update_other _ _ (Ne.symm hx)]
  refine Heap.get?_push_of_some _ ?_
  exact (hs₁.2.1 b (by rw [fe]; exact hf)).trans hb
 ·obtain ⟨sl', e'⟩ := hs₁.2.2 b o ho
  exact ⟨sl', by
   rw [Heap.get?_update_other _ _ (show e ≠ b from fun q => oe.2.1 (q ▸ hb))]
   exact Heap.get?_push_of_some _ e'⟩
 ·refine ⟨_, vs.setIfInBounds 1 (.ref h₁.objs.size), dx, es, m, t, Heap.get?_update_self _ he₂ rfl, rfl, rfl, rfl, by simp [hsz], oe, ?_, od, hg, h₁.objs.size, { cls := .type "traceback", dict := none, data := .fields ts }, ts, ?_, ?_, rfl, hts, oT, hTe⟩
  ·show Heap.get? (Heap.update _ e _) dx = _
   rw [Heap.get?_update_other _ _ hne]
   exact Heap.get?_push_of_some _ hd₁
  ·simp [hsz]
  ·show Heap.get? (Heap.update _ e _) _ = _
   rw [Heap.get?_update_other _ _ (Ne.symm hTe)]
   exact Heap.get?_push_size _ rfl
theorem w_noteL (k : c.Ok G n) {C e : Addr} {kd : Str} (rx : RepXL G c ι loc h C kd e s) {Q : Unit → Shared → Prop} {E : Value → Shared → Prop} (hq : ∀ hp, Rep G c ι loc h { s with heap := hp } → ExcAt G c ι hp C kd e (some (some c.L)) → Q () { s with heap := hp }) :
  wpAny (model G.prog G.w) c.A (noteFrame (.ref e) c.env) Q E s := by
 obtain ⟨fl, rep, ⟨oe, vs, dx, es, m, t, he, hc, hdi, hda, hsz, oe', hd, od, hg, hfl⟩, hcase⟩ := rx
 obtain ⟨cls, dict, data, sl⟩ := oe
 simp only at hc hdi hda
 subst hc hdi hda
 unfold noteFrame
 rcases hcase with rfl | rfl | rfl
 ·show wpAny _ _ (field (.ref e) 1 >>= _) _ _ _
  refine wpAny_bind (wpAny_field he rfl hfl ?_)
  rw [if_neg (by decide)]
  exact w_entryL k rep he hsz oe' hd od hg hq
 ·obtain ⟨T, oT, ts, h1, h2, h3, h4, h5, h6⟩ := hfl
  show wpAny _ _ (field (.ref e) 1 >>= _) _ _ _
  refine wpAny_bind (wpAny_field he rfl h1 ?_)
  rw [if_pos (show (Value.ref T != Value.none) = true from by simp)]
  refine wpAny_bind (wpAny_field h2 h3 h4 ?_)
  rw [if_neg (by simp [rawInt])]
  have h3s : 3 < ts.size := (Array.getElem?_eq_some_iff.mp h4).1
  refine wpAny_bind (wpAny_setField h2 h3 h3s ?_)
  have hTd : dx ≠ T := fun q => by subst q; rw [h2] at hd; cases hd; cases h3
  have rep' := rep.change k (X := fun a => a = T) (fun a q => q ▸ h5) (hp := s.heap.update T (Obj.mapFields (·.setIfInBounds 3 .none))) s.toks
   (fun b o hb hf hx => by rw [Heap.get?_update_other _ _ (Ne.symm hx)]; exact hb)
   (fun b hb o ho => ⟨o.slots, by rw [Heap.get?_update_other _ _ (show T ≠ b from fun q => h5.2.1 (q ▸ hb))]; exact ho⟩)
  exact w_entryL k rep' (by show Heap.get? (Heap.update _ T _) e = _; rw [Heap.get?_update_other _ _ h6]; exact he) hsz oe' (by show Heap.get? (Heap.update _ T _) dx = _; rw [Heap.get?_update_other _ _ (Ne.symm hTd)]; exact hd) od hg
   fun hp r r2 => hq hp r r2
 ·obtain ⟨T, oT, ts, h1, h2, h3, h4, h5, h6⟩ := hfl
  show wpAny _ _ (field (.ref e) 1 >>= _) _ _ _
  refine wpAny_bind (wpAny_field he rfl h1 ?_)
  rw [if_pos (show (Value.ref T != Value.none) = true from by simp)]
  refine wpAny_bind (wpAny_field h2 h3 h4 ?_)
  rw [if_pos (by simp)]
  exact wpAny_pure (hq s.heap rep ⟨_, vs, dx, es, m, t, he, rfl, rfl, rfl, hsz, oe', hd, od, hg, ⟨T, oT, ts, h1, h2, h3, h4, h5, h6⟩⟩)
end
section
variable {G : GW} {O : Orc} {Γ : CT} {n N : Nat} {c : Cx}
theorem set3 {α : Type} (l : List α) (x i : Nat) (a b : α) : ((l.set x a).set i b).set x a = (l.set i b).set x a := by
 by_cases q : x = i
 ·subst q; simp
 ·rw [List.set_comm a b q, List.set_set]
inductive HdS (Γ : CT) (x i : Nat) (a : ExceptHandler) (r : List ExceptHandler) (hl : List (Nat × Str)) : Prop
 | mk (cN y f st : Str) (pos cp fp p2 zp ap tp qp : Pos) (kd1 kp D : Nat) (hl2 : List (Nat × Str)) (ea : a = .ExceptHandler (some (.Name cN cp)) (some y) [.Assign [.Name f fp] (.Tuple [.Constant (.str st) kd1 p2, .Attribute (.Name y zp) "kind" ap] kp tp) qp] pos)
  (hg : isGlo Γ cN = true) (hy : idx y Γ.loc 0 = some x) (hf : idx f Γ.loc 0 = some i) (hD : Γ.exc.lookup cN = some D) (hr : cHs Γ x i r = some hl2) (hh : hl = (D, st) :: hl2)
theorem hd_shape {x i : Nat} {a : ExceptHandler} {r : List ExceptHandler} {hl : List (Nat × Str)} (e0 : cHs Γ x i (a :: r) = some hl) : HdS Γ x i a r hl := by
 obtain ⟨⟨⟨cN, y, f, st', z, kk⟩, hv⟩, _, e2⟩ := Option.bind_eq_some_iff.mp e0
 obtain ⟨pos, cp, fp, p2, zp, ap, tp, qp, kd1, kp, ea⟩ := hv
 dsimp only at ea e2
 cases ho : hOk Γ x i ⟨cN, y, f, st', z, kk⟩ with
 | false => rw [ho] at e2; cases e2
 | true =>
  rw [ho, if_pos rfl] at e2
  obtain ⟨ho1, hk⟩ := and2 ho
  obtain ⟨ho2, hf⟩ := and2 ho1
  obtain ⟨ho3, hz⟩ := and2 ho2
  obtain ⟨hg, hy⟩ := and2 ho3
  obtain rfl := eq_of_beq hk
  have ny := idx_get (eq_of_beq hy)
  have nz := idx_get (eq_of_beq hz)
  obtain rfl : y = z := by rw [ny] at nz; exact Option.some.inj nz
  obtain ⟨D, hD, e3⟩ := Option.bind_eq_some_iff.mp e2
  obtain ⟨hl2, hr, e4⟩ := Option.map_eq_some_iff.mp e3
  exact ⟨cN, y, f, st', pos, cp, fp, p2, zp, ap, tp, qp, kd1, kp, D, hl2, ea, hg, eq_of_beq hy, eq_of_beq hf, hD, hr, e4.symm⟩
theorem w_handlers (xg : XGs G Γ) (k : c.Ok G n) (ok : Γ.Ok c) {x i : Nat} {ι : Idx} {loc : Loc} {h : H} (hs : List ExceptHandler) {hl : List (Nat × Str)} (e0 : cHs Γ x i hs = some hl) {C : Nat} {st : Str} (e1 : hl.lookup C = some st)
  {e : Addr} {kd : Str} {s : Shared} (rep : Rep G c ι loc h s) (rx : ExcAt G c ι s.heap C kd e (some none)) {Q : Flow → Shared → Prop} {E : Value → Shared → Prop}
   (hq : ∀ hp tk ι', ι.Le ι' → Rep G c ι' ((loc.set i (some (.tup [.str st, .str kd]))).set x none) h { s with heap := hp, toks := tk } → Q .next { s with heap := hp, toks := tk }) :
   wpAny (model G.prog G.w) c.A (handleBy (.ref e) c.env hs) Q E s := by
 induction hs generalizing hl with
 | nil => cases e0; cases e1
 | cons a r ih =>
  obtain ⟨yC, hyC⟩ := hs_exc e0 e1
  obtain ⟨cN, y, f, st', pos, cp, fp, p2, zp, ap, tp, qp, kd1, kp, D, hl2, ea, hg, hy, hf, hD, hr, hh⟩ := hd_shape e0
  subst ea hh
  have ny := idx_get hy
  have nf := idx_get hf
  rw [ok.loc] at ny nf
  obtain ⟨hn, xD⟩ := xg.nm _ _ hD
  obtain ⟨mF, FF, _⟩ := rep.fr k
  have X : G.K.In s.heap := k.X.keeps FF.keep
  obtain ⟨g1, g2⟩ := glo_kind ok hg
  obtain ⟨oe, es, mm, t, I, _⟩ := rx.inst
  obtain ⟨cdD, hcd, _⟩ := xD.cls
  refine wpAny_handleBy_cons (codeAny_handlers_test (nameX_K FF k.X (topRead_of k.T) hn ?_ k.hk g1 g2)) (by intro q; cases q)
  refine x_match X I xD.ty xD.sub xg.tt hcd (xg.sub _ _ _ _ hD hyC) ?_
  rw [List.lookup_cons] at e1
  by_cases q : C = D
  ·subst q
   rw [beq_self_eq_true] at e1 ⊢
   cases e1
   show codeAny _ _ (.handlers (.ref e) [.ExceptHandler none (some y) _ pos] c.env) _ s
   refine codeAny_handlers_suite_as ?_
   refine w_flightA (f' := none) k rep rx fun hp rep1 rx1 => ?_
   obtain ⟨ky1, ky2⟩ := k.nm y (List.mem_of_getElem? ny)
   obtain ⟨m, ns, hm⟩ := rep1.ns
   refine wpAny_storeName_local ky1 ns (fun h2 hn2 hs2 => ?_) (by show (c.scope.kind == .class || (c.scope.kind == .module && c.L != mainGlobals)) = false; rw [k.hk]; rfl)
   have rep2 := rep1.storeAny (tk := s.toks + 1) k ny hs2 hm hn2 (fun z hz => if_neg hz)
   have rx2 : ExcAt G c ι h2 C kd e (some none) := rx1.frame fun b o hb ho => (hs2.2 b fun q => hb (by rw [show b = c.L from q]; exact List.mem_cons_self)).trans ho
   have hm2 : ∀ (i : Nat) (x' : Str) (v : V), c.names[i]? = some x' → (loc.set x none)[i]? = some (some v) → ∃ u, (if x' = y then some (Value.ref e) else m x') = some u ∧ RV G ι v u := fun j z v a1 a2 => by
    by_cases hj : j = x
    ·subst hj
     have hl : j < loc.length := by
      have := (List.getElem?_eq_some_iff.mp a2).1
      rwa [List.length_set] at this
     rw [List.getElem?_set_self hl] at a2
     cases a2
    ·rw [List.getElem?_set_ne (Ne.symm hj)] at a2
     obtain ⟨u, b1, b2⟩ := hm j z v a1 a2
     have hne : z ≠ y := by
      intro q; subst q
      obtain ⟨h1, e1'⟩ := List.getElem?_eq_some_iff.mp a1
      obtain ⟨h2, e2'⟩ := List.getElem?_eq_some_iff.mp ny
      exact hj ((List.getElem_inj k.nn).mp (e1'.trans e2'.symm))
     exact ⟨u, by rw [if_neg hne]; exact b1, b2⟩
   refine w_found k xD rep2 rx2 hn2 hm2 ny nf (if_pos rfl) fun hp3 tk3 ι' m' le3 rep3 ns3 hm3 _ => ?_
   show wpAny _ c.A (do bindName c.env y .none; unbindBehindTheSuite c.env y pos) _ _ _
   refine w_gone k rep3 ns3 hm3 ny fun hp4 tk4 rep4 => ?_
   rw [set3] at rep4
   exact hq hp4 tk4 ι' le3 rep4
  ·rw [beq_eq_false_iff_ne.mpr q] at e1 ⊢
   exact ih hr e1
theorem cE_call {x : Str} {fp cp : Pos} {args : List Expr} {f : Nat} (hg : isGlo Γ x = true) (hp : plainArgs args = true) (hf : Γ.fns.lookup x = some f) : cE Γ (.Call (.Name x fp) args [] cp) = .call f (cEs Γ args) := by
 show (if ([] : List Keyword).isEmpty && plainArgs args then cCall Γ x (cEs Γ args) _ else Ex.stop) = _
 rw [hp]
 show cCall Γ x (cEs Γ args) _ = _
 unfold cCall
 rw [if_pos hg, hf]
inductive TrS (Γ : CT) (e : Expr) : Prop
 | mk (x : Str) (fp cp : Pos) (args : List Expr) (f : Nat) (he : e = .Call (.Name x fp) args [] cp) (hg : isGlo Γ x = true) (hf : Γ.fns.lookup x = some f) (hp : plainArgs args = true) (hn : args.all isNm = true)
theorem any_some {α : Type} {o : Option α} {f : α → Bool} (h : o.any f = true) : ∃ x, o = some x ∧ f x = true := by
 cases o with
 | none => cases h
 | some x => exact ⟨x, rfl, h⟩
theorem tr_shape {e : Expr} (h : trShape Γ e = true) : TrS Γ e := by
 obtain ⟨⟨⟨f, args, ks, cp⟩, hC⟩, _, h1⟩ := any_some h
 obtain ⟨⟨⟨x, fp⟩, hX⟩, _, h2⟩ := any_some h1
 dsimp only at hC hX h2
 subst hC hX
 obtain ⟨h2, hn⟩ := Bool.and_eq_true_iff.mp h2
 obtain ⟨h2, hp⟩ := Bool.and_eq_true_iff.mp h2
 obtain ⟨h2, hf⟩ := Bool.and_eq_true_iff.mp h2
 obtain ⟨hk, hg⟩ := Bool.and_eq_true_iff.mp h2
 obtain rfl := List.isEmpty_iff.mp hk
 obtain ⟨fi, hfi⟩ := Option.isSome_iff_exists.mp hf
 exact ⟨x, fp, cp, args, fi, rfl, hg, hfi, hp, hn⟩
theorem ps_try (gt : GT G Γ) (oc : OrcOk G O n) (xg : XGs G Γ) (he : ∀ e, PX G O Γ n e) (b : List Stmt) (hs : List ExceptHandler) (o f : List Stmt) (pos : Pos) : PS G O Γ n N (.Try b hs o f pos) := fun c ι loc h k ok => by
 refine Sim.xIte (b := o.isEmpty && f.isEmpty) fun hof => ?_
 obtain ⟨h1, h2⟩ := Bool.and_eq_true_iff.mp hof
 obtain rfl := List.isEmpty_iff.mp h1
 obtain rfl := List.isEmpty_iff.mp h2
 refine Sim.xElim fun s0 _ => Sim.xElim fun e0 _ => Sim.xIte (b := trShape Γ e0.1.1) fun hsh => Sim.xElim fun p hp0 => Sim.xElim fun hl hcs => ?_
 obtain ⟨s1, hs1⟩ := s0
 obtain ⟨⟨e1, ep⟩, hE⟩ := e0
 obtain ⟨x, i⟩ := p
 dsimp only at hs1 hE hsh hp0 hcs
 subst hs1 hE
 obtain ⟨fn, fp, cp, args, fi, rfl, hg, hfi, hp, hn⟩ := tr_shape hsh
 rw [show (⟨(Expr.Call (.Name fn fp) args [] cp, ep), rfl⟩ : { q : Expr × Pos // Stmt.Expr (Expr.Call (.Name fn fp) args [] cp) ep = .Expr q.1 q.2 }).1.1 = Expr.Call (.Name fn fp) args [] cp from rfl, cE_call hg hp hfi]
 show Sim G c ι loc h lcF (RF G) _ (match (evs O c.cs (cEs Γ args) loc h).bind (fun vs h => O.fn fi vs h) with
  | .ok _ h => .ok (.next, loc) h
  | .bad => .bad
  | .exc C k h => (hl.lookup C).elim .bad fun s => .ok (.next, (loc.set i (some (.tup [.str s, .str k]))).set x none) h)
 intro s rep Q E hok hex hnb
 cases hs with
 | nil => cases hp0
 | cons h0 hs =>
  rw [arm_exec_Try]
  refine wpAny_bind (wpAny_standAt (wpAny_tryStmt_except (wpAny_execs_cons ?_)))
  rw [arm_exec_Expr]
  have hi : interactive c.env = false := by
   unfold interactive
   rw [show c.env.scope.kind = .function from k.hk]
   rfl
  rw [hi, sw_none (by rfl)]
  refine wpAny_bind (wpAny_standAt (wpAny_bind (wpAny_pure ?_)))
  refine wpAny_bind (w_callN gt oc he k ok rep hg hfi hp hn rfl (fun v h' ι' s' u e1 le rep' hu => ?_) (fun C kd h' ι' s' e' e1 le rx => ?_) (fun q => hnb (by rw [q])))
  ·refine wpAny_dropValue (wpAny_execs_nil (wpAny_execs_nil ?_))
   exact hok (.next, loc) h' ι' s' .next (by rw [e1]) le rep' rfl
  ·refine w_noteL k rx fun hp rep1 ex1 => w_flightA (f' := none) k rep1 ex1 fun hp2 rep2 ex2 => ?_
   rw [e1] at hok hnb
   cases hlk : hl.lookup C with
   | none => exact absurd (by show Option.elim _ _ _ = _; rw [hlk]; rfl) hnb
   | some st => exact w_handlers xg k ok _ hcs hlk rep2 ex2 fun hp3 tk3 ι3 le3 rep3 => hok (.next, (loc.set i (some (.tup [.str st, .str kd]))).set x none) h' ι3 _ .next (by show Option.elim _ _ _ = _; rw [hlk]; rfl) (le.trans le3) rep3 rfl
end
theorem clo_for {sc : Scope} {env : Env} {fr : Str} {a : Addr} (hf : freeNames sc = [fr]) (hl : env.cells.lookup fr = some a) : closureFor sc env = pure [(fr, a)] := by
 have key : ∀ (l : List (Str × NameKind)) (acc : List (Str × Addr)), (∀ x ∈ (l.filter fun p => p.2 == .free).map (·.1), x = fr) →
   (forIn l acc fun (p : Str × NameKind) (r : List (Str × Addr)) => (if (p.2 == NameKind.free) = true then do
    let a ← cellOf env p.1
    pure (ForInStep.yield ((p.1, a) :: r)) else pure (ForInStep.yield r) : Sem (ForInStep (List (Str × Addr))))) = (pure (((l.filter fun p => p.2 == .free).map fun p => (fr, a)).reverse ++ acc) : Sem (List (Str × Addr))) := by
  intro l
  induction l with
  | nil => intro acc _; rfl
  | cons p r ih =>
   intro acc hp
   rw [List.forIn_cons]
   by_cases q : (p.2 == NameKind.free) = true
   ·rw [if_pos q]
    have e : p.1 = fr := hp _ (by rw [List.filter_cons, if_pos q]; exact List.mem_cons_self)
    have : cellOf env p.1 = pure a := by unfold cellOf; rw [e, hl]
    rw [this]
    simp only [pure_bind]
    rw [ih _ (fun x hx => hp x (by rw [List.filter_cons, if_pos q]; exact List.mem_cons_of_mem _ hx)), List.filter_cons, if_pos q, e]
    simp
   ·rw [if_neg q]
    simp only [pure_bind]
    rw [ih _ (fun x hx => hp x (by rw [List.filter_cons, if_neg q]; exact hx)), List.filter_cons, if_neg q]
 unfold freeNames at hf
 have k2 := key sc.names [] (fun x hx => by rw [hf] at hx; exact List.mem_singleton.mp hx)
 have hlen : (sc.names.filter fun p => p.2 == .free).length = 1 := by
  have := congrArg List.length hf
  simpa using this
 obtain ⟨p, hp⟩ := List.length_eq_one_iff.mp hlen
 rw [hp] at k2
 have e2 : (pure ((([p] : List (Str × NameKind)).map fun p => (fr, a)).reverse ++ []) : Sem (List (Str × Addr))) = pure [(fr, a)] := rfl
 rw [e2] at k2
 have e3 : closureFor sc env = (forIn sc.names ([] : List (Str × Addr)) fun (p : Str × NameKind) (r : List (Str × Addr)) => (if (p.2 == NameKind.free) = true then do
    let a ← cellOf env p.1
    pure (ForInStep.yield ((p.1, a) :: r)) else pure (ForInStep.yield r) : Sem (ForInStep (List (Str × Addr))))) >>= pure := by
  unfold closureFor
  congr 1
 rw [e3, k2]; rfl
theorem among_other {p q : Pos} {c : Value} (hne : p.line ≠ q.line) : ∀ (l : List Value), TriplesOk l → codeAmong q (l ++ [rawInt p.line, rawInt p.col, c]) = codeAmong q l := by
 intro l h
 fun_induction TriplesOk l with
 | case1 =>
  have : ((p.line : Int) == (q.line : Int)) = false := beq_eq_false_iff_ne.mpr fun e => hne (Int.ofNat.inj e)
  simp only [List.nil_append, codeAmong, rawInt, this, Bool.false_and, Bool.false_eq_true, if_false]
 | case2 a t b u x rest ih =>
  simp only [List.cons_append, codeAmong]
  rw [ih h]
 | case3 l h1 h2 => exact h.elim
section
variable {G : GW} {c : Cx} {ι : Idx} {loc : Loc} {h : H} {n : Nat} {s : Shared}
theorem Rep.nest (k : c.Ok G n) (rep : Rep G c ι loc h s) {kk k' : Nat} {ps' : Array Value} {h' : Heap} {tk : Tok} {c' : Addr} {oc fo : Obj} (hh : h[0]? = some (.tab kk)) (hx : Heap.ExtBut G.P s.heap h') (hge : s.heap.objs.size ≤ c') (hlt : c' < h'.objs.size) (hoc : h'.get? c' = some oc)
  (hP : h'.get? G.P = some (tabObj ps')) (hfo : fo.isFreed = false)
  (hr : ∀ κ : Idx, ι.Le κ → (c', oc) ∈ κ.imm → RTab G κ k' ps') :
  Rep G c ⟨ι.ρ, (h'.objs.size, fo) :: (c', oc) :: ι.imm⟩ loc (h.set 0 (.tab k')) { s with heap := h'.push fo, toks := tk } ∧ ι.Le ⟨ι.ρ, (h'.objs.size, fo) :: (c', oc) :: ι.imm⟩ := by
 have le : ι.Le ⟨ι.ρ, (h'.objs.size, fo) :: (c', oc) :: ι.imm⟩ := ⟨⟨[], by simp⟩, fun p hp => .tail _ (.tail _ hp)⟩
 obtain ⟨oP, xP, _⟩ := rep.mu 0 G.P _ rep.tb hh
 have hmem : G.P ∈ ι.ρ := List.mem_of_getElem? rep.tb
 have hf : s.heap.objs.size ≤ h'.objs.size := Nat.le_trans hge (Nat.le_of_lt hlt)
 have get : ∀ b o, b ≠ G.P → s.heap.get? b = some o → (h'.push fo).get? b = some o := fun b o hb e => Heap.get?_push_of_some _ (hx b o hb e)
 have own1 := rep.own hf
 have own2 := rep.own hge
 have hnf : ∀ a ∈ c.fas, a ≠ G.P := fun a ha q => xP.2.2 (q ▸ ha)
 refine ⟨⟨fun b o e => get b o (fun q => by rw [q, xP.2.1] at e; cases e) (rep.keep b o e), ?_, fun q hq => ?_, by simp [rep.len], rep.nd, fun i b l e1 e2 => ?_, fun p hp => ?_, fun p hp => ?_, rep.cel, rep.gens, rep.drawn, rep.os, rep.tb⟩, le⟩
 ·obtain ⟨m, ns, x⟩ := rep.ns
  exact ⟨m, (ns.extBut hx (hnf _ List.mem_cons_self)).push _, fun i y v e1 e2 => (x i y v e1 e2).imp fun u z => ⟨z.1, z.2.mono le⟩⟩
 ·exact ((rep.bel q hq).extBut hx (hnf _ (List.mem_cons_of_mem _ (List.mem_map_of_mem hq)))).push _
 ·by_cases hi : i = 0
  ·subst hi
   rw [show ι.ρ[0]? = some G.P from rep.tb] at e1
   cases e1
   rw [List.getElem?_set_self (List.getElem?_eq_some_iff.mp hh).1] at e2
   cases e2
   exact ⟨tabObj ps', ⟨Heap.get?_push_of_some _ hP, xP.2⟩, ps', rfl, hr _ le (.tail _ (.head _))⟩
  ·rw [List.getElem?_set_ne (Ne.symm hi)] at e2
   obtain ⟨o, x, y⟩ := rep.mu i b l e1 e2
   have hne : b ≠ G.P := by
    intro q; subst q
    obtain ⟨h1, e1'⟩ := List.getElem?_eq_some_iff.mp e1
    obtain ⟨h2, e2'⟩ := List.getElem?_eq_some_iff.mp rep.tb
    exact hi ((List.getElem_inj rep.nd).mp (e1'.trans e2'.symm))
   exact ⟨o, ⟨get b o hne x.1, x.2⟩, y.mono le⟩
 ·rcases List.mem_cons.mp hp with rfl | hp
  ·exact ⟨Heap.get?_push_size _ hfo, own1.1, own1.2.1⟩
  ·rcases List.mem_cons.mp hp with rfl | hp
   ·exact ⟨Heap.get?_push_of_some _ hoc, own2.1, own2.2.1⟩
   ·have y := rep.im p hp
    exact ⟨get _ _ (fun q => rep.dis p hp (q ▸ hmem)) y.1, y.2⟩
 ·rcases List.mem_cons.mp hp with rfl | hp
  ·exact own1.2.2.1
  ·rcases List.mem_cons.mp hp with rfl | hp
   ·exact own2.2.2.1
   ·exact rep.dis p hp
end
noncomputable def okDef (G : GW) (Γ : CT) (name : Str) (params : Arguments) (body : List Stmt) (sc : Scope) (pos : Pos) : Prop :=
 ∀ k, Γ.defs.lookup name = some k → ∃ fr, G.CI k = ⟨name, Γ.dq ++ name, params, body, sc⟩ ∧ G.CP k = pos ∧ params.defaults = [] ∧ params.kw_defaults = [] ∧ (∀ env, annTrees params none env = []) ∧ freeNames sc = [fr] ∧ Γ.cel = [fr]
structure GD (G : GW) (Γ : CT) : Prop where
 cp : ∀ i j, i ≠ j → (G.CP i).line ≠ (G.CP j).line
 P : Γ.P = G.P
section
variable {G : GW} {O : Orc} {Γ : CT} {n N : Nat}
theorem ps_def (gd : GD G Γ) {name : Str} {params : Arguments} {body : List Stmt} {sc : Scope} {pos : Pos} (hd : okDef G Γ name params body sc pos) (ds : List Expr) (rt : Option Expr) (tp : List TypeParam) (ts : Option Scope) (bind : Str) :
  PS G O Γ n N (.FunctionDef name params body ds rt tp sc ts bind pos) := fun c ι loc h k ok => by
 refine Sim.xIte (b := ds.isEmpty && rt.isNone && tp.isEmpty && ts.isNone && name == bind) fun hb => Sim.xElim fun i hi => Sim.xElim fun kk hk => ?_
 obtain ⟨hb, hb5⟩ := Bool.and_eq_true_iff.mp hb
 obtain ⟨hb, hb4⟩ := Bool.and_eq_true_iff.mp hb
 obtain ⟨hb, hb3⟩ := Bool.and_eq_true_iff.mp hb
 obtain ⟨hb1, hb2⟩ := Bool.and_eq_true_iff.mp hb
 obtain rfl := List.isEmpty_iff.mp hb1
 obtain rfl := Option.isNone_iff_eq_none.mp hb2
 obtain rfl := List.isEmpty_iff.mp hb3
 obtain rfl := Option.isNone_iff_eq_none.mp hb4
 obtain rfl := eq_of_beq hb5
 refine Sim.elim (γ := Nat) (x := tab? h) (f := fun nn => if kk ≤ nn then .ok (Fl.next, loc.set i (some (.clo kk c.cs))) (h.set 0 (LO.tab (Nat.max nn (kk + 1)))) else .bad) fun nn hnn => ?_
 have hh := tab_of hnn
 by_cases hle : kk ≤ nn
 case neg => rw [if_neg hle]; exact Sim.bad
 rw [if_pos hle]
 intro s rep Q E hok hex hnb
 obtain ⟨fr, hCI, hCP, hd0, hk0, ha, hfr, hcel⟩ := hd kk hk
 have hx := idx_get hi
 rw [ok.loc] at hx
 obtain ⟨kn1, kn2⟩ := k.nm name (List.mem_of_getElem? hx)
 obtain ⟨c0, hc0, hhd, hdq⟩ := ok.cd (fun q => by rw [q] at hk; cases hk)
 rw [gd.P] at hhd
 obtain ⟨ci, hcids⟩ : ∃ ci, c.cids = [(fr, ci)] := by
  have e := ok.cel
  rw [hcel] at e
  obtain ⟨⟨x, ci⟩, h1⟩ := List.length_eq_one_iff.mp (show c.cids.length = 1 by rw [← List.length_map (f := (·.1)), ← e]; rfl)
  rw [h1] at e
  exact ⟨ci, by rw [h1, (List.cons.inj e).1]⟩
 obtain ⟨ac, hcl1, hcl2⟩ := rep.cel (fr, ci) (by rw [hcids]; exact .head _)
 have hcf : closureFor sc c.env = pure [(fr, ac)] := clo_for hfr hcl1
 have hq : qualnameIn c.env name name = (G.CI kk).qual := by
  unfold qualnameIn
  rw [show c.env.kindOf name = some .local from kn1, if_neg (by decide), hdq, hCI]
 obtain ⟨oP, xP, psP, rfl, ht, hno, hyes⟩ := rep.mu 0 G.P _ rep.tb hh
 obtain ⟨m, F, hm⟩ := rep.fr k
 have hgs := k.T.g.keeps F.keep
 obtain ⟨bm, ob, b1, b2, b3, b4, b5, b6⟩ := k.T.bmain
 have hgP : mainGlobals ≠ G.P := fun q => by
  obtain ⟨o, es, ep, e, hd, _⟩ := hgs
  rw [q, xP.1] at e; cases e; cases hd
 have hbP : bm ≠ G.P := fun q => by
  rw [q, xP.2.1] at b3; cases b3
 have hbG : bm ≠ mainGlobals := fun q => by
  obtain ⟨o, es, ep, e, hd, _⟩ := k.T.g
  rw [q, e] at b3; cases b3; rw [hd] at b6; cases b6
 have hBA : s.heap.BuiltinsAt G.mg G.P := ⟨bm, ob, b1, b2, hbG, hbP, F.keep _ _ b3, b4, b5, b6⟩
 have hcs : c.cs = [ci] := by unfold Cx.cs; rw [hcids]; rfl
 refine nestDef_K hd0 hk0 (ha _) ?_
 rcases Nat.lt_or_ge kk nn with hlt | hge
 ·-- the code object stands there
  obtain ⟨c1, oc, cvs, t, y1, y2, y3, y4⟩ := hyes kk hlt
  rw [hCP] at y1
  refine makeFunction_hit hcf rfl hgs hc0 (hhd.keeps F.keep) xP.1 ht y1 hBA fun ctv doc h' tk hkp hsz => ?_
  obtain ⟨rep1, le1⟩ := rep.addI (tk := tk) (o := { cls := .type "function", data := .func (fnX name (qualnameIn c.env name name) params body sc [(fr, ac)] .none .none doc ((G.mg "__name__").getD .none) none (.ref c1) ctv) }) (fun b o e => Heap.get?_push_of_some _ (hkp b o e)) (Heap.get?_push_size h' rfl) (rep.own hsz)
  have hv : RV G ⟨ι.ρ, (h'.objs.size, { cls := .type "function", data := .func (fnX name (qualnameIn c.env name name) params body sc [(fr, ac)] .none .none doc ((G.mg "__name__").getD .none) none (.ref c1) ctv) }) :: ι.imm⟩ (.clo kk c.cs) (.ref h'.objs.size) :=
   RClo.mk _ _ _ [(fr, ac)] _ _ _ rfl (.head _) ⟨doc, (G.mg "__name__").getD .none, ctv, rfl, by rw [hq, hCI]⟩ (.tail _ y2) y3 y4 (by rw [hCI]; exact hfr.symm) (by rw [hcs]; show [some ac] = [ι.ρ[ci]?]; rw [hcl2])
  refine Rep.set k rep1 hx hv fun hp tk2 rep2 => ?_
  have eh : h.set 0 (LO.tab (Nat.max nn (kk + 1))) = h := by
   have e1 : Nat.max nn (kk + 1) = nn := Nat.max_eq_left hlt
   rw [e1]
   refine List.ext_getElem? fun j => ?_
   by_cases hj : j = 0
   ·subst hj; rw [List.getElem?_set_self (List.getElem?_eq_some_iff.mp hh).1, hh]
   ·rw [List.getElem?_set_ne (Ne.symm hj)]
  exact hok (.next, loc.set i (some (.clo kk c.cs))) h _ _ .next (by rw [eh]) le1 rep2 rfl
 ·-- a new one
  obtain rfl : kk = nn := Nat.le_antisymm hle hge
  have hnf := hno kk (Nat.le_refl _)
  rw [hCP] at hnf
  refine makeFunction_K hcf rfl hgs hc0 (hhd.keeps F.keep) xP.1 ht hnf hgP hBA fun c1 ctv doc h' tk hxb hge1 hlt1 hrec htb => ?_
  obtain ⟨c2, oc, cvs, t, e2, hoc, hdd, hvv⟩ := hrec
  cases e2
  have hrt : ∀ κ : Idx, ι.Le κ → (c1, oc) ∈ κ.imm → RTab G κ (kk + 1) (psP ++ #[rawInt pos.line, rawInt pos.col, .ref c1]) := fun κ le hmem => by
   have et : (psP ++ #[rawInt pos.line, rawInt pos.col, .ref c1]).toList = psP.toList ++ [rawInt pos.line, rawInt pos.col, .ref c1] := by simp
   refine ⟨by rw [et]; exact TriplesOk_snoc _ _ _ _ ht, fun j hj => ?_, fun j hj => ?_⟩
   ·rw [et, among_other (by rw [← hCP]; exact gd.cp kk j (Nat.ne_of_lt hj)) _ ht]
    exact hno j (Nat.le_of_succ_le hj)
   ·by_cases q : j = kk
    ·subst q
     refine ⟨c1, oc, cvs, t, ?_, hmem, hdd, by rw [← hq]; exact hvv⟩
     rw [et, hCP]
     exact codeAmong_snoc _ ht hnf
    ·obtain ⟨c3, o3, cv3, t3, z1, z2, z3, z4⟩ := hyes j (Nat.lt_of_le_of_ne (Nat.le_of_lt_succ hj) q)
     refine ⟨c3, o3, cv3, t3, ?_, le.sub _ z2, z3, z4⟩
     rw [et, among_other (by rw [← hCP]; exact gd.cp kk j (Ne.symm q)) _ ht]
     exact z1
  obtain ⟨rep1, le1⟩ := rep.nest k (k' := kk + 1) (tk := tk) (fo := fnMade name (qualnameIn c.env name name) params body sc [(fr, ac)] doc ((G.mg "__name__").getD .none) c1 ctv) hh hxb hge1 hlt1 hoc htb rfl hrt
  have hv : RV G ⟨ι.ρ, (h'.objs.size, fnMade name (qualnameIn c.env name name) params body sc [(fr, ac)] doc ((G.mg "__name__").getD .none) c1 ctv) :: (c1, oc) :: ι.imm⟩ (.clo kk c.cs) (.ref h'.objs.size) :=
   RClo.mk _ _ _ [(fr, ac)] _ _ _ rfl (.head _) ⟨doc, (G.mg "__name__").getD .none, ctv, rfl, by rw [hq, hCI]⟩ (.tail _ (.head _)) hdd (by rw [← hq]; exact hvv) (by rw [hCI]; exact hfr.symm) (by rw [hcs]; show [some ac] = [ι.ρ[ci]?]; rw [hcl2])
  refine Rep.set k rep1 hx hv fun hp tk2 rep2 => ?_
  have e1 : Nat.max kk (kk + 1) = kk + 1 := Nat.max_eq_right (Nat.le_succ _)
  exact hok (.next, loc.set i (some (.clo kk c.cs))) _ _ _ .next (by rw [e1]) le1 rep2 rfl
end
section
variable {G : GW} {c : Cx} {ι : Idx} {loc : Loc} {h : H} {n : Nat} {s : Shared}
theorem Rep.grewL (k : c.Ok G n) (r : Rep G c ι loc h s) {hp : Heap} {tk : Nat} {m' : Str → Option Value} (kp : ∀ b o, b ≠ c.L → s.heap.get? b = some o → hp.get? b = some o) (hn : hp.Ns c.L m') : Rep G c ι [] h { s with heap := hp, toks := tk } := by
 have hb : ∀ q ∈ c.below, q.1 ≠ c.L := fun q hq z => (List.nodup_cons.mp k.fd).1 (z ▸ List.mem_map_of_mem hq)
 have hg : c.g.get? c.L = none := by
  cases z : c.g.get? c.L with
  | none => rfl
  | some o => exact absurd (Heap.lt_size z) (Nat.not_lt.mpr (k.ab _ List.mem_cons_self))
 refine ⟨fun b o e => kp b o (fun q => by rw [q, hg] at e; cases e) (r.keep b o e), ⟨m', hn, fun i x v _ e => by simp at e⟩, fun q hq => ?_, r.len, r.nd, fun i a lo e1 e2 => ?_, fun p hp => ?_, r.dis, r.cel, r.gens, r.drawn, r.os, r.tb⟩
 ·obtain ⟨o, es, ep, e, x⟩ := r.bel q hq
  exact ⟨o, es, ep, kp _ _ (hb q hq) e, x⟩
 ·obtain ⟨o, x, y⟩ := r.mu i a lo e1 e2
  exact ⟨o, ⟨kp _ _ (fun q => x.2.2 (by rw [q]; exact List.mem_cons_self)) x.1, x.2⟩, y⟩
 ·have x := r.im p hp
  exact ⟨kp _ _ (fun q => x.2.2 (by rw [q]; exact List.mem_cons_self)) x.1, x.2⟩
theorem Rep.named {loc' : Loc} (r : Rep G c ι loc h s) {m' : Str → Option Value} (hn : s.heap.Ns c.L m') (hm : ∀ (i : Nat) (x : Str) (v : V), c.names[i]? = some x → loc'[i]? = some (some v) → ∃ u, m' x = some u ∧ RV G ι v u) : Rep G c ι loc' h s :=
 { r with ns := ⟨m', hn, hm⟩ }
theorem Rep.own0 (r : Rep G c ι loc h s) {D : Addr} (hD : s.heap.get? D = none) : Own c ι D := by
 refine ⟨?_, fun q => ?_, fun q => ?_, fun p hp q => ?_⟩
 ·cases z : c.g.get? D with
  | none => rfl
  | some o => rw [r.keep _ _ z] at hD; cases hD
 ·rcases List.mem_cons.mp q with q | q
  ·obtain ⟨m, ⟨o, es, ep, e, _⟩, _⟩ := r.ns
   rw [← q, hD] at e; cases e
  ·obtain ⟨q1, hq, rfl⟩ := List.mem_map.mp q
   obtain ⟨o, es, ep, e, _⟩ := r.bel q1 hq
   rw [hD] at e; cases e
 ·obtain ⟨i, hi, e⟩ := List.getElem_of_mem q
  have e2 : ι.ρ[i]? = some D := by rw [List.getElem?_eq_getElem hi, e]
  have hl : i < h.length := r.len ▸ hi
  obtain ⟨o, x, _⟩ := r.mu i D h[i] e2 (List.getElem?_eq_getElem hl)
  have x1 := x.1
  rw [hD] at x1; cases x1
 ·have x := r.im p hp
  have x1 := x.1
  rw [q, hD] at x1; cases x1
end
theorem ints_at {G : GW} {ι : Idx} {xs : List V} {vs : List Value} {ns : List Int} (r : RVs G ι xs vs) (e : intsV xs = some ns) (v : Value) (hv : v ∈ vs) : ∃ i t, v = .int i t := by
 induction xs generalizing vs ns with
 | nil => cases r; cases hv
 | cons x xs ih =>
  obtain ⟨w, ws, rfl, a, b⟩ := r
  obtain ⟨i, h1, h2⟩ := Option.bind_eq_some_iff.mp e
  obtain ⟨ms, h3, _⟩ := Option.map_eq_some_iff.mp h2
  rw [i_of h1] at a
  obtain ⟨t, rfl⟩ := a
  rcases List.mem_cons.mp hv with q | q
  ·exact ⟨_, _, q⟩
  ·exact ih b h3 q
theorem ints_pair {G : GW} {ι κ : Idx} {xs : List V} {vs ys : List Value} {ns : List Int} (r : RVs G ι xs vs) (e : intsV xs = some ns) (p : Paired (fun v y : Value => ∃ i t t', v = .int i t ∧ y = .int i t') vs ys) : RVs G κ xs ys := by
 induction xs generalizing vs ys ns with
 | nil => cases r; cases p; exact RVs.nil
 | cons x xs ih =>
  obtain ⟨w, ws, rfl, a, b⟩ := r
  obtain ⟨i, h1, h2⟩ := Option.bind_eq_some_iff.mp e
  obtain ⟨ms, h3, _⟩ := Option.map_eq_some_iff.mp h2
  obtain rfl := i_of h1
  obtain ⟨t, rfl⟩ := a
  cases p with
  | cons h4 h5 =>
   obtain ⟨j, t1, t2, q1, rfl⟩ := h4
   cases q1
   exact RVs.cons (RV.int _ _) (ih b h3 h5)
theorem Sim.xEl0 {G : GW} {O : Orc} {N : Nat} {c : Cx} {ι : Idx} {loc : Loc} {h : H} {α γ : Type} {lc : Fl × Loc → Loc} {R : Idx → Fl × Loc → α → Prop} {t : Sem α} {cs : List Nat} {x : Option γ} {f : γ → St} (y : ∀ v, Sim G c ι loc h lc R t (xs1 O cs N (f v) loc h)) : Sim G c ι loc h lc R t (xs1 O cs N (x.elim .stop f) loc h) := Sim.xElim fun v _ => y v
theorem elim_bad {α β : Type} {x : Option α} {f : α → Res β} (h : x.elim .bad f ≠ .bad) : ∃ v, x = some v ∧ f v ≠ .bad := by
 cases x with
 | none => exact absurd rfl h
 | some v => exact ⟨v, rfl, h⟩
theorem ite_bad {β : Type} {p : Prop} [Decidable p] {r : Res β} (h : (if p then r else .bad) ≠ .bad) : p ∧ r ≠ .bad := by
 by_cases q : p
 ·rw [if_pos q] at h; exact ⟨q, h⟩
 ·rw [if_neg q] at h; exact absurd rfl h
theorem relabel_look {env : Env} {sc : Scope} (x : Str) : (relabel sc env).names.lookup x = (sc.names.lookup x).map fun k => if (k == NameKind.free && env.scope.kind == .function && env.kindOf x == some .cell) then NameKind.cell else k := by
 unfold relabel
 show (sc.names.map _).lookup x = _
 induction sc.names with
 | nil => rfl
 | cons p r ih =>
  obtain ⟨y, kd⟩ := p
  rw [List.map_cons, List.lookup_cons]
  by_cases q : x = y
  ·subst q
   by_cases hc : (kd == NameKind.free && env.scope.kind == .function && env.kindOf x == some .cell) = true
   ·simp only [if_pos hc, List.lookup_cons, beq_self_eq_true, Option.map_some]
   ·simp only [if_neg hc, List.lookup_cons, beq_self_eq_true, Option.map_some]
  ·have qf : (x == y) = false := by simpa using q
   by_cases hc : (kd == NameKind.free && env.scope.kind == .function && env.kindOf y == some .cell) = true
   ·simp only [if_pos hc, List.lookup_cons, qf]; exact ih
   ·simp only [if_neg hc, List.lookup_cons, qf]; exact ih
theorem scOk_of {sc : Scope} {x : Str} (e : scOk sc x = true) : sc.kind = .function ∧ (∀ z ∈ sc.names, z.2 ≠ .cell) ∧ (∀ z ∈ sc.names, z.2 = .local → sc.names.lookup z.1 = some .local) ∧ sc.names.lookup x = some .local := by
 unfold scOk at e
 simp only [Bool.and_eq_true, List.all_eq_true, Bool.or_eq_true] at e
 obtain ⟨⟨e1, e2⟩, e3⟩ := e
 refine ⟨eq_of_beq e1, fun z hz q => ?_, fun z hz q => ?_, eq_of_beq e3⟩
 ·have := (e2 z hz).1
  rw [q] at this; exact absurd this (by decide)
 ·rcases (e2 z hz).2 with q2 | q2
  ·rw [q] at q2; exact absurd q2 (by decide)
  ·exact eq_of_beq q2
section
variable {G : GW} {O : Orc} {Γ : CT} {n N : Nat}
theorem int_boot : bootBuiltins "int" = some (.type "int") := rfl
inductive IntS (Γ : CT) (x : Str) (xp : Pos) (i : Nat) (v : Expr) : St → Prop
 | stop : IntS Γ x xp i v .stop
 | mk (y : Str) (fp yp cp zp vp : Pos) (it : Expr) (sc : Scope) (he : v = .ListComp (.Call (.Name "int" fp) [.Name y yp] [] cp) [⟨.Name y zp, it, [], 0⟩] sc vp) (hfg : (sc.names.lookup ("int" : Str) == some .globalImplicit) = true) (hsc : scOk sc y = true)
  (hfree : sc.names.all (fun p => p.2 != .free) = true) (hline : (xp.line == vp.line) = true) (hnl : (!(sc.names.any fun p => p.1 == x && (p.2 == .local || p.2 == .cell))) = true) (hzd : (!(y == ("__debug__" : Str))) = true) : IntS Γ x xp i v (.asgI i (cE Γ it))
theorem IntS.el {x : Str} {xp : Pos} {i : Nat} {v : Expr} {γ : Type} {o : Option γ} {f : γ → St} (h : ∀ a, IntS Γ x xp i v (f a)) : IntS Γ x xp i v (o.elim .stop f) := by
 cases o with
 | none => exact .stop
 | some a => exact h a
theorem lc_eq {a a' : Expr} {gs gs' : List Comprehension} {sc : Scope} {p : Pos} (h1 : a = a') (h2 : gs = gs') : Expr.ListComp a gs sc p = .ListComp a' gs' sc p := by rw [h1, h2]
theorem one_eq {α : Type} {l : List α} {a b : α} (h1 : l = [a]) (h2 : a = b) : l = [b] := by rw [h1, h2]
theorem com_eq {g : Comprehension} {t i : Expr} {fs : List Expr} {k : Nat} (h1 : g.target = t) (h2 : g.iter = i) (h3 : g.ifs = fs) (h4 : g.is_async = k) : g = ⟨t, i, fs, k⟩ := by cases g; cases h1; cases h2; cases h3; cases h4; rfl
theorem int_shape {x : Str} {xp : Pos} {i : Nat} {v : Expr} : IntS Γ x xp i v (cInts Γ x xp i v) := by
 refine IntS.el fun L => IntS.el fun C => IntS.el fun F => IntS.el fun Y0 => IntS.el fun Y => IntS.el fun g => IntS.el fun Z => ?_
 have key : ∀ (b : Bool), (b = true → IntS Γ x xp i v (.asgI i (cE Γ g.1.iter))) → IntS Γ x xp i v (if b = true then .asgI i (cE Γ g.1.iter) else .stop) := fun b h => by
  cases b with
  | false => exact .stop
  | true => exact h rfl
 refine key _ fun hc => ?_
 have h1 := and2 (and2 hc).1
 have h2 := and2 (and2 hc).2
 have h3 := and2 h2.1
 have h4 := and2 h2.2
 have h5 := and2 h4.1
 have h6 := and2 h3.1
 have h7 := and2 h6.1
 have h8 := and2 h7.1
 have hf : F.1.1 = "int" := eq_of_beq h8.1
 exact .mk Z.1.1 _ _ _ _ _ g.1.iter _ (L.2.trans (lc_eq (C.2.trans (cal_eq (F.2.trans (nam_eq hf)) (one_eq Y0.2 (Y.2.trans (nam_eq (eq_of_beq h7.2)))) (List.isEmpty_iff.mp (and2 h1.1).1))) (one_eq g.2 (com_eq Z.2 rfl (List.isEmpty_iff.mp (and2 h1.1).2) (of_decide_eq_true h1.2)))))
  (hf ▸ h8.2) h6.2 h3.2 h5.1 h5.2 h4.2
theorem ps_asgI (gt : GT G Γ) (he : ∀ e, PX G O Γ n e) (x : Str) (xp : Pos) {v : Expr} (hv : notComp v = false) (pos : Pos) : PS G O Γ n N (.Assign [.Name x xp] v pos) := fun c ι loc h k ok => by
 show Sim G c ι loc h lcF (RF G) _ (xs1 O c.cs N (cAsgN Γ x xp v) loc h)
 unfold cAsgN
 cases hi : idx x Γ.loc 0 with
 | none => exact Sim.xEl0 fun j => Sim.xIte (b := notComp v && Γ.sc.names.lookup x == some .cell) fun q => by rw [hv] at q; cases q
 | some i =>
 dsimp only
 rw [if_neg (show ¬ notComp v = true by rw [hv]; exact Bool.false_ne_true)]
 have sh := int_shape (Γ := Γ) (x := x) (xp := xp) (i := i) (v := v)
 generalize cInts Γ x xp i v = r at sh
 clear hv
 cases sh with
 | stop => exact Sim.bad
 | mk y fp yp cp zp vp it sc he2 hfg hsc hfree hline hnl hzd =>
 subst he2
 obtain ⟨hkind, hcell, hnames, hlx⟩ := scOk_of hsc
 have hx := idx_get hi
 rw [ok.loc] at hx
 obtain ⟨kx1, kx2⟩ := k.nm x (List.mem_of_getElem? hx)
 have hit : ∀ u, foldedSetIterable it c.env u = pure u ∨ ∃ a b d, it = .Set a b d := fun u => by
  cases it <;> first | exact .inl rfl | exact .inr ⟨_, _, _, rfl⟩
 by_cases hset : ∃ a b d, it = Expr.Set a b d
 ·obtain ⟨a, b, d, rfl⟩ := hset
  exact Sim.bad
 ·intro s rep Q E hok hex hnb
  have hp : (c.env.scope.kind == .class || (c.env.scope.kind == .module && c.env.locals != c.env.globals)) = false := by show (c.scope.kind == .class || (c.scope.kind == .module && c.L != mainGlobals)) = false; rw [k.hk]; rfl
  refine wpAny_Assign_ListComp_free (cl := []) (fun _ => true) (fun v y => ∃ i t t', v = .int i t ∧ y = .int i t') ?_ (closureFor_none fun z hz => ?_) hcell hkind hnames hlx kx1 hp ?_ (fun u => (hit u).resolve_right hset)
  ·unfold swapsWith
   show (do return c.env.blockKind == .function && c.env.kindOf x == some .local && xp.line == vp.line && !(sc.names.any fun (n, k) => n == x && (k == .local || k == .cell)) : Sem Bool) = pure true
   have e1 : (c.env.blockKind == ScopeKind.function) = true := by
    unfold Env.blockKind
    rw [show c.env.scope.kind = .function from k.hk]; rfl
   have e2 : (c.env.kindOf x == some NameKind.local) = true := by rw [show c.env.kindOf x = some .local from kx1]; rfl
   rw [e1, e2, hline]
   have e3 : (sc.names.any fun (n, k) => n == x && (k == .local || k == .cell)) = (sc.names.any fun p => p.1 == x && (p.2 == .local || p.2 == .cell)) := rfl
   rw [e3, hnl]; rfl
  ·have := List.all_eq_true.mp hfree z hz
   intro q; rw [q] at this; exact absurd this (by decide)
  ·refine (he it).1.1 c ι loc h k ok s rep _ _ (fun v h' ι' s' u e le rep' hr => ?_) (fun C kd h' ι' s' e e1 le rx => hex C kd h' ι' s' e (by show Res.bind _ _ = _; rw [e1]; rfl) le rx) (fun q => hnb (by show Res.bind _ _ = _; rw [q]; rfl))
   have ex : xs1 O c.cs N (.asgI i (cE Γ it)) loc h = v.r?.elim .bad fun r => (lst? h' r).elim .bad fun xs => if (intsV xs).isSome = true ∧ xs.length ≤ 1000 then .ok (.next, loc.set i (some (.ref h'.length))) (h' ++ [.lst xs]) else .bad := by
    show Res.bind _ _ = _
    rw [e]; rfl
   rw [show xs1 O c.cs N _ loc h = _ from ex] at hok hnb
   obtain ⟨r, hr1, hnb⟩ := elim_bad hnb
   obtain ⟨xs, hxs1, hnb⟩ := elim_bad hnb
   obtain ⟨⟨hns1, hlen⟩, -⟩ := ite_bad hnb
   rw [hr1, Option.elim_some, hxs1, Option.elim_some, if_pos ⟨hns1, hlen⟩] at hok
   obtain rfl := r_of hr1
   have hxs := lst_of hxs1
   obtain ⟨ns, hns⟩ := Option.isSome_iff_exists.mp hns1
   obtain ⟨ax, vs, m1, rfl, _, x1, y1⟩ := rep'.lst hr hxs
   have hl := x1.isList
   have hlt : ax < s'.heap.objs.size := Heap.lt_size x1.1
   obtain ⟨m, F, hm⟩ := rep'.fr k
   have hlv := y1.length
   refine wpAny_pyIter_list hl ⟨s'.heap.objs.size, [s'.heap.objs.size, ax], [s'.heap.objs.size], vs.toArray.size, _, _, m, rfl, Walks.list k.hh _ _ (Nat.ne_of_lt hlt) vs.toArray, (by rw [List.size_toArray]; unfold sizeLine; omega), ⟨⟨_, Heap.get?_push_size _ rfl, rfl, rfl⟩, hl.push _⟩, ?_, ?_, F.ns.push _, ⟨?_, ?_⟩, ?_⟩
   ·intro b hb
    show b < (s'.heap.push _).objs.size
    rw [Heap.size_push]
    rcases List.mem_cons.mp hb with rfl | hb
    ·exact Nat.lt_succ_self _
    ·rw [List.mem_singleton.mp hb]; exact Nat.lt_succ_of_lt hlt
   ·intro q
    have q := List.mem_singleton.mp q
    have hl : c.L < s'.heap.objs.size := F.ns.lt
    rw [show c.L = s'.heap.objs.size from q] at hl
    exact Nat.lt_irrefl _ hl
   ·intro C i v s₃ m₃ E' _ hP hn' hm' hk' _
    rw [List.forIn_nil]
    exact wpAny_pure ⟨rfl, s₃.heap, s₃.toks, rfl, fun _ _ e => e⟩
   ·intro C i v s₃ m₃ E' _ hP _ hn' hm' hk' _
    obtain ⟨j, t, rfl⟩ := ints_at y1 hns v (by
     have := Array.mem_of_getElem? hP
     simpa using this)
    have kp3 : ∀ b o, c.g.get? b = some o → s₃.heap.get? b = some o := fun b o e => hk' b o (fun q => by
     have q := List.mem_singleton.mp q
     have := Heap.lt_size (F.keep b o e)
     rw [q] at this; exact Nat.lt_irrefl _ this) (Heap.get?_push_of_some _ (F.keep b o e))
    have hck : (compEnvC sc [] C c.env).scope.kind = .function := by simp [compEnvC, relabel, hkind]
    have hfk : (compEnvC sc [] C c.env).kindOf ("int" : Str) = some .globalImplicit := by
     show (relabel sc c.env).names.lookup ("int" : Str) = _
     rw [relabel_look, eq_of_beq hfg]; rfl
    have hyk : (compEnvC sc [] C c.env).kindOf y = some .local := by
     show (relabel sc c.env).names.lookup y = _
     rw [relabel_look, hlx]; rfl
    have T := topRead_of k.T
    rw [show eval (.Call (.Name "int" fp) [.Name y yp] [] cp) (compEnvC sc [] C c.env) = (do callWith cp (← eval (.Name "int" fp) (compEnvC sc [] C c.env)) [] (backTo cp (starEach [.Name y yp] (compEnvC sc [] C c.env))) (backToKw cp (keywordEach [] (compEnvC sc [] C c.env)))) from rfl]
    refine wpAny_bind (Name_function_global hck hfk (loadGlobal_builtin (env := compEnvC sc [] C c.env) (T.g.keeps kp3) (mg_none_of k.X T.g (gt.bf "int" (by decide +kernel))) (T.b.keeps kp3) ((T.builtins "int" (by decide +kernel)).trans int_boot) ?_) (by decide +kernel))
    refine PyProof.Rows.callWith_type1 (spliced_cons ?_) (by rfl) (by rfl)
    refine wpAny_Name (wpAny_loadName_local hck hyk hn' hm' (spliced_nil ?_)) (by simpa using hzd)
    exact call_int_int ⟨⟨j, t, t, rfl, rfl⟩, s₃.heap, s₃.toks, rfl, fun _ _ e => e⟩
   ·intro D h2 tk ys vs' hnew hlD hplD hlen' hP hF hn2 hk2
    have ev' : vs' = vs := by simpa using list_of_places hlen' hP
    subst ev'
    rw [List.filter_eq_self.mpr (fun _ _ => rfl)] at hF
    have kp : ∀ b o, b ≠ c.L → s'.heap.get? b = some o → h2.get? b = some o := fun b o hb e => hk2 b o hb (fun q => by
     have q := List.mem_singleton.mp q
     have := Heap.lt_size e
     rw [q] at this; exact Nat.lt_irrefl _ this) (Heap.get?_push_of_some _ e)
    have hnew' : s'.heap.get? D = none := by
     cases z : s'.heap.get? D with
     | none => rfl
     | some o => rw [Heap.get?_push_of_some _ z] at hnew; cases hnew
    have own := rep'.own0 hnew'
    have rep1 := rep'.grewL k (tk := tk) kp hn2
    obtain ⟨nn, hDo⟩ := hplD
    have hls : listOf ys nn = listOf ys.toList.toArray nn := by simp
    obtain ⟨rep2, le2⟩ := rep1.addM (tk := tk) (lo := .lst xs) (fun _ _ e => e) hDo own ⟨ys.toList, nn, by simp, ints_pair y1 hns hF⟩
    refine hok (.next, loc.set i (some (.ref h'.length))) (h' ++ [.lst xs]) _ _ .next rfl (le.trans le2) (rep2.named hn2 fun j z v e1 e2 => ?_) rfl
    by_cases hj : j = i
    ·subst hj
     rw [hx] at e1; cases e1
     have hl2 : j < loc.length := by
      have := (List.getElem?_eq_some_iff.mp e2).1
      rwa [show (lcF (Fl.next, loc.set j (some (V.ref h'.length)))) = loc.set j (some (V.ref h'.length)) from rfl, List.length_set] at this
     rw [show (lcF (Fl.next, loc.set j (some (V.ref h'.length)))) = loc.set j (some (V.ref h'.length)) from rfl, List.getElem?_set_self hl2] at e2
     cases e2
     refine ⟨.ref D, if_pos rfl, .ref ?_⟩
     show (ι'.ρ ++ [D])[h'.length]? = some D
     rw [List.getElem?_append_right (by rw [rep'.len]; exact Nat.le_refl _), rep'.len]; simp
    ·rw [show (lcF (Fl.next, loc.set i (some (V.ref h'.length)))) = loc.set i (some (V.ref h'.length)) from rfl, List.getElem?_set_ne (Ne.symm hj)] at e2
     obtain ⟨w', f1, f2⟩ := hm j z v e1 e2
     have hne : z ≠ x := by
      intro q; subst q
      obtain ⟨h1, e1'⟩ := List.getElem?_eq_some_iff.mp e1
      obtain ⟨h2, e2'⟩ := List.getElem?_eq_some_iff.mp hx
      exact hj ((List.getElem_inj k.nn).mp (e1'.trans e2'.symm))
     exact ⟨w', by rw [if_neg hne]; exact f1, f2.mono le2⟩
end
noncomputable def powIn (ms : List V) (s : Str) (i : Nat) : Bool := (ms[i]?.bind V.s?).any fun x => !(occurrences s x 0 s.length 1).isEmpty
theorem cPow_eq {ms : List V} {s : Str} {n : Nat} {vs : List V} (e : cPowV ms s n = some vs) : vs = ((List.range n).filter (powIn ms s)).map (fun i => V.int (2 ^ i)) ∧ ∀ i, i < n → ∃ x, ms[i]? = some (.str x) := by
 induction n generalizing vs with
 | zero => cases e; exact ⟨rfl, fun i hi => absurd hi (Nat.not_lt_zero _)⟩
 | succ n ih =>
  obtain ⟨r, h1, h2⟩ := Option.bind_eq_some_iff.mp e
  obtain ⟨x, h3, h4⟩ := Option.map_eq_some_iff.mp h2
  obtain ⟨v, h5, h6⟩ := Option.bind_eq_some_iff.mp h3
  obtain rfl := s_of h6
  obtain ⟨e1, e2⟩ := ih h1
  subst h4
  refine ⟨?_, fun i hi => ?_⟩
  ·have : powIn ms s n = !(occurrences s x 0 s.length 1).isEmpty := by unfold powIn; rw [h3]; rfl
   rw [List.range_succ, List.filter_append, List.map_append, ← e1, List.filter_cons, this]
   by_cases q : (!(occurrences s x 0 s.length 1).isEmpty) = true
   ·rw [if_pos q, if_pos q]; rfl
   ·rw [if_neg q, if_neg q]; exact (List.append_nil _).symm
  ·rcases Nat.lt_succ_iff_lt_or_eq.mp hi with q | q
   ·exact e2 i q
   ·subst q; exact ⟨x, h5⟩
noncomputable def powP (ms : List V) (s : Str) : Value → Bool
 | .int i _ => powIn ms s i.toNat
 | _ => false
theorem pow_pair {G : GW} {ι : Idx} {ms : List V} {s : Str} {ks : List Nat} {vs ys : List Value} (h : vs.length = ks.length) (g : ∀ (j : Nat) (v : Value), vs[j]? = some v → ∃ (k : Nat) (t : Tok), ks[j]? = some k ∧ v = .int (k : Int) t)
  (p : Paired (fun v y : Value => ∃ (k : Nat) (t t' : Tok), v = .int (k : Int) t ∧ y = .int (2 ^ k) t') (vs.filter (powP ms s)) ys) : RVs G ι ((ks.filter (powIn ms s)).map (fun i => V.int (2 ^ i))) ys := by
 induction ks generalizing vs ys with
 | nil =>
  obtain rfl := List.length_eq_zero_iff.mp h
  cases p; exact RVs.nil
 | cons k ks ih =>
  cases vs with
  | nil => cases h
  | cons v vs =>
   obtain ⟨k', t, e, rfl⟩ := g 0 v rfl
   cases e
   have g' : ∀ (j : Nat) (v : Value), vs[j]? = some v → ∃ (k : Nat) (t : Tok), ks[j]? = some k ∧ v = .int (k : Int) t := fun j v hv => g (j + 1) v hv
   have hp : powP ms s (.int (k : Int) t) = powIn ms s k := rfl
   rw [List.filter_cons, hp] at p
   rw [List.filter_cons]
   cases hk : powIn ms s k with
   | true =>
    rw [hk, if_pos rfl] at p
    rw [if_pos rfl]
    cases p with
    | cons h1 h2 =>
     obtain ⟨k2, t1, t2, q1, rfl⟩ := h1
     cases q1
     exact RVs.cons (RV.int _ _) (ih (Nat.succ.inj h) g' h2)
   | false =>
    rw [hk, if_neg Bool.false_ne_true] at p
    rw [if_neg Bool.false_ne_true]
    exact ih (Nat.succ.inj h) g' p
theorem w_operate {M : Model} {A : Around} {E : Value → Shared → Prop} {s : Shared} {vs : List Value} {t : Sem Value} {Q : Value → Shared → Prop} (x : wpAny M A t Q E s) : wpAny M A (operate vs t) Q E s := fun Γ p hΓ => by
 rw [Sem.wp_operate]; exact x Γ p hΓ
section
variable {G : GW} {O : Orc} {Γ : CT} {n N : Nat}
inductive CompS (Γ : CT) (e : Expr) (gs : List Comprehension) (sc : Scope) : Ex → Prop
 | stop : CompS Γ e gs sc .stop
 | mk (x z m st : Str) (w1 w4 : Nat) (w2 bp xp yp fp mp cp zp up' sp w5 cmpp : Pos) (j : Nat) (he : e = .BinOp (.Constant (.int 2) w1 w2) .Pow (.Name x xp) bp)
  (hg : gs = [⟨.Name x yp, .Call (.Name "range" fp) [.Name m mp] [] cp, [.Compare (.Subscript (.Name z zp) (.Name x up') sp) [.In] [.Constant (.str st) w4 w5] cmpp], 0⟩])
  (hj : idx z Γ.cel 0 = some j) (hfg : isGlo Γ "range" = true) (hsc : scOk sc x = true) (hfree : (freeNames sc == [z]) = true) (hzf : (sc.names.lookup z == some .free) = true) (hzc : (Γ.sc.names.lookup z == some .cell) = true) (hyd : (!(x == ("__debug__" : Str))) = true) : CompS Γ e gs sc (.cPow (cName Γ m) j st)
theorem CompS.el {e : Expr} {gs : List Comprehension} {sc : Scope} {γ : Type} {x : Option γ} {f : γ → Ex} (h : ∀ v, x = some v → CompS Γ e gs sc (f v)) : CompS Γ e gs sc (x.elim .stop f) := by
 cases x with
 | none => exact .stop
 | some v => exact h v rfl
theorem bin_eq {a a' b b' : Expr} {o o' : Operator} {p : Pos} (h1 : a = a') (h2 : o = o') (h3 : b = b') : Expr.BinOp a o b p = .BinOp a' o' b' p := by rw [h1, h2, h3]
theorem con_eq {a a' : Int} {k : Nat} {p : Pos} (h : a = a') : Expr.Constant (.int a) k p = .Constant (.int a') k p := by rw [h]
theorem cmp_eq {a a' : Expr} {os os' : List CmpOp} {es es' : List Expr} {p : Pos} (h1 : a = a') (h2 : os = os') (h3 : es = es') : Expr.Compare a os es p = .Compare a' os' es' p := by rw [h1, h2, h3]
theorem sub_eq {a a' b b' : Expr} {p : Pos} (h1 : a = a') (h2 : b = b') : Expr.Subscript a b p = .Subscript a' b' p := by rw [h1, h2]
theorem comp_shape {e : Expr} {gs : List Comprehension} {sc : Scope} : CompS Γ e gs sc (cComp Γ e gs sc) := by
 refine CompS.el fun B _ => CompS.el fun I _ => CompS.el fun X _ => CompS.el fun g0 _ => CompS.el fun Y _ => CompS.el fun C _ => CompS.el fun F _ => CompS.el fun M0 _ => CompS.el fun M _ => CompS.el fun P0 _ => CompS.el fun P _ => CompS.el fun S _ => ?_
 refine CompS.el fun Z _ => CompS.el fun U _ => CompS.el fun T0 _ => CompS.el fun T _ => CompS.el fun W _ => ?_
 have key : ∀ (b : Bool) (w : Option Nat), (b = true → ∀ j, w = some j → CompS Γ e gs sc (.cPow (cName Γ M.1.1) j T.1.1)) → CompS Γ e gs sc (if b = true then w.elim .stop fun j => .cPow (cName Γ M.1.1) j T.1.1 else .stop) := fun b w h => by
  cases b with
  | false => exact .stop
  | true => exact CompS.el fun j hj => h rfl j hj
 refine key _ _ fun hc j hj => ?_
 have h1 := (and2 hc).1
 have h2 := (and2 hc).2
 have h3 := (and2 h2).1
 have h4 := (and2 h2).2
 have a1 := (and2 (and2 (and2 (and2 h1).1).1).1)
 have b1 := (and2 (and2 (and2 (and2 h3).1).1).1)
 have c1 := (and2 (and2 (and2 h4).1).1)
 have hf : F.1.1 = "range" := eq_of_beq b1.1
 have hu : U.1.1 = Y.1.1 := eq_of_beq (and2 (and2 h3).1).2
 exact .mk Y.1.1 Z.1.1 M.1.1 T.1.1 _ _ _ _ _ _ _ _ _ _ _ _ _ _ j (B.2.trans (bin_eq (I.2.trans (con_eq (of_decide_eq_true a1.2))) (of_decide_eq_true a1.1) (X.2.trans (nam_eq (eq_of_beq (and2 (and2 (and2 h3).1).1).2)))))
  (one_eq g0.2 (com_eq Y.2 (C.2.trans (cal_eq (F.2.trans (nam_eq hf)) (one_eq M0.2 M.2) (List.isEmpty_iff.mp (and2 (and2 h1).1).2))) (one_eq P0.2 (P.2.trans (cmp_eq (S.2.trans (sub_eq Z.2 (U.2.trans (nam_eq hu)))) (one_eq W.2 (of_decide_eq_true (and2 h1).2)) (one_eq T0.2 T.2)))) (of_decide_eq_true (and2 (and2 (and2 h1).1).1).2)))
  hj (hf ▸ b1.2) (and2 h3).2 c1.1 c1.2 (and2 (and2 h4).1).2 (and2 h4).2
theorem p_comp (gt : GT G Γ) : PComp G O Γ n := fun e gs sc p => p_test (fun _ _ => rfl) (px_test (px_comp _ _ _)) fun c ι loc h k ok => by
 have sh := comp_shape (Γ := Γ) (e := e) (gs := gs) (sc := sc)
 show Sim G c ι loc h _ _ _ (ev O c.cs (cComp Γ e gs sc) loc h)
 generalize cComp Γ e gs sc = r at sh
 cases sh with
 | stop => exact Sim.bad
 | mk x z m st w1 w4 w2 bp xp yp fp mp cp zp up' sp w5 cmpp j he hg hj hfg hsc hfree hzf hzc hyd =>
 subst he hg
 obtain ⟨hkind, hcell, hnames, hlx⟩ := scOk_of hsc
 intro s rep Q E hok hex hnb
 have hzn := idx_get hj
 rw [ok.cel] at hzn
 rw [List.getElem?_map] at hzn
 obtain ⟨q0, hq0, hq1⟩ := Option.map_eq_some_iff.mp hzn
 have hmem := List.mem_of_getElem? hq0
 obtain ⟨zz, zi⟩ := q0
 obtain rfl : zz = z := hq1
 obtain ⟨ac, hac1, hac2⟩ := rep.cel _ hmem
 obtain ⟨_, hzd, _⟩ := k.cn _ hmem
 rcases nm_ev (O := O) (Γ := Γ) (x := m) c.cs loc h with ⟨mv, hmv⟩ | hmv
 case inr => exact absurd (by show Res.bind _ _ = _; rw [hmv]; rfl) hnb
 have ex : ev O c.cs (.cPow (cName Γ m) j st) loc h = mv.i?.elim .bad fun w => c.cs[j]?.elim .bad fun i => (celL? h i).elim .bad fun ms => (cPowV ms st w.toNat).elim .bad fun vs => okP (0 ≤ w ∧ w ≤ 64) (newM h (.lst vs)) := by
  show Res.bind _ _ = _
  rw [hmv]; rfl
 rw [ex] at hok hnb
 obtain ⟨w, hmi, hnb⟩ := elim_bad hnb
 obtain ⟨ci, hci, hnb⟩ := elim_bad hnb
 obtain ⟨ms, hcl, hnb⟩ := elim_bad hnb
 obtain ⟨vs, hvs, hnb⟩ := elim_bad hnb
 obtain ⟨hw, -⟩ := ite_bad hnb
 obtain rfl := i_of hmi
 rw [hmi, Option.elim_some, hci, Option.elim_some, hcl, Option.elim_some, hvs, Option.elim_some, show okP (0 ≤ w ∧ w ≤ 64) (newM h (.lst vs)) = newM h (.lst vs) from if_pos hw] at hok
 obtain ⟨r, hcell', hms⟩ := celL_of hcl
 obtain ⟨hvs1, hvs2⟩ := cPow_eq hvs
 have hzi : zi = ci := by
  unfold Cx.cs at hci
  rw [List.getElem?_map, hq0] at hci
  simpa using hci
 subst hzi
 have hev : ev O c.cs (cE Γ (.Name m mp)) loc h = .ok (.int w) h := hmv
 refine wpAny_ListComp_free (cl := [(zz, ac)]) (powP ms st) (fun v y => ∃ (k : Nat) (t t' : Tok), v = .int (k : Int) t ∧ y = .int (2 ^ k) t') (clo_for (eq_of_beq hfree) hac1) hcell hkind hnames hlx ?_ (fun _ => rfl)
 refine w_rangeV k gt ok (a := .Name m mp) (p_name gt m mp).1 hfg rfl rep (fun i h' ι' hp tk r1 t u v s' e le rep' hR => ?_) (fun v h' e => by rw [hev] at e; cases e; exact ⟨_, rfl⟩) (fun C kd h' ι' s' e e1 => by rw [hev] at e1; cases e1) (fun q => by rw [hev] at q; cases q)
 rw [hev] at e
 cases e
 have hsz : Builtin.Range.rangeSize 0 w 1 = (w.toNat : Int) := by
  have := rangeSize_nat 0 w
  rw [this]; congr 2; omega
 obtain ⟨oc, xc, uc, hdc, huc⟩ := rep'.mu _ _ _ (le.at hac2) hcell'
 obtain ⟨al, us, nl, rfl, _, xl, yl⟩ := rep'.lst huc hms
 have hll := xl.isList
 have hmark : ∀ i, i < w.toNat → ∃ x t, ms[i]? = some (.str x) ∧ us.toArray[i]? = some (.str x t) := fun i hi => by
  obtain ⟨x, hx⟩ := hvs2 i hi
  obtain ⟨u, hu, ru⟩ := yl.get hx
  obtain ⟨tt, rfl⟩ := ru
  exact ⟨x, _, hx, by simpa using hu⟩
 have hck : ∀ C, (compEnvC sc [(zz, ac)] C c.env).scope.kind = .function := fun C => by simp [compEnvC, relabel, hkind]
 have hyk : ∀ C, (compEnvC sc [(zz, ac)] C c.env).kindOf x = some .local := fun C => by
  show (relabel sc c.env).names.lookup x = _
  rw [relabel_look, hlx]; rfl
 have hzk : ∀ C, (compEnvC sc [(zz, ac)] C c.env).kindOf zz = some .cell := fun C => by
  show (relabel sc c.env).names.lookup zz = _
  rw [relabel_look, eq_of_beq hzf]
  have e1 : (c.env.scope.kind == ScopeKind.function) = true := by rw [show c.env.scope.kind = .function from k.hk]; rfl
  have e2 : (c.env.kindOf zz == some NameKind.cell) = true := by
   show (c.scope.names.lookup zz == some NameKind.cell) = true
   rw [← ok.sc]
   exact hzc
  rw [e1, e2]; rfl
 refine wpAny_pyIter_range (s := { s' with heap := hp, toks := tk }) hR (small_one (by decide) (by decide) (by omega) (by omega)) ⟨hp.objs.size, [hp.objs.size], [hp.objs.size], w.toNat, _, _, rfl, (Walks.range k.hh _ 0 1 w.toNat).bound, by unfold sizeLine; omega, (by show IsRangeIter _ _ _ _ _; rw [hsz]; simpa using Heap.get?_push_size _ rfl), ?_, ⟨?_, ?_⟩, ?_⟩
 ·intro b hb
  show b < (hp.push _).objs.size
  rw [Heap.size_push, List.mem_singleton.mp hb]
  exact Nat.lt_succ_self _
 ·intro C i v s₃ m₃ E' _ hP hn' hm' hk' _
  obtain ⟨hi, t, rfl⟩ := hP
  rw [show (0 : Int) + (i : Nat) * 1 = (i : Int) by omega] at hm' ⊢
  obtain ⟨y, ty, hy1, hy2⟩ := hmark i hi
  have up : ∀ b o, hp.get? b = some o → s₃.heap.get? b = some o := fun b o e => hk' b o (fun q => by
   have q := List.mem_singleton.mp q
   have := Heap.lt_size e
   rw [q] at this; exact Nat.lt_irrefl _ this) (Heap.get?_push_of_some _ e)
  have hl3 : s₃.heap.IsList al us.toArray := hll.at fun o e => up _ _ e
  have hp1 : powP ms st (.int (i : Int) t) = !(occurrences st y 0 st.length 1).isEmpty := by show powIn ms st i = _; unfold powIn; rw [hy1]; rfl
  rw [hp1, List.forIn_cons]
  refine wpAny_bind ?_
  rw [if_pos rfl]
  refine wpAny_bind ?_
  rw [arm_isTrue_Compare]
  refine wpAny_bind ?_
  rw [eval_Subscript]
  refine wpAny_bind (wpAny_Name (wpAny_loadName_cell (hck C) (hzk C) (by show List.lookup zz [(zz, ac)] = _; simp) ⟨oc, up _ _ xc.1, hdc⟩ ?_) hzd)
  refine wpAny_bind (wpAny_holding (wpAny_Name (wpAny_loadName_local (hck C) (hyk C) hn' hm' ?_) (by simpa using hyd)))
  refine wpAny_bind (wpAny_standAt ?_)
  show wpAny _ _ (subscriptTail (.Name zz zp) (.Name x up') (.ref al) (.int (i : Int) t)) _ _ _
  refine tail_any hl3.typeIs slot_list_getitem.lookup (wpAny_getItem_list hl3 (by omega) (by omega) (by simpa using hy2) ?_) (subscripted_no (by rfl) _ _)
  refine wpAny_bind (wpAny_holding ?_)
  show wpAny _ _ (eval (.Constant (.str st) w4 w5) _) _ _ _
  rw [arm_eval_Constant]
  refine wpAny_mkText ?_
  refine wpAny_bind (wpAny_standAt (wpAny_bind ?_))
  refine w_operate (in_str ?_)
  refine wpAny_holding (wpAny_truthy_bool ?_)
  refine wpAny_pure ?_
  dsimp only
  rw [List.forIn_nil]
  exact wpAny_pure ⟨rfl, _, _, rfl, fun _ _ e => e⟩
 ·intro C i v s₃ m₃ E' _ hP _ hn' hm' hk' _
  obtain ⟨hi, t, rfl⟩ := hP
  rw [show (0 : Int) + (i : Nat) * 1 = (i : Int) by omega] at hm' ⊢
  rw [arm_eval_BinOp]
  refine wpAny_bind ?_
  rw [arm_eval_Constant]
  refine wpAny_mkInt ?_
  refine wpAny_bind (wpAny_holding (wpAny_Name (wpAny_loadName_local (hck C) (hyk C) hn' hm' ?_) (by simpa using hyd)))
  refine wpAny_bind (wpAny_standAt ?_)
  refine w_operate (pow_int_small (by omega) (by omega) (by decide) ?_)
  exact ⟨⟨i, t, _, rfl, by rw [Int.toNat_natCast]⟩, _, _, rfl, fun _ _ e => e⟩
 ·intro D h2 tk2 ys vs' hnew hlD hplD hlen' hP hF hk2
  have kp : ∀ b o, hp.get? b = some o → h2.get? b = some o := fun b o e => hk2 b o (fun q => by
   have q := List.mem_singleton.mp q
   have := Heap.lt_size e
   rw [q] at this; exact Nat.lt_irrefl _ this) (Heap.get?_push_of_some _ e)
  have hnew' : hp.get? D = none := by
   cases z : hp.get? D with
   | none => rfl
   | some o =>
    have : (hp.push { cls := .type "range_iterator", data := .fields #[rawInt 0, rawInt (Builtin.Range.rangeSize 0 w 1), rawInt 1] }).get? D = some o := Heap.get?_push_of_some _ z
    rw [show _ = none from hnew] at this; cases this
  have own := rep'.own0 hnew'
  obtain ⟨nn, hDo⟩ := hplD
  have hv : RVs G ⟨ι'.ρ ++ [D], ι'.imm⟩ vs ys.toList := by
   rw [hvs1]
   refine pow_pair (by rw [hlen', List.length_range]) (fun j v hv => ?_) hF
   obtain ⟨hj, t, e⟩ := hP j v hv
   exact ⟨j, t, by simp [hj], by rw [e]; congr 1; omega⟩
  obtain ⟨rep2, le2⟩ := rep'.addM (tk := tk2) (lo := .lst vs) kp hDo own ⟨ys.toList, nn, by simp, hv⟩
  refine hok (.ref h.length) (h ++ [.lst vs]) _ _ _ rfl (le.trans le2) rep2 (.ref ?_)
  show (ι'.ρ ++ [D])[h.length]? = some D
  rw [List.getElem?_append_right (by rw [rep'.len]; exact Nat.le_refl _), rep'.len]; simp
end
mutual
noncomputable def okS (G : GW) (Γ : CT) : Stmt → Prop
 | .FunctionDef name params body _ _ _ sc _ _ pos => okDef G Γ name params body sc pos
 | .If _ a b _ => okSs G Γ a ∧ okSs G Γ b
 | .While _ b _ _ => okSs G Γ b
 | .For _ _ b _ _ => okSs G Γ b
 | _ => True
noncomputable def okSs (G : GW) (Γ : CT) : List Stmt → Prop
 | [] => True
 | s :: r => okS G Γ s ∧ okSs G Γ r
end
mutual
theorem okS_nil {G : GW} {Γ : CT} (h : Γ.defs = []) : ∀ s, okS G Γ s
 | .FunctionDef .. => fun k e => by rw [h] at e; cases e
 | .If _ a b _ => ⟨okSs_nil h a, okSs_nil h b⟩
 | .While _ b _ _ => okSs_nil h b
 | .For _ _ b _ _ => okSs_nil h b
 | .AsyncFunctionDef .. | .ClassDef .. | .Return .. | .Delete .. | .Assign .. | .TypeAlias .. | .AugAssign .. | .AnnAssign .. | .AsyncFor .. | .With .. | .AsyncWith .. | .Match .. | .Raise .. | .Try .. | .TryStar .. | .Assert .. | .Import .. | .ImportFrom .. | .Global .. | .Nonlocal .. | .Expr .. | .Pass .. | .Break .. | .Continue .. => trivial
theorem okSs_nil {G : GW} {Γ : CT} (h : Γ.defs = []) : ∀ ss, okSs G Γ ss
 | [] => trivial
 | s :: r => ⟨okS_nil h s, okSs_nil h r⟩
end
structure WOk (G : GW) (Γ : CT) : Prop where
 gk : GK G
 gt : GT G Γ
 gx : GX G Γ
 xg : XGs G Γ
 gd : GD G Γ
theorem WOk.at {G : GW} {Γ : CT} (w : WOk G Γ) (sc : Scope) (loc cel : List Str) (defs : List (Str × Nat)) (dq : Str) : WOk G (Γ.at sc loc cel defs dq) :=
 ⟨w.gk, ⟨w.gt.an, w.gt.gl, w.gt.fns, w.gt.cls, w.gt.mth, w.gt.bf⟩, w.gx, ⟨w.xg.nm, w.xg.sub, w.xg.tt⟩, ⟨w.gd.cp, w.gd.P⟩⟩
section
variable {G : GW} {O : Orc} {Γ : CT} {n N : Nat}
mutual
theorem s_s (w : WOk G Γ) (oc : OrcOk G O n) (k6 : ∀ c : Cx, c.Ok G (4 * n + 3) → c.Ok G 6) (he : ∀ e, PX G O Γ n e) : ∀ s, okS G Γ s → PS G O Γ n N s
 | .FunctionDef name params body ds rt tp sc ts bind pos, h => ps_def w.gd h ds rt tp ts bind
 | .Return v p, _ => ps_ret (fun e _ => (he e).1.1) p
 | .Assign ts v p, _ => by
  cases ts with
  | nil => exact ps_stop rfl
  | cons t r => cases r with
   | nil => exact ps_assign w.gk w.gt (he t) (fun o i q e => ⟨(he o).1.1, (he i).1.1⟩) (he v) p fun x q e hn => by subst e; exact ps_asgI w.gt he x q hn p
   | cons => exact ps_stop rfl
 | .AugAssign t op v p, _ => ps_aug he t op v p
 | .For t it b o p, h => by
  have hb : okSs G Γ b := h
  cases o with
  | nil => exact ps_for w.gt he (s_ss w oc k6 he b hb) p
  | cons => exact ps_stop rfl
 | .While t b o p, h => by
  have hb : okSs G Γ b := h
  cases o with
  | nil => exact ps_while (he t).1.2 (s_ss w oc k6 he b hb) p
  | cons => exact ps_stop rfl
 | .If t a b p, h => by
  have hb : okSs G Γ a ∧ okSs G Γ b := h
  exact ps_if (he t).1.2 (s_ss w oc k6 he a hb.1) (s_ss w oc k6 he b hb.2) p
 | .Raise e c p, _ => ps_raise w.gx he k6 e c p
 | .Try b hs o f p, _ => ps_try w.gt oc w.xg he b hs o f p
 | .Expr v p, _ => ps_expr (he v) p
 | .Pass p, _ => ps_pass p
 | .AsyncFunctionDef .., _ | .ClassDef .., _ | .Delete .., _ | .TypeAlias .., _ | .AnnAssign .., _ | .AsyncFor .., _ | .With .., _ | .AsyncWith .., _ | .Match .., _ | .TryStar .., _ | .Assert .., _ | .Import .., _ | .ImportFrom .., _ | .Global .., _ | .Nonlocal .., _ | .Break .., _ | .Continue .., _ => ps_stop rfl
theorem s_ss (w : WOk G Γ) (oc : OrcOk G O n) (k6 : ∀ c : Cx, c.Ok G (4 * n + 3) → c.Ok G 6) (he : ∀ e, PX G O Γ n e) : ∀ ss, okSs G Γ ss → PSs G O Γ n N ss
 | [], _ => pss_nil
 | s :: r, h => by
  have hb : okS G Γ s ∧ okSs G Γ r := h
  exact pss_cons (s_s w oc k6 he s hb.1) (s_ss w oc k6 he r hb.2)
end
end
noncomputable def orc (N : Nat) (Γ : CT) (CI : Nat → FI) (fx : Nat → Option FX) (cf : Nat → Option CF) : Nat → Orc
 | 0 => ⟨fun _ _ _ => .bad, fun _ _ _ _ => .bad⟩
 | 1 => ⟨fun _ _ _ => .bad, fun _ _ _ _ => .bad⟩
 | n + 2 => ⟨fun f vs h => match fx f with
   | some F => runF (orc N Γ CI fx cf (n + 1)) N Γ F vs h
   | none => .bad,
  fun k cs vs h => match cf k with
   | some F => runC (orc N Γ CI fx cf (n + 1)) N Γ (CI k) F cs vs h
   | none => .bad⟩
theorem SimC.bad {G : GW} {c : Cx} {ι : Idx} {loc : Loc} {h : H} {code : Code} : SimC G c ι loc h code .bad := fun _ _ _ _ _ hnb => absurd rfl hnb
theorem orc_ok {G : GW} {Γ : CT} {N : Nat} {fx : Nat → Option FX} {cf : Nat → Option CF} (w : WOk G Γ)
  (hf : ∀ f F, fx f = some F → F.Ok G (G.fa f) ∧ okSs G (Γ.at F.scope F.loc F.cel.toList F.defs F.dq) F.body) (hc : ∀ k F, cf k = some F → F.Ok G k) : ∀ n, OrcOk G (orc N Γ G.CI fx cf n) n
 | 0 => ⟨fun _ _ _ _ _ _ _ _ _ => .bad, fun _ _ _ _ _ _ _ _ _ _ _ _ => .bad⟩
 | 1 => ⟨fun _ _ _ _ _ _ _ _ _ => .bad, fun _ _ _ _ _ _ _ _ _ _ _ _ => .bad⟩
 | n + 2 => by
  have ih := orc_ok (N := N) w hf hc (n + 1)
  have k6 : ∀ c : Cx, c.Ok G (4 * (n + 1) + 3) → c.Ok G 6 := fun c k => k.le (Nat.le_trans (by decide : 6 ≤ 4 * 1 + 3) (Nat.add_le_add_right (Nat.mul_le_mul_left 4 (Nat.succ_pos n)) 3))
  refine ⟨fun f c ι loc h vs us k hv => ?_, fun kk cs c ι loc h u vs us k hu hv => ?_⟩
  ·show SimC G c ι loc h _ (match fx f with
    | some F => runF (orc N Γ G.CI fx cf (n + 1)) N Γ F vs h
    | none => .bad)
   cases e : fx f with
   | none => exact .bad
   | some F =>
    have wa := w.at F.scope F.loc F.cel.toList F.defs F.dq
    exact call_fn (n := n + 1) w.gd.P (hf f F e).1 (s_ss wa ih k6 (s_e wa.gk wa.gt ih (p_comp wa.gt)) _ (hf f F e).2) (k.le (Nat.le_refl (4 * (n + 2)))) hv
  ·show SimC G c ι loc h _ (match cf kk with
    | some F => runC (orc N Γ G.CI fx cf (n + 1)) N Γ (G.CI kk) F cs vs h
    | none => .bad)
   cases e : cf kk with
   | none => exact .bad
   | some F =>
    have wa := w.at (G.CI kk).scope F.loc [F.fr] [] Str.empty
    exact call_clo (n := n + 1) (hc kk F e) (s_ss wa ih k6 (s_e wa.gk wa.gt ih (p_comp wa.gt)) _ (okSs_nil rfl _)) (k.le (Nat.le_refl (4 * (n + 2)))) hu hv
section
local macro_rules | `(tactic| kd_p) => `(tactic| first | assumption | exact Nat.le_trans (by assumption) (by decide) | exact Nat.lt_of_le_of_lt (by assumption) (by decide) | exact Nat.lt_of_lt_of_le (by assumption) (by decide) | lia)
structure FB where
 ps : List Str
 loc : List Str
 cel : List Str
 code : List St
noncomputable def cSignal : Nat := 689
noncomputable def cDesign : Nat := 752
noncomputable def cThread : Nat := 773
noncomputable def eDesign : Nat := 64
noncomputable def eFormat : Nat := 76
noncomputable def eSource : Nat := 52
noncomputable def b0 : FB := ⟨[("w" : Str)], [("w" : Str)], [],
 [
 .ret (.bin .Sub (.bin .LShift (.k (V.int 1)) (.l 0)) (.k (V.int 1)))]⟩
noncomputable def b1 : FB := ⟨[("w" : Str), ("a" : Str), ("b" : Str)], [("w" : Str), ("a" : Str), ("b" : Str), ("full" : Str)], [],
 [
 .asg 3 (.call 0 [(.l 0)]),
 .ret (.tup [(.l 0), (.bin .BitAnd (.l 1) (.l 3)), (.bin .BitAnd (.l 2) (.l 3))])]⟩
noncomputable def b2 : FB := ⟨[("v" : Str), ("signed" : Str)], [("v" : Str), ("signed" : Str), ("w" : Str), ("a" : Str), ("b" : Str)], [],
 [
 .asgT [2, 3, 4] (.l 0),
 .ite (.cmp .NotEq (.l 4) (.k (V.int 0))) [
  .ret (.k V.none)] [],
 .ite (.bop .And [(.l 1), (.cmp .Eq (.bin .RShift (.l 3) (.bin .Sub (.l 2) (.k (V.int 1)))) (.k (V.int 1)))]) [
  .ret (.bin .Sub (.l 3) (.bin .LShift (.k (V.int 1)) (.l 2)))] [],
 .ret (.l 3)]⟩
noncomputable def b3 : FB := ⟨[("e" : Str), ("ctx" : Str)], [("e" : Str), ("tag" : Str)], [("ctx" : Str)],
 [
 .asg 1 (.sub (.l 0) (.k (V.int 0))),
 .ite (.cmp .Eq (.l 1) (.k (V.str ("const" : Str)))) [
  .ret (.tup [(.sub (.l 0) (.k (V.int 1))), (.sub (.l 0) (.k (V.int 2))), (.sub (.l 0) (.k (V.int 3)))])] [],
 .ite (.cmp .Eq (.l 1) (.k (V.str ("sig" : Str)))) [
  .ret .stop] [],
 .ite (.cmp .Eq (.l 1) (.k (V.str ("local" : Str)))) [
  .ret (.sub (.att (.ce 0) ("frame" : Str)) (.sub (.l 0) (.k (V.int 2))))] [],
 .ite (.cmp .Eq (.l 1) (.k (V.str ("bin" : Str)))) [
  .ret .stop] [],
 .ite (.cmp .Eq (.l 1) (.k (V.str ("un" : Str)))) [
  .ret .stop] [],
 .ite (.cmp .Eq (.l 1) (.k (V.str ("ext" : Str)))) [
  .ret .stop] [],
 .ite (.cmp .Eq (.l 1) (.k (V.str ("slice" : Str)))) [
  .ret .stop] [],
 .ite (.cmp .Eq (.l 1) (.k (V.str ("pick" : Str)))) [
  .ret .stop] [],
 .ite (.cmp .Eq (.l 1) (.k (V.str ("word" : Str)))) [
  .ret .stop] [],
 .ite (.cmp .Eq (.l 1) (.k (V.str ("cond" : Str)))) [
  .ret .stop] [],
 .ite (.cmp .Eq (.l 1) (.k (V.str ("cat" : Str)))) [
  .ret .stop] [],
 .ite (.cmp .Eq (.l 1) (.k (V.str ("pow" : Str)))) [
  .ret .stop] [],
 .ite (.cmp .Eq (.l 1) (.k (V.str ("call" : Str)))) [
  .ret .stop] [],
 .ite (.cmp .Eq (.l 1) (.k (V.str ("sys" : Str)))) [
  .ret .stop] [],
 .rai eDesign [(.k (V.str ("unknown_expression" : Str))), (.neg (.k (V.int 1))), (.l 1)]]⟩
noncomputable def b4 : FB := ⟨[("base" : Str)], [("base" : Str)], [],
 [
 .ite (.cmp .Eq (.l 0) (.k (V.str ("b" : Str)))) [
  .ret (.k (V.int 1))] [],
 .ite (.cmp .Eq (.l 0) (.k (V.str ("o" : Str)))) [
  .ret (.k (V.int 3))] [],
 .ret (.k (V.int 4))]⟩
noncomputable def b5 : FB := ⟨[("digits" : Str)], [("digits" : Str), ("value" : Str), ("digit" : Str)], [],
 [
 .asg 1 (.k (V.int 0)),
 .forL 2 (.l 0) [
  .asg 1 (.bin .Sub (.bin .Add (.bin .Mult (.l 1) (.k (V.int 10))) (.bf .ord [(.l 2)])) (.k (V.int 48)))],
 .ret (.l 1)]⟩
noncomputable def b6 : FB := ⟨[("size" : Str), ("at" : Str)], [("size" : Str), ("at" : Str), ("digits" : Str)], [],
 [
 .asg 2 (.bm .lstrip (.l 0) [(.k (V.str ("0" : Str)))]),
 .ite (.bop .Or [(.cmp .Eq (.l 2) (.k (V.str ("" : Str)))), (.cmp .Gt (.bf .len [(.l 2)]) (.k (V.int 5))), (.cmp .Gt (.call 5 [(.l 2)]) (.g ("MOST_BITS" : Str) 65536))]) [
  .rai eSource [(.k (V.str ("bad_size" : Str))), (.l 1)]] [],
 .ret (.call 5 [(.l 2)])]⟩
noncomputable def b7 : FB := ⟨[("digit" : Str), ("full" : Str)], [("digit" : Str), ("full" : Str)], [],
 [
 .ite (.cmp .Eq (.l 0) (.k (V.str ("x" : Str)))) [
  .ret (.tup [(.l 1), (.l 1)])] [],
 .ite (.bop .Or [(.cmp .Eq (.l 0) (.k (V.str ("z" : Str)))), (.cmp .Eq (.l 0) (.k (V.str ("?" : Str))))]) [
  .ret (.tup [(.k (V.int 0)), (.l 1)])] [],
 .ret (.tup [(.bm .find (.k (V.str ("0123456789abcdef" : Str))) [(.l 0)]), (.k (V.int 0))])]⟩
noncomputable def b8 : FB := ⟨[("base" : Str), ("digits" : Str)], [("base" : Str), ("digits" : Str), ("count" : Str), ("full" : Str), ("a" : Str), ("b" : Str), ("digit" : Str), ("low" : Str), ("high" : Str)], [],
 [
 .asg 2 (.call 4 [(.l 0)]),
 .asg 3 (.call 0 [(.l 2)]),
 .asg 4 (.k (V.int 0)),
 .asg 5 (.k (V.int 0)),
 .forL 6 (.l 1) [
  .asgT [7, 8] (.call 7 [(.l 6), (.l 3)]),
  .asg 4 (.bin .BitOr (.bin .LShift (.l 4) (.l 2)) (.l 7)),
  .asg 5 (.bin .BitOr (.bin .LShift (.l 5) (.l 2)) (.l 8))],
 .ret (.tup [(.bin .Mult (.l 2) (.bf .len [(.l 1)])), (.l 4), (.l 5)])]⟩
noncomputable def b9 : FB := ⟨[("w" : Str), ("width" : Str), ("a" : Str), ("b" : Str), ("first" : Str)], [("w" : Str), ("width" : Str), ("a" : Str), ("b" : Str), ("first" : Str), ("fill" : Str)], [],
 [
 .ite (.cmp .Gt (.l 0) (.l 1)) [
  .asg 5 (.bin .BitXor (.call 0 [(.l 0)]) (.call 0 [(.l 1)])),
  .ite (.cmp .Eq (.l 4) (.k (V.str ("x" : Str)))) [
   .asg 2 (.bin .BitOr (.l 2) (.l 5))] [],
  .ite (.cmp .In (.l 4) (.tup [(.k (V.str ("x" : Str))), (.k (V.str ("z" : Str))), (.k (V.str ("?" : Str)))])) [
   .asg 3 (.bin .BitOr (.l 3) (.l 5))] []] [],
 .ret (.call 1 [(.l 0), (.l 2), (.l 3)])]⟩
noncomputable def b10 : FB := ⟨[("value" : Str), ("at" : Str)], [("value" : Str), ("at" : Str), ("size" : Str), ("base" : Str), ("signed" : Str), ("digits" : Str), ("first" : Str), ("plain" : Str), ("width" : Str), ("a" : Str), ("b" : Str), ("w" : Str)], [],
 [
 .asgT [2, 3, 4, 5] (.l 0),
 .asg 6 (.sub (.l 5) (.k (V.int 0))),
 .asg 7 (.bop .Or [(.cmp .Eq (.l 3) (.k (V.str ("" : Str)))), (.cmp .Eq (.l 3) (.k (V.str ("d" : Str))))]),
 .ite (.cmp .Gt (.bf .len [(.l 5)]) (.g ("MOST_BITS" : Str) 65536)) [
  .rai eSource [(.k (V.str ("bad_size" : Str))), (.l 1)]] [],
 .ite (.bop .And [(.l 7), (.cmp .In (.l 6) (.tup [(.k (V.str ("x" : Str))), (.k (V.str ("z" : Str))), (.k (V.str ("?" : Str)))]))]) [
  .asgT [8, 9, 10] (.call 8 [(.k (V.str ("b" : Str))), (.l 5)])] [
  .ite (.l 7) [
   .asg 9 (.call 5 [(.l 5)]),
   .asg 10 (.k (V.int 0)),
   .asg 8 (.bf .max [.stop, (.k (V.int 1))]),
   .ite (.bop .And [(.l 4), (.cmp .Eq (.l 2) (.k (V.str ("" : Str))))]) [
    .asg 8 (.bin .Add (.l 8) (.k (V.int 1)))] []] [
   .asgT [8, 9, 10] (.call 8 [(.l 3), (.l 5)])]],
 .ite (.cmp .Eq (.l 2) (.k (V.str ("" : Str)))) [
  .asg 11 (.bf .max [(.g ("PLAIN_BITS" : Str) 32), (.l 8)]),
  .ite (.cmp .Gt (.l 11) (.g ("MOST_BITS" : Str) 65536)) [
   .rai eSource [(.k (V.str ("bad_size" : Str))), (.l 1)]] []] [
  .asg 11 (.call 6 [(.l 2), (.l 1)])],
 .ret (.tup [(.call 9 [(.l 11), (.l 8), (.l 9), (.l 10), (.l 6)]), (.l 4), (.cmp .NotEq (.l 2) (.k (V.str ("" : Str))))])]⟩
noncomputable def b11 : FB := ⟨[("base" : Str), ("digits" : Str)], [("base" : Str), ("digits" : Str), ("allowed" : Str), ("digit" : Str)], [],
 [
 .ite (.cmp .Eq (.l 1) (.k (V.str ("" : Str)))) [
  .ret (.k (V.bool false))] [],
 .ite (.bop .And [(.cmp .Eq (.l 0) (.k (V.str ("d" : Str)))), (.cmp .In (.l 1) (.tup [(.k (V.str ("x" : Str))), (.k (V.str ("z" : Str))), (.k (V.str ("?" : Str)))]))]) [
  .ret (.k (V.bool true))] [],
 .asg 2 (.k (V.str ("0123456789" : Str))),
 .ite (.cmp .Eq (.l 0) (.k (V.str ("b" : Str)))) [
  .asg 2 (.k (V.str ("01xz?" : Str)))] [
  .ite (.cmp .Eq (.l 0) (.k (V.str ("o" : Str)))) [
   .asg 2 (.k (V.str ("01234567xz?" : Str)))] [
   .ite (.cmp .Eq (.l 0) (.k (V.str ("h" : Str)))) [
    .asg 2 (.k (V.str ("0123456789abcdefxz?" : Str)))] []]],
 .forL 3 (.l 1) [
  .ite (.cmp .NotIn (.l 3) (.l 2)) [
   .ret (.k (V.bool false))] []],
 .ret (.k (V.bool true))]⟩
noncomputable def b12 : FB := ⟨[("v" : Str)], [("v" : Str), ("rest" : Str), ("row" : Str)], [],
 [
 .asg 1 (.bin .BitAnd (.sub (.l 0) (.k (V.int 1))) (.bin .BitXor (.sub (.l 0) (.k (V.int 2))) (.call 0 [(.sub (.l 0) (.k (V.int 0)))]))),
 .asg 2 (.lst []),
 .whl (.cmp .Gt (.l 1) (.k (V.int 0))) [
  .ex (.bm .append (.l 2) [(.bf .chr [(.bin .BitAnd (.l 1) (.k (V.int 255)))])]),
  .shr 1 (.k (V.int 8))],
 .ex (.bm .reverse (.l 2) []),
 .ret (.bm .join (.k (V.str ("" : Str))) [(.l 2)])]⟩
noncomputable def b13 : FB := ⟨[("kernel" : Str), ("args" : Str), ("thread" : Str)], [("kernel" : Str), ("args" : Str), ("thread" : Str), ("ctx" : Str), ("values" : Str), ("arg" : Str)], [],
 [
 .asg 3 (.mi ("context" : Str) (.l 0) [(.l 2)]),
 .asg 4 (.lst []),
 .forL 5 (.l 1) [
  .ite (.cmp .Eq (.sub (.l 5) (.k (V.int 0))) (.k (V.str ("s" : Str)))) [
   .ex (.bm .append (.l 4) [(.sub (.l 5) (.k (V.int 1)))])] [
   .ite (.cmp .Eq (.sub (.l 5) (.k (V.int 0))) (.k (V.str ("e" : Str)))) [
    .ex (.bm .append (.l 4) [(.tup [(.call 3 [(.sub (.l 5) (.k (V.int 1))), (.l 3)]), (.sub (.l 5) (.k (V.int 2)))])])] [
    .ex (.bm .append (.l 4) [(.k V.none)])]]],
 .ex (.mi ("close_context" : Str) (.l 0) [(.l 3)]),
 .ret (.l 4)]⟩
noncomputable def b14 : FB := ⟨[("kernel" : Str), ("name" : Str), ("args" : Str), ("thread" : Str)], [("kernel" : Str), ("name" : Str), ("args" : Str), ("thread" : Str), ("values" : Str)], [],
 [
 .asg 4 (.call 13 [(.l 0), (.slc (.l 2) none (some (.k (V.int 1)))), (.l 3)]),
 .ite (.bop .Or [(.cmp .Eq (.bf .len [(.l 4)]) (.k (V.int 0))), (.cmp .Is (.sub (.l 4) (.k (V.int 0))) (.k V.none))]) [
  .rai eDesign [(.k (V.str ("wrong_arguments" : Str))), (.neg (.k (V.int 1))), (.l 1)]] [],
 .ite (.bf .isStr [(.sub (.l 4) (.k (V.int 0)))]) [
  .ret (.sub (.l 4) (.k (V.int 0)))] [],
 .ret (.call 12 [(.sub (.sub (.l 4) (.k (V.int 0))) (.k (V.int 0)))])]⟩
noncomputable def b15 : FB := ⟨[("kernel" : Str), ("name" : Str), ("args" : Str), ("place" : Str), ("usual" : Str), ("thread" : Str)], [("kernel" : Str), ("name" : Str), ("args" : Str), ("place" : Str), ("usual" : Str), ("thread" : Str), ("found" : Str), ("ctx" : Str)], [],
 [
 .ite (.bop .Or [(.cmp .LtE (.bf .len [(.l 2)]) (.l 3)), (.cmp .Eq (.sub (.sub (.l 2) (.l 3)) (.k (V.int 0))) (.k (V.str ("none" : Str))))]) [
  .ret (.l 4)] [],
 .asg 6 (.k V.none),
 .ite (.cmp .Eq (.sub (.sub (.l 2) (.l 3)) (.k (V.int 0))) (.k (V.str ("e" : Str)))) [
  .asg 7 (.mi ("context" : Str) (.l 0) [(.l 5)]),
  .asg 6 (.call 2 [(.call 3 [(.sub (.sub (.l 2) (.l 3)) (.k (V.int 1))), (.l 7)]), (.sub (.sub (.l 2) (.l 3)) (.k (V.int 2)))]),
  .ex (.mi ("close_context" : Str) (.l 0) [(.l 7)])] [],
 .ite (.cmp .Is (.l 6) (.k V.none)) [
  .rai eDesign [(.k (V.str ("wrong_arguments" : Str))), (.neg (.k (V.int 1))), (.l 1)]] [],
 .ret (.l 6)]⟩
noncomputable def b16 : FB := ⟨[("rows" : Str), ("start" : Str), ("finish" : Str)], [("rows" : Str), ("start" : Str), ("finish" : Str), ("low" : Str), ("high" : Str), ("step" : Str), ("placed" : Str), ("address" : Str), ("given" : Str), ("digits" : Str)], [],
 [
 .asg 3 (.bf .min [(.l 1), (.l 2)]),
 .asg 4 (.bf .max [(.l 1), (.l 2)]),
 .asg 5 (.k (V.int 1)),
 .ite (.cmp .Lt (.l 2) (.l 1)) [
  .asg 5 (.neg (.k (V.int 1)))] [],
 .asg 6 (.lst []),
 .asg 7 (.l 1),
 .forT [8, 9] (.l 0) [
  .ite (.cmp .IsNot (.l 8) (.k V.none)) [
   .asg 7 (.l 8),
   .ite (.bop .Or [(.cmp .Lt (.l 7) (.l 3)), (.cmp .Gt (.l 7) (.l 4))]) [
    .rai eFormat [(.k (V.str ("address_out_of_range" : Str))), (.neg (.k (V.int 1))), (.l 9)]] []] [],
  .ite (.bop .And [(.cmp .LtE (.l 3) (.l 7)), (.cmp .LtE (.l 7) (.l 4))]) [
   .ex (.bm .append (.l 6) [(.tup [(.l 7), (.l 9)])])] [],
  .asg 7 (.bin .Add (.l 7) (.l 5))],
 .ret (.l 6)]⟩
noncomputable def b17 : FB := ⟨[("text" : Str), ("at" : Str)], [("text" : Str), ("at" : Str), ("mark" : Str), ("end" : Str)], [],
 [
 .ite (.cmp .In (.sub (.l 0) (.l 1)) (.k (V.str (" \t\x0d\n\x0c\x0b" : Str)))) [
  .ret (.bin .Add (.l 1) (.k (V.int 1)))] [],
 .asg 2 (.slc (.l 0) (some (.l 1)) (some (.bin .Add (.l 1) (.k (V.int 2))))),
 .asg 3 (.l 1),
 .ite (.cmp .Eq (.l 2) (.k (V.str ("//" : Str)))) [
  .whl (.bop .And [(.cmp .Lt (.l 3) (.bf .len [(.l 0)])), (.cmp .NotEq (.sub (.l 0) (.l 3)) (.k (V.str ("\n" : Str))))]) [
   .asg 3 (.bin .Add (.l 3) (.k (V.int 1)))]] [
  .ite (.cmp .Eq (.l 2) (.k (V.str ("/*" : Str)))) [
   .asg 3 (.bin .Add (.l 1) (.k (V.int 2))),
   .whl (.cmp .NotEq (.slc (.l 0) (some (.l 3)) (some (.bin .Add (.l 3) (.k (V.int 2))))) (.k (V.str ("*/" : Str)))) [
    .ite (.cmp .GtE (.l 3) (.bf .len [(.l 0)])) [
     .rai eFormat [(.k (V.str ("unfinished_remark" : Str))), (.l 1)]] [],
    .asg 3 (.bin .Add (.l 3) (.k (V.int 1)))],
   .asg 3 (.bin .Add (.l 3) (.k (V.int 2)))] []],
 .ret (.l 3)]⟩
noncomputable def b18 : FB := ⟨[("word" : Str), ("at" : Str)], [("word" : Str), ("at" : Str), ("digits" : Str), ("value" : Str), ("digit" : Str), ("place" : Str)], [],
 [
 .asg 2 (.bm .replace (.slc (.l 0) (some (.k (V.int 1))) none) [(.k (V.str ("_" : Str))), (.k (V.str ("" : Str)))]),
 .ite (.cmp .Eq (.l 2) (.k (V.str ("" : Str)))) [
  .rai eFormat [(.k (V.str ("bad_address" : Str))), (.l 1), (.l 0)]] [],
 .asg 3 (.k (V.int 0)),
 .forL 4 (.l 2) [
  .asg 5 (.bm .find (.k (V.str ("0123456789abcdef" : Str))) [(.l 4)]),
  .ite (.cmp .Lt (.l 5) (.k (V.int 0))) [
   .rai eFormat [(.k (V.str ("bad_address" : Str))), (.l 1), (.l 0)]] [],
  .asg 3 (.bin .Add (.bin .Mult (.l 3) (.k (V.int 16))) (.l 5))],
 .ret (.l 3)]⟩
noncomputable def b19 : FB := ⟨[("text" : Str), ("hexadecimal" : Str)], [("text" : Str), ("hexadecimal" : Str), ("base" : Str), ("rows" : Str), ("address" : Str), ("index" : Str), ("end" : Str), ("word" : Str), ("digits" : Str)], [],
 [
 .asg 2 (.k (V.str ("b" : Str))),
 .ite (.l 1) [
  .asg 2 (.k (V.str ("h" : Str)))] [],
 .asg 3 (.lst []),
 .asg 4 (.k V.none),
 .asg 5 (.k (V.int 0)),
 .whl (.cmp .Lt (.l 5) (.bf .len [(.l 0)])) [
  .asg 6 (.call 17 [(.l 0), (.l 5)]),
  .ite (.cmp .Eq (.l 6) (.l 5)) [
   .whl (.bop .And [(.cmp .Lt (.l 6) (.bf .len [(.l 0)])), (.cmp .Eq (.call 17 [(.l 0), (.l 6)]) (.l 6))]) [
    .asg 6 (.bin .Add (.l 6) (.k (V.int 1)))],
   .asg 7 (.bm .lower (.slc (.l 0) (some (.l 5)) (some (.l 6))) []),
   .ite (.cmp .Eq (.sub (.l 7) (.k (V.int 0))) (.k (V.str ("@" : Str)))) [
    .asg 4 (.call 18 [(.l 7), (.l 5)])] [
    .asg 8 (.bm .replace (.l 7) [(.k (V.str ("_" : Str))), (.k (V.str ("" : Str)))]),
    .ite (.nt (.call 11 [(.l 2), (.l 8)])) [
     .rai eFormat [(.k (V.str ("bad_word" : Str))), (.l 5), (.l 7)]] [],
    .ex (.bm .append (.l 3) [(.tup [(.l 4), (.l 8)])]),
    .asg 4 (.k V.none)]] [],
  .asg 5 (.l 6)],
 .ret (.l 3)]⟩
noncomputable def b20 : FB := ⟨[], [], [],
 [
 .ret (.tup [(.k (V.str ("wire" : Str))), (.k (V.str ("tri" : Str))), (.k (V.str ("wand" : Str))), (.k (V.str ("wor" : Str))), (.k (V.str ("tri0" : Str))), (.k (V.str ("tri1" : Str))), (.k (V.str ("trireg" : Str))), (.k (V.str ("supply0" : Str))), (.k (V.str ("supply1" : Str)))])]⟩
noncomputable def b21 : FB := ⟨[("self" : Str), ("key" : Str), ("path" : Str), ("kind" : Str), ("width" : Str), ("signed" : Str), ("msb" : Str), ("lsb" : Str)], [("self" : Str), ("key" : Str), ("path" : Str), ("kind" : Str), ("width" : Str), ("signed" : Str), ("msb" : Str), ("lsb" : Str)], [],
 [
 .asgA (.l 0) ("key" : Str) (.l 1),
 .asgA (.l 0) ("path" : Str) (.l 2),
 .asgA (.l 0) ("kind" : Str) (.l 3),
 .asgA (.l 0) ("width" : Str) (.l 4),
 .asgA (.l 0) ("signed" : Str) (.l 5),
 .asgA (.l 0) ("msb" : Str) (.l 6),
 .asgA (.l 0) ("lsb" : Str) (.l 7),
 .asgA (.l 0) ("first" : Str) (.k V.none),
 .asgA (.l 0) ("last" : Str) (.k V.none),
 .asgA (.l 0) ("init" : Str) (.k V.none),
 .asgA (.l 0) ("at" : Str) (.neg (.k (V.int 1))),
 .asgA (.l 0) ("scalar" : Str) (.k (V.bool false))]⟩
noncomputable def b22 : FB := ⟨[("self" : Str)], [("self" : Str)], [],
 [
 .ret (.cmp .In (.att (.l 0) ("kind" : Str)) (.call 20 []))]⟩
noncomputable def b23 : FB := ⟨[("self" : Str)], [("self" : Str)], [],
 [
 .ite (.cmp .Is (.att (.l 0) ("first" : Str)) (.k V.none)) [
  .ret (.k (V.int 1))] [],
 .ret (.bin .Add (.bf .abs [(.bin .Sub (.att (.l 0) ("last" : Str)) (.att (.l 0) ("first" : Str)))]) (.k (V.int 1)))]⟩
noncomputable def b24 : FB := ⟨[("self" : Str), ("index" : Str)], [("self" : Str), ("index" : Str), ("place" : Str)], [],
 [
 .ite (.cmp .Is (.att (.l 0) ("first" : Str)) (.k V.none)) [
  .ret (.neg (.k (V.int 1)))] [],
 .ite (.cmp .GtE (.att (.l 0) ("last" : Str)) (.att (.l 0) ("first" : Str))) [
  .asg 2 (.bin .Sub (.l 1) (.att (.l 0) ("first" : Str)))] [
  .asg 2 (.bin .Sub (.att (.l 0) ("first" : Str)) (.l 1))],
 .ite (.bop .Or [(.cmp .Lt (.l 2) (.k (V.int 0))), (.cmp .GtE (.l 2) (.mc cSignal 23 ("words" : Str) (.l 0) []))]) [
  .ret (.neg (.k (V.int 1)))] [],
 .ret (.l 2)]⟩
noncomputable def b25 : FB := ⟨[("self" : Str)], [("self" : Str)], [],
 [
 .asgA (.l 0) ("signals" : Str) (.lst []),
 .asgA (.l 0) ("assigns" : Str) (.lst []),
 .asgA (.l 0) ("gates" : Str) (.lst []),
 .asgA (.l 0) ("udps" : Str) (.lst []),
 .asgA (.l 0) ("processes" : Str) (.lst []),
 .asgA (.l 0) ("routines" : Str) (.lst []),
 .asgA (.l 0) ("scopes" : Str) (.lst []),
 .asgA (.l 0) ("tops" : Str) (.lst []),
 .asgA (.l 0) ("ports" : Str) (.lst []),
 .asgA (.l 0) ("maker" : Str) (.k V.none),
 .asgA (.l 0) ("nesting" : Str) (.k (V.int 0)),
 .asgA (.l 0) ("by_path" : Str) .dct0]⟩
noncomputable def b26 : FB := ⟨[("self" : Str), ("path" : Str), ("kind" : Str), ("width" : Str), ("signed" : Str), ("msb" : Str), ("lsb" : Str), ("at" : Str)], [("self" : Str), ("path" : Str), ("kind" : Str), ("width" : Str), ("signed" : Str), ("msb" : Str), ("lsb" : Str), ("at" : Str), ("signal" : Str)], [],
 [
 .asg 8 (.new cSignal 21 [(.bf .len [(.att (.l 0) ("signals" : Str))]), (.l 1), (.l 2), (.l 3), (.l 4), (.l 5), (.l 6)]),
 .asgA (.l 8) ("at" : Str) (.l 7),
 .ex (.bm .append (.att (.l 0) ("signals" : Str)) [(.l 8)]),
 .asgS (.att (.l 0) ("by_path" : Str)) (.l 1) (.att (.l 8) ("key" : Str)),
 .ret (.l 8)]⟩
noncomputable def b27 : FB := ⟨[("self" : Str), ("number" : Str), ("code" : Str), ("pc" : Str), ("frame" : Str), ("path" : Str)], [("self" : Str), ("number" : Str), ("code" : Str), ("pc" : Str), ("frame" : Str), ("path" : Str)], [],
 [
 .asgA (.l 0) ("number" : Str) (.l 1),
 .asgA (.l 0) ("code" : Str) (.l 2),
 .asgA (.l 0) ("pc" : Str) (.l 3),
 .asgA (.l 0) ("frame" : Str) (.l 4),
 .asgA (.l 0) ("path" : Str) (.l 5),
 .asgA (.l 0) ("calls" : Str) (.lst []),
 .asgA (.l 0) ("scopes" : Str) (.lst []),
 .asgA (.l 0) ("parent" : Str) (.neg (.k (V.int 1))),
 .asgA (.l 0) ("children" : Str) .dct0,
 .asgA (.l 0) ("done" : Str) (.k (V.bool false)),
 .asgA (.l 0) ("wait" : Str) (.k V.none),
 .asgA (.l 0) ("stamp" : Str) (.k (V.int 0)),
 .asgA (.l 0) ("looking" : Str) (.k (V.bool false)),
 .asgA (.l 0) ("again" : Str) (.k (V.bool false))]⟩
noncomputable def b28 : FB := ⟨[("kernel" : Str), ("name" : Str), ("base" : Str), ("args" : Str), ("thread" : Str)], [("kernel" : Str), ("name" : Str), ("base" : Str), ("args" : Str), ("thread" : Str), ("file_name" : Str), ("key" : Str), ("signal" : Str), ("low" : Str), ("high" : Str), ("start" : Str), ("finish" : Str), ("rows" : Str), ("address" : Str), ("digits" : Str), ("vector" : Str)], [],
 [
 .asg 5 (.call 14 [(.l 0), (.l 1), (.l 3), (.l 4)]),
 .ite (.bop .Or [(.cmp .Lt (.bf .len [(.l 3)]) (.k (V.int 2))), (.cmp .Gt (.bf .len [(.l 3)]) (.k (V.int 4))), (.cmp .NotEq (.sub (.sub (.l 3) (.k (V.int 1))) (.k (V.int 0))) (.k (V.str ("mem" : Str))))]) [
  .rai eDesign [(.k (V.str ("wrong_arguments" : Str))), (.neg (.k (V.int 1))), (.l 1)]] [],
 .ite (.cmp .NotIn (.l 5) (.att (.l 0) ("files" : Str))) [
  .rai eFormat [(.k (V.str ("unknown_file" : Str))), (.neg (.k (V.int 1))), (.l 5)]] [],
 .asg 6 (.sub (.sub (.l 3) (.k (V.int 1))) (.k (V.int 1))),
 .asg 7 (.sub (.att (.att (.l 0) ("store" : Str)) ("signals" : Str)) (.l 6)),
 .ite (.mc cSignal 22 ("is_net" : Str) (.l 7) []) [
  .rai eDesign [(.k (V.str ("assign_to_net" : Str))), (.neg (.k (V.int 1))), (.l 1)]] [],
 .asg 8 (.bf .min [(.att (.l 7) ("first" : Str)), (.att (.l 7) ("last" : Str))]),
 .asg 9 (.bf .max [(.att (.l 7) ("first" : Str)), (.att (.l 7) ("last" : Str))]),
 .asg 10 (.call 15 [(.l 0), (.l 1), (.l 3), (.k (V.int 2)), (.l 8), (.l 4)]),
 .asg 11 (.call 15 [(.l 0), (.l 1), (.l 3), (.k (V.int 3)), (.l 9), (.l 4)]),
 .ite (.bop .Or [(.cmp .Lt (.bf .min [(.l 10), (.l 11)]) (.l 8)), (.cmp .Gt (.bf .max [(.l 10), (.l 11)]) (.l 9))]) [
  .rai eFormat [(.k (V.str ("address_out_of_range" : Str))), (.neg (.k (V.int 1))), (.l 5)]] [],
 .asg 12 (.call 19 [(.sub (.att (.l 0) ("files" : Str)) (.l 5)), (.cmp .Eq (.l 2) (.k (V.str ("h" : Str))))]),
 .forT [13, 14] (.call 16 [(.l 12), (.l 10), (.l 11)]) [
  .asg 15 (.sub (.call 10 [(.tup [(.bf .str [(.att (.l 7) ("width" : Str))]), (.l 2), (.k (V.bool false)), (.l 14)]), (.neg (.k (V.int 1)))]) (.k (V.int 0))),
  .ex (.mi ("set_word" : Str) (.l 0) [(.l 6), (.mc cSignal 24 ("place" : Str) (.l 7) [(.l 13)]), (.l 15)])]]⟩
noncomputable def b29 : FB := ⟨[("script" : Str)], [("script" : Str), ("cells" : Str)], [],
 [
 .asgI 1 (.slc (.bf .list [(.l 0)]) none (some (.k (V.int 40)))),
 .ex (.bm .reverse (.l 1) []),
 .ret (.bin .Add (.lst [(.k (V.int 5))]) (.l 1))]⟩
noncomputable def b30 : FB := ⟨[("pool" : Str), ("limit" : Str)], [("pool" : Str), ("limit" : Str), ("cell" : Str)], [],
 [
 .ite (.cmp .Eq (.bf .len [(.l 0)]) (.k (V.int 1))) [
  .asgS (.l 0) (.k (V.int 0)) (.bin .Mod (.bin .Add (.bin .Mult (.sub (.l 0) (.k (V.int 0))) (.k (V.int 75))) (.k (V.int 74))) (.k (V.int 65537))),
  .ret (.bin .Mod (.bin .FloorDiv (.sub (.l 0) (.k (V.int 0))) (.k (V.int 8))) (.l 1))] [],
 .asg 2 (.bm .pop (.l 0) []),
 .ite (.cmp .GtE (.bin .FloorDiv (.l 2) (.l 1)) (.k (V.int 1000000))) [
  .ex (.bm .append (.l 0) [(.bin .FloorDiv (.l 2) (.l 1))])] [],
 .asgS (.l 0) (.k (V.int 0)) (.bin .Mod (.bin .Add (.bin .Add (.bin .Mult (.sub (.l 0) (.k (V.int 0))) (.k (V.int 75))) (.k (V.int 74))) (.bin .Mod (.l 2) (.k (V.int 1009)))) (.k (V.int 65537))),
 .ret (.bin .Mod (.l 2) (.l 1))]⟩
noncomputable def b31 : FB := ⟨[("number" : Str)], [("number" : Str)], [],
 [
 .ret (.tup [(.k (V.str ("e" : Str))), (.tup [(.k (V.str ("const" : Str))), (.k (V.int 8)), (.bin .Mod (.l 0) (.k (V.int 256))), (.k (V.int 0))]), (.k (V.bool true))])]⟩
noncomputable def b32 : FB := ⟨[("digits" : Str), ("hexadecimal" : Str), ("wide" : Str)], [("digits" : Str), ("hexadecimal" : Str), ("wide" : Str), ("spot" : Str), ("digit" : Str), ("turn" : Str), ("rest" : Str), ("low" : Str), ("high" : Str)], [("marks" : Str)],
 [
 .asgC 0 (.lst []),
 .forR 3 (.bf .len [(.l 0)]) [
  .asg 4 (.sub (.l 0) (.bin .Sub (.bin .Sub (.bf .len [(.l 0)]) (.k (V.int 1))) (.l 3))),
  .forR 5 (.ite (.l 1) (.k (V.int 4)) (.k (V.int 1))) [
   .ite (.cmp .In (.l 4) (.k (V.str ("xz?" : Str)))) [
    .ex (.bm .append (.ce 0) [(.l 4)])] [
    .ex (.bm .append (.ce 0) [(.sub (.lst [(.k (V.str ("0" : Str))), (.k (V.str ("1" : Str)))]) (.bin .Mod (.bin .FloorDiv (.bm .index (.k (V.str ("0123456789abcdef" : Str))) [(.l 4)]) (.bin .Pow (.k (V.int 2)) (.l 5))) (.k (V.int 2))))])]]],
 .asg 6 (.ite (.cmp .In (.sub (.l 0) (.k (V.int 0))) (.k (V.str ("xz?" : Str)))) (.sub (.l 0) (.k (V.int 0))) (.k (V.str ("0" : Str)))),
 .asgC 0 (.slc (.bin .Add (.ce 0) (.bin .Mult (.lst [(.l 6)]) (.l 2))) none (some (.l 2))),
 .asg 7 (.bf .sum [(.cPow (.l 2) 0 ("1x" : Str))]),
 .asg 8 (.bf .sum [(.cPow (.l 2) 0 ("xz?" : Str))]),
 .ret (.tup [(.l 2), (.l 7), (.l 8)])]⟩
noncomputable def b33 : FB := ⟨[("signals" : Str), ("text" : Str)], [("signals" : Str), ("text" : Str), ("_law_context" : Str), ("_law_back" : Str), ("_law_set" : Str)], [("kernel" : Str)],
 [
 .asgC 0 (.new cThread 27 [(.k (V.int 0)), (.lst []), (.k (V.int 0)), (.lst []), (.k (V.str ("top" : Str)))]),
 .asgA (.ce 0) ("store" : Str) (.new cThread 27 [(.k (V.int 1)), (.lst []), (.k (V.int 0)), (.lst []), (.k (V.str ("top" : Str)))]),
 .asgA (.att (.ce 0) ("store" : Str)) ("signals" : Str) (.l 0),
 .asgA (.ce 0) ("files" : Str) (.dct ("f1" : Str) (.l 1)),
 .asgA (.ce 0) ("told" : Str) (.lst []),
 .asgA (.ce 0) ("lent" : Str) (.lst []),
 .asgA (.ce 0) ("back" : Str) (.lst []),
 .defn 2 0,
 .defn 3 1,
 .defn 4 2,
 .asgA (.ce 0) ("context" : Str) (.l 2),
 .asgA (.ce 0) ("close_context" : Str) (.l 3),
 .asgA (.ce 0) ("set_word" : Str) (.l 4),
 .ret (.ce 0)]⟩
noncomputable def b34 : FB := ⟨[("signals" : Str), ("text" : Str), ("task" : Str), ("base" : Str), ("handed" : Str)], [("signals" : Str), ("text" : Str), ("task" : Str), ("base" : Str), ("handed" : Str), ("kernel" : Str), ("found" : Str), ("error" : Str)], [],
 [
 .asg 5 (.call 33 [(.l 0), (.l 1)]),
 .asg 6 (.tup [(.k (V.str ("none" : Str))), (.k (V.str ("" : Str)))]),
 .tryE (.call 28 [(.l 5), (.l 2), (.l 3), (.l 4), (.l 5)]) 7 6 [(eDesign, ("design" : Str)), (eFormat, ("format" : Str))],
 .ret (.ite (.bop .And [(.cmp .Eq (.att (.l 5) ("told" : Str)) (.lst [])), (.cmp .Eq (.att (.l 5) ("lent" : Str)) (.att (.l 5) ("back" : Str)))]) (.l 6) (.tup [(.k (V.str ("set" : Str))), (.k (V.str ("" : Str)))]))]⟩
noncomputable def b35 : FB := ⟨[("script" : Str)], [("script" : Str), ("pool" : Str), ("many" : Str), ("low" : Str), ("upwards" : Str), ("hexadecimal" : Str), ("wide" : Str), ("count" : Str), ("high" : Str), ("design" : Str), ("memory" : Str), ("net" : Str), ("start" : Str), ("last_one" : Str), ("handed" : Str), ("way" : Str), ("least" : Str), ("most" : Str), ("step" : Str), ("text" : Str), ("dues" : Str), ("address" : Str), ("turn" : Str), ("digits" : Str), ("spot" : Str), ("signs" : Str), ("base" : Str), ("task" : Str), ("kernel" : Str), ("kept" : Str), ("name" : Str), ("spoken" : Str), ("unknown" : Str), ("beyond" : Str), ("wanting" : Str), ("outside" : Str), ("wrongs" : Str), ("sort" : Str)], [],
 [
 .asg 1 (.call 29 [(.l 0)]),
 .asg 2 (.bin .Add (.k (V.int 1)) (.call 30 [(.l 1), (.k (V.int 5))])),
 .asg 3 (.bin .Sub (.call 30 [(.l 1), (.k (V.int 4))]) (.k (V.int 1))),
 .asg 4 (.cmp .Eq (.call 30 [(.l 1), (.k (V.int 2))]) (.k (V.int 1))),
 .asg 5 (.cmp .Eq (.call 30 [(.l 1), (.k (V.int 2))]) (.k (V.int 1))),
 .asg 6 (.bin .Add (.k (V.int 1)) (.call 30 [(.l 1), (.k (V.int 9))])),
 .asg 7 (.call 30 [(.l 1), (.k (V.int 8))]),
 .asg 8 (.bin .Sub (.bin .Add (.l 3) (.l 2)) (.k (V.int 1))),
 .asg 9 (.new cDesign 25 []),
 .ex (.mc cDesign 26 ("add_signal" : Str) (.l 9) [(.k (V.str ("top.a" : Str))), (.k (V.str ("reg" : Str))), (.k (V.int 3)), (.k (V.bool false)), (.k (V.int 2)), (.k (V.int 0)), (.neg (.k (V.int 1)))]),
 .asg 10 (.mc cDesign 26 ("add_signal" : Str) (.l 9) [(.k (V.str ("top.m" : Str))), (.k (V.str ("reg" : Str))), (.l 6), (.k (V.bool false)), (.bin .Sub (.l 6) (.k (V.int 1))), (.k (V.int 0)), (.neg (.k (V.int 1)))]),
 .asgA (.l 10) ("first" : Str) (.ite (.l 4) (.l 3) (.l 8)),
 .asgA (.l 10) ("last" : Str) (.ite (.l 4) (.l 8) (.l 3)),
 .asg 11 (.mc cDesign 26 ("add_signal" : Str) (.l 9) [(.k (V.str ("top.n" : Str))), (.k (V.str ("wire" : Str))), (.l 6), (.k (V.bool false)), (.bin .Sub (.l 6) (.k (V.int 1))), (.k (V.int 0)), (.neg (.k (V.int 1)))]),
 .asgA (.l 11) ("first" : Str) (.l 3),
 .asgA (.l 11) ("last" : Str) (.l 8),
 .asg 12 (.l 3),
 .asg 13 (.l 8),
 .asg 14 (.lst [(.tup [(.k (V.str ("s" : Str))), (.k (V.str ("f1" : Str)))]), (.tup [(.k (V.str ("mem" : Str))), (.k (V.int 1))])]),
 .ite (.cmp .Eq (.call 30 [(.l 1), (.k (V.int 2))]) (.k (V.int 1))) [
  .asgS (.l 14) (.k (V.int 0)) (.tup [(.k (V.str ("e" : Str))), (.tup [(.k (V.str ("const" : Str))), (.k (V.int 16)), (.bin .Add (.bin .Mult (.k (V.int 102)) (.k (V.int 256))) (.k (V.int 49))), (.k (V.int 0))]), (.k (V.bool false))])] [],
 .asg 15 (.call 30 [(.l 1), (.k (V.int 4))]),
 .ite (.cmp .Eq (.l 15) (.k (V.int 1))) [
  .asg 12 (.bin .Add (.l 3) (.call 30 [(.l 1), (.l 2)])),
  .ex (.bm .append (.l 14) [(.call 31 [(.l 12)])])] [],
 .ite (.cmp .Gt (.l 15) (.k (V.int 1))) [
  .asg 12 (.bin .Add (.l 3) (.call 30 [(.l 1), (.l 2)])),
  .asg 13 (.bin .Add (.l 3) (.call 30 [(.l 1), (.l 2)])),
  .asg 14 (.bin .Add (.l 14) (.lst [(.call 31 [(.l 12)]), (.call 31 [(.l 13)])])),
  .ite (.bop .And [(.cmp .Eq (.l 15) (.k (V.int 3))), (.cmp .Eq (.l 13) (.l 8))]) [
   .asgS (.l 14) (.k (V.int 3)) (.tup [(.k (V.str ("none" : Str)))])] []] [],
 .ite (.bop .And [(.cmp .Eq (.l 3) (.neg (.k (V.int 1)))), (.cmp .Eq (.l 12) (.neg (.k (V.int 1)))), (.cmp .Gt (.bf .len [(.l 14)]) (.k (V.int 2)))]) [
  .asgS (.l 14) (.k (V.int 2)) (.tup [(.k (V.str ("e" : Str))), (.tup [(.k (V.str ("const" : Str))), (.k (V.int 1)), (.k (V.int 1)), (.k (V.int 0))]), (.k (V.bool true))])] [],
 .asg 16 (.bf .min [(.l 12), (.l 13)]),
 .asg 17 (.bf .max [(.l 12), (.l 13)]),
 .asg 18 (.ite (.cmp .Lt (.l 13) (.l 12)) (.neg (.k (V.int 1))) (.k (V.int 1))),
 .asg 19 (.k (V.str ("// words\n" : Str))),
 .asg 20 (.lst []),
 .asg 21 (.l 12),
 .forR 22 (.l 7) [
  .ite (.bop .And [(.cmp .Eq (.call 30 [(.l 1), (.k (V.int 3))]) (.k (V.int 2))), (.cmp .GtE (.l 17) (.k (V.int 0)))]) [
   .asg 21 (.bin .Add (.bf .max [(.l 16), (.k (V.int 0))]) (.call 30 [(.l 1), (.bin .Add (.bin .Sub (.l 17) (.bf .max [(.l 16), (.k (V.int 0))])) (.k (V.int 1)))])),
   .asg 19 (.bin .Add (.l 19) (.js [(.k (V.str ("@" : Str))), (.fmt (.l 21)), (.k (V.str (" " : Str)))]))] [],
  .asg 23 (.k (V.str ("" : Str))),
  .forR 24 (.bin .Add (.k (V.int 1)) (.call 30 [(.l 1), (.k (V.int 4))])) [
   .asg 25 (.ite (.l 5) (.k (V.str ("01xz?9af" : Str))) (.k (V.str ("01xz?011" : Str)))),
   .asg 23 (.bin .Add (.l 23) (.sub (.l 25) (.call 30 [(.l 1), (.k (V.int 8))])))],
  .asg 19 (.bin .Add (.bin .Add (.l 19) (.l 23)) (.sub (.lst [(.k (V.str ("\n" : Str))), (.k (V.str (" /* a */ " : Str)))]) (.call 30 [(.l 1), (.k (V.int 2))]))),
  .ite (.cmp2 .LtE .LtE (.l 16) (.l 21) (.l 17)) [
   .asg 24 (.ite (.l 4) (.bin .Sub (.l 21) (.l 3)) (.bin .Sub (.l 8) (.l 21))),
   .ex (.bm .append (.l 20) [(.tup [(.k (V.int 1)), (.l 24), (.call 32 [(.l 23), (.l 5), (.l 6)])])])] [],
  .asg 21 (.bin .Add (.l 21) (.l 18))],
 .asg 26 (.ite (.l 5) (.k (V.str ("h" : Str))) (.k (V.str ("b" : Str)))),
 .asg 27 (.bin .Add (.k (V.str ("$readmem" : Str))) (.l 26)),
 .asg 28 (.call 33 [(.att (.l 9) ("signals" : Str)), (.l 19)]),
 .asg 29 (.bf .list [(.l 14)]),
 .ex (.call 28 [(.l 28), (.l 27), (.l 26), (.l 14), (.l 28)]),
 .ite (.bop .Or [(.cmp .NotEq (.att (.l 28) ("told" : Str)) (.l 20)), (.cmp .NotEq (.att (.l 28) ("lent" : Str)) (.att (.l 28) ("back" : Str))), (.cmp .NotEq (.l 14) (.l 29))]) [
  .ret (.k (V.bool false))] [],
 .asg 30 (.tup [(.k (V.str ("s" : Str))), (.k (V.str ("f1" : Str)))]),
 .asg 31 (.tup [(.k (V.str ("mem" : Str))), (.k (V.int 1))]),
 .asg 32 (.tup [(.k (V.str ("e" : Str))), (.tup [(.k (V.str ("const" : Str))), (.k (V.int 8)), (.k (V.int 0)), (.k (V.int 1))]), (.k (V.bool true))]),
 .asg 33 (.call 31 [(.sub (.lst [(.bin .Sub (.l 3) (.k (V.int 1))), (.bin .Add (.l 8) (.k (V.int 1)))]) (.call 30 [(.l 1), (.k (V.int 2))]))]),
 .asg 34 (.tup [(.k (V.str ("design" : Str))), (.k (V.str ("wrong_arguments" : Str)))]),
 .asg 35 (.tup [(.k (V.str ("format" : Str))), (.k (V.str ("address_out_of_range" : Str)))]),
 .asg 36 (.lst [(.tup [(.lst []), (.l 34)]), (.tup [(.lst [(.tup [(.k (V.str ("none" : Str)))]), (.l 31)]), (.l 34)]), (.tup [(.lst [(.l 30)]), (.l 34)]), (.tup [(.lst [(.l 30), (.tup [(.k (V.str ("e" : Str))), (.tup [(.k (V.str ("const" : Str))), (.k (V.int 8)), (.k (V.int 1)), (.k (V.int 0))]), (.k (V.bool false))])]), (.l 34)]), (.tup [(.lst [(.l 30), (.l 31), (.tup [(.k (V.str ("none" : Str)))]), (.tup [(.k (V.str ("none" : Str)))]), (.tup [(.k (V.str ("none" : Str)))])]), (.l 34)]), (.tup [(.lst [(.l 30), (.l 31), (.l 32)]), (.l 34)]), (.tup [(.lst [(.l 30), (.l 31), (.tup [(.k (V.str ("s" : Str))), (.k (V.str ("0" : Str)))])]), (.l 34)]), (.tup [(.lst [(.l 30), (.l 31), (.tup [(.k (V.str ("none" : Str)))]), (.l 32)]), (.l 34)]), (.tup [(.lst [(.tup [(.k (V.str ("s" : Str))), (.k (V.str ("f2" : Str)))]), (.l 31)]), (.tup [(.k (V.str ("format" : Str))), (.k (V.str ("unknown_file" : Str)))])]), (.tup [(.lst [(.l 30), (.tup [(.k (V.str ("mem" : Str))), (.k (V.int 2))])]), (.tup [(.k (V.str ("design" : Str))), (.k (V.str ("assign_to_net" : Str)))])]), (.tup [(.lst [(.l 30), (.l 31), (.l 33)]), (.l 35)]), (.tup [(.lst [(.l 30), (.l 31), (.call 31 [(.l 3)]), (.l 33)]), (.l 35)])]),
 .asg 37 (.call 30 [(.l 1), (.k (V.int 13))]),
 .ite (.cmp .Eq (.l 37) (.k (V.int 12))) [
  .asg 19 (.bin .Add (.js [(.k (V.str ("@" : Str))), (.fmt (.bin .Add (.l 8) (.k (V.int 2)))), (.k (V.str (" 1\n" : Str)))]) (.l 19)),
  .ret (.cmp .Eq (.call 34 [(.att (.l 9) ("signals" : Str)), (.l 19), (.l 27), (.l 26), (.l 14)]) (.l 35))] [],
 .ret (.cmp .Eq (.call 34 [(.att (.l 9) ("signals" : Str)), (.l 19), (.l 27), (.l 26), (.sub (.sub (.l 36) (.l 37)) (.k (V.int 0)))]) (.sub (.sub (.l 36) (.l 37)) (.k (V.int 1))))]⟩
noncomputable def k0 : FB := ⟨[("thread" : Str)], [("thread" : Str)], [("kernel" : Str)],
 [
 .ex (.bm .append (.att (.ce 0) ("lent" : Str)) [(.bf .len [(.att (.ce 0) ("lent" : Str))])]),
 .ret (.sub (.att (.ce 0) ("lent" : Str)) (.neg (.k (V.int 1))))]⟩
noncomputable def k1 : FB := ⟨[("ctx" : Str)], [("ctx" : Str)], [("kernel" : Str)],
 [
 .ex (.bm .append (.att (.ce 0) ("back" : Str)) [(.l 0)])]⟩
noncomputable def k2 : FB := ⟨[("key" : Str), ("spot" : Str), ("vector" : Str)], [("key" : Str), ("spot" : Str), ("vector" : Str)], [("kernel" : Str)],
 [
 .ex (.bm .append (.att (.ce 0) ("told" : Str)) [(.tup [(.l 0), (.l 1), (.l 2)])])]⟩
noncomputable def fbs : List FB := [b0, b1, b2, b3, b4, b5, b6, b7, b8, b9, b10, b11, b12, b13, b14, b15, b16, b17, b18, b19, b20, b21, b22, b23, b24, b25, b26, b27, b28, b29, b30, b31, b32, b33, b34, b35]
noncomputable def fb (f : Nat) : Option FB := fbs[f]?
noncomputable def kb : Nat → Option FB
 | 0 => some k0
 | 1 => some k1
 | 2 => some k2
 | _ => none
noncomputable def runB (O : Orc) (F : FB) (vs : List V) (h : H) : Res V :=
 if vs.length = F.ps.length then
  endR (xss O (F.cel.map fun _ => h.length) 4096 F.code (F.loc.map fun x => (F.ps.zip vs).lookup x) (h ++ F.cel.map fun x => LO.cel ((F.ps.zip vs).lookup x)))
 else .bad
noncomputable def runBC (O : Orc) (F : FB) (cs : List Nat) (vs : List V) (h : H) : Res V :=
 if vs.length = F.ps.length then endR (xss O cs 4096 F.code (F.loc.map fun x => (F.ps.zip vs).lookup x) h) else .bad
noncomputable def nx (O : Orc) : Orc := ⟨fun f vs h => match fb f with
  | some F => runB O F vs h
  | none => .bad,
 fun k cs vs h => match kb k with
  | some F => runBC O F cs vs h
  | none => .bad⟩
theorem runB_0 {O : Orc} {F : FB} {vs : List V} {h : H} {loc : Loc} (hl : vs.length = F.ps.length) (hc : F.cel = []) (e : (F.loc.map fun x => (F.ps.zip vs).lookup x) = loc) : runB O F vs h = endR (xss O [] 4096 F.code loc h) := by
 unfold runB
 rw [if_pos hl, hc, e]
 simp only [List.map_nil, List.append_nil]
theorem runB_1 {O : Orc} {F : FB} {vs : List V} {h : H} {loc : Loc} {x : Str} {v : Option V} (hl : vs.length = F.ps.length) (hc : F.cel = [x]) (hx : (F.ps.zip vs).lookup x = v) (e : (F.loc.map fun x => (F.ps.zip vs).lookup x) = loc) : runB O F vs h = endR (xss O [h.length] 4096 F.code loc (h ++ [.cel v])) := by
 unfold runB
 rw [if_pos hl, hc, e]
 simp only [List.map_cons, List.map_nil, hx]
theorem r0 (O : Orc) (a0 : V) (h : H) : (nx O).fn 0 [a0] h = endR (xss O [] 4096 b0.code [some a0] h) := runB_0 (F := b0) (vs := [a0]) rfl rfl rfl
theorem r1 (O : Orc) (a0 a1 a2 : V) (h : H) : (nx O).fn 1 [a0, a1, a2] h = endR (xss O [] 4096 b1.code [some a0, some a1, some a2, none] h) := runB_0 (F := b1) (vs := [a0, a1, a2]) rfl rfl rfl
theorem r2 (O : Orc) (a0 a1 : V) (h : H) : (nx O).fn 2 [a0, a1] h = endR (xss O [] 4096 b2.code [some a0, some a1, none, none, none] h) := runB_0 (F := b2) (vs := [a0, a1]) rfl rfl rfl
theorem r3 (O : Orc) (a0 a1 : V) (h : H) : (nx O).fn 3 [a0, a1] h = endR (xss O [h.length] 4096 b3.code [some a0, none] (h ++ [.cel (some a1)])) := runB_1 (F := b3) (vs := [a0, a1]) rfl rfl rfl rfl
theorem r4 (O : Orc) (a0 : V) (h : H) : (nx O).fn 4 [a0] h = endR (xss O [] 4096 b4.code [some a0] h) := runB_0 (F := b4) (vs := [a0]) rfl rfl rfl
theorem r5 (O : Orc) (a0 : V) (h : H) : (nx O).fn 5 [a0] h = endR (xss O [] 4096 b5.code [some a0, none, none] h) := runB_0 (F := b5) (vs := [a0]) rfl rfl rfl
theorem r6 (O : Orc) (a0 a1 : V) (h : H) : (nx O).fn 6 [a0, a1] h = endR (xss O [] 4096 b6.code [some a0, some a1, none] h) := runB_0 (F := b6) (vs := [a0, a1]) rfl rfl rfl
theorem r7 (O : Orc) (a0 a1 : V) (h : H) : (nx O).fn 7 [a0, a1] h = endR (xss O [] 4096 b7.code [some a0, some a1] h) := runB_0 (F := b7) (vs := [a0, a1]) rfl rfl rfl
theorem r8 (O : Orc) (a0 a1 : V) (h : H) : (nx O).fn 8 [a0, a1] h = endR (xss O [] 4096 b8.code [some a0, some a1, none, none, none, none, none, none, none] h) := runB_0 (F := b8) (vs := [a0, a1]) rfl rfl rfl
theorem r9 (O : Orc) (a0 a1 a2 a3 a4 : V) (h : H) : (nx O).fn 9 [a0, a1, a2, a3, a4] h = endR (xss O [] 4096 b9.code [some a0, some a1, some a2, some a3, some a4, none] h) := runB_0 (F := b9) (vs := [a0, a1, a2, a3, a4]) rfl rfl rfl
theorem r10 (O : Orc) (a0 a1 : V) (h : H) : (nx O).fn 10 [a0, a1] h = endR (xss O [] 4096 b10.code [some a0, some a1, none, none, none, none, none, none, none, none, none, none] h) := runB_0 (F := b10) (vs := [a0, a1]) rfl rfl rfl
theorem r11 (O : Orc) (a0 a1 : V) (h : H) : (nx O).fn 11 [a0, a1] h = endR (xss O [] 4096 b11.code [some a0, some a1, none, none] h) := runB_0 (F := b11) (vs := [a0, a1]) rfl rfl rfl
theorem r12 (O : Orc) (a0 : V) (h : H) : (nx O).fn 12 [a0] h = endR (xss O [] 4096 b12.code [some a0, none, none] h) := runB_0 (F := b12) (vs := [a0]) rfl rfl rfl
theorem r13 (O : Orc) (a0 a1 a2 : V) (h : H) : (nx O).fn 13 [a0, a1, a2] h = endR (xss O [] 4096 b13.code [some a0, some a1, some a2, none, none, none] h) := runB_0 (F := b13) (vs := [a0, a1, a2]) rfl rfl rfl
theorem r14 (O : Orc) (a0 a1 a2 a3 : V) (h : H) : (nx O).fn 14 [a0, a1, a2, a3] h = endR (xss O [] 4096 b14.code [some a0, some a1, some a2, some a3, none] h) := runB_0 (F := b14) (vs := [a0, a1, a2, a3]) rfl rfl rfl
theorem r15 (O : Orc) (a0 a1 a2 a3 a4 a5 : V) (h : H) : (nx O).fn 15 [a0, a1, a2, a3, a4, a5] h = endR (xss O [] 4096 b15.code [some a0, some a1, some a2, some a3, some a4, some a5, none, none] h) := runB_0 (F := b15) (vs := [a0, a1, a2, a3, a4, a5]) rfl rfl rfl
theorem r16 (O : Orc) (a0 a1 a2 : V) (h : H) : (nx O).fn 16 [a0, a1, a2] h = endR (xss O [] 4096 b16.code [some a0, some a1, some a2, none, none, none, none, none, none, none] h) := runB_0 (F := b16) (vs := [a0, a1, a2]) rfl rfl rfl
theorem r17 (O : Orc) (a0 a1 : V) (h : H) : (nx O).fn 17 [a0, a1] h = endR (xss O [] 4096 b17.code [some a0, some a1, none, none] h) := runB_0 (F := b17) (vs := [a0, a1]) rfl rfl rfl
theorem r18 (O : Orc) (a0 a1 : V) (h : H) : (nx O).fn 18 [a0, a1] h = endR (xss O [] 4096 b18.code [some a0, some a1, none, none, none, none] h) := runB_0 (F := b18) (vs := [a0, a1]) rfl rfl rfl
theorem r19 (O : Orc) (a0 a1 : V) (h : H) : (nx O).fn 19 [a0, a1] h = endR (xss O [] 4096 b19.code [some a0, some a1, none, none, none, none, none, none, none] h) := runB_0 (F := b19) (vs := [a0, a1]) rfl rfl rfl
theorem r20 (O : Orc) (h : H) : (nx O).fn 20 [] h = endR (xss O [] 4096 b20.code [] h) := runB_0 (F := b20) (vs := []) rfl rfl rfl
theorem r21 (O : Orc) (a0 a1 a2 a3 a4 a5 a6 a7 : V) (h : H) : (nx O).fn 21 [a0, a1, a2, a3, a4, a5, a6, a7] h = endR (xss O [] 4096 b21.code [some a0, some a1, some a2, some a3, some a4, some a5, some a6, some a7] h) := runB_0 (F := b21) (vs := [a0, a1, a2, a3, a4, a5, a6, a7]) rfl rfl rfl
theorem r22 (O : Orc) (a0 : V) (h : H) : (nx O).fn 22 [a0] h = endR (xss O [] 4096 b22.code [some a0] h) := runB_0 (F := b22) (vs := [a0]) rfl rfl rfl
theorem r23 (O : Orc) (a0 : V) (h : H) : (nx O).fn 23 [a0] h = endR (xss O [] 4096 b23.code [some a0] h) := runB_0 (F := b23) (vs := [a0]) rfl rfl rfl
theorem r24 (O : Orc) (a0 a1 : V) (h : H) : (nx O).fn 24 [a0, a1] h = endR (xss O [] 4096 b24.code [some a0, some a1, none] h) := runB_0 (F := b24) (vs := [a0, a1]) rfl rfl rfl
theorem r25 (O : Orc) (a0 : V) (h : H) : (nx O).fn 25 [a0] h = endR (xss O [] 4096 b25.code [some a0] h) := runB_0 (F := b25) (vs := [a0]) rfl rfl rfl
theorem r26 (O : Orc) (a0 a1 a2 a3 a4 a5 a6 a7 : V) (h : H) : (nx O).fn 26 [a0, a1, a2, a3, a4, a5, a6, a7] h = endR (xss O [] 4096 b26.code [some a0, some a1, some a2, some a3, some a4, some a5, some a6, some a7, none] h) := runB_0 (F := b26) (vs := [a0, a1, a2, a3, a4, a5, a6, a7]) rfl rfl rfl
theorem r27 (O : Orc) (a0 a1 a2 a3 a4 a5 : V) (h : H) : (nx O).fn 27 [a0, a1, a2, a3, a4, a5] h = endR (xss O [] 4096 b27.code [some a0, some a1, some a2, some a3, some a4, some a5] h) := runB_0 (F := b27) (vs := [a0, a1, a2, a3, a4, a5]) rfl rfl rfl
theorem r28 (O : Orc) (a0 a1 a2 a3 a4 : V) (h : H) : (nx O).fn 28 [a0, a1, a2, a3, a4] h = endR (xss O [] 4096 b28.code [some a0, some a1, some a2, some a3, some a4, none, none, none, none, none, none, none, none, none, none, none] h) := runB_0 (F := b28) (vs := [a0, a1, a2, a3, a4]) rfl rfl rfl
theorem r29 (O : Orc) (a0 : V) (h : H) : (nx O).fn 29 [a0] h = endR (xss O [] 4096 b29.code [some a0, none] h) := runB_0 (F := b29) (vs := [a0]) rfl rfl rfl
theorem r30 (O : Orc) (a0 a1 : V) (h : H) : (nx O).fn 30 [a0, a1] h = endR (xss O [] 4096 b30.code [some a0, some a1, none] h) := runB_0 (F := b30) (vs := [a0, a1]) rfl rfl rfl
theorem r31 (O : Orc) (a0 : V) (h : H) : (nx O).fn 31 [a0] h = endR (xss O [] 4096 b31.code [some a0] h) := runB_0 (F := b31) (vs := [a0]) rfl rfl rfl
theorem r32 (O : Orc) (a0 a1 a2 : V) (h : H) : (nx O).fn 32 [a0, a1, a2] h = endR (xss O [h.length] 4096 b32.code [some a0, some a1, some a2, none, none, none, none, none, none] (h ++ [.cel (none)])) := runB_1 (F := b32) (vs := [a0, a1, a2]) rfl rfl rfl rfl
theorem r33 (O : Orc) (a0 a1 : V) (h : H) : (nx O).fn 33 [a0, a1] h = endR (xss O [h.length] 4096 b33.code [some a0, some a1, none, none, none] (h ++ [.cel (none)])) := runB_1 (F := b33) (vs := [a0, a1]) rfl rfl rfl rfl
theorem r34 (O : Orc) (a0 a1 a2 a3 a4 : V) (h : H) : (nx O).fn 34 [a0, a1, a2, a3, a4] h = endR (xss O [] 4096 b34.code [some a0, some a1, some a2, some a3, some a4, none, none, none] h) := runB_0 (F := b34) (vs := [a0, a1, a2, a3, a4]) rfl rfl rfl
theorem r35 (O : Orc) (a0 : V) (h : H) : (nx O).fn 35 [a0] h = endR (xss O [] 4096 b35.code [some a0, none, none, none, none, none, none, none, none, none, none, none, none, none, none, none, none, none, none, none, none, none, none, none, none, none, none, none, none, none, none, none, none, none, none, none, none, none] h) := runB_0 (F := b35) (vs := [a0]) rfl rfl rfl
theorem rk0 (O : Orc) (cs : List Nat) (a0 : V) (h : H) : (nx O).cl 0 cs [a0] h = endR (xss O cs 4096 k0.code [some a0] h) := rfl
theorem rk1 (O : Orc) (cs : List Nat) (a0 : V) (h : H) : (nx O).cl 1 cs [a0] h = endR (xss O cs 4096 k1.code [some a0] h) := rfl
theorem rk2 (O : Orc) (cs : List Nat) (a0 a1 a2 : V) (h : H) : (nx O).cl 2 cs [a0, a1, a2] h = endR (xss O cs 4096 k2.code [some a0, some a1, some a2] h) := rfl
theorem ilt {α : Type} {l : List α} {i : Nat} {a : α} (e : l[i]? = some a) : i < l.length := (List.getElem?_eq_some_iff.mp e).1
theorem le5 {x : Nat} (h : x ≤ 4000) : x ≤ 100000 := Nat.le_trans h (by decide)
theorem lt60 {i x : Nat} (h : i < x) (hx : x ≤ 4000) : i < 2 ^ 60 := Nat.lt_of_lt_of_le h (Nat.le_trans hx (by decide))
theorem dTe {l : List Nat} {i a : Nat} (e : l[i]? = some a) : decide ((i : Int) < (l.length : Int)) = true := decide_eq_true (Int.ofNat_lt.mpr (ilt e))
theorem cd1 {j m n : Nat} (h : j + (m + 1) = n) : j + 1 + m = n := (Nat.succ_add j m).trans h
theorem cd2 {j m n : Nat} (h : j + (m + 1) = n) : j < n := h ▸ Nat.lt_add_of_pos_right (Nat.succ_pos m)
theorem at_mid {pre w suf : List Nat} {j : Nat} (hj : j < w.length) : (pre ++ w ++ suf)[pre.length + j]? = some w[j] := by
 rw [List.append_assoc, List.getElem?_append_right (Nat.le_add_right _ _), Nat.add_sub_cancel_left, List.getElem?_append_left hj, List.getElem?_eq_getElem hj]
theorem at_end {pre w suf : List Nat} {c : Nat} : (pre ++ w ++ c :: suf)[pre.length + w.length]? = some c := by
 rw [← List.length_append, List.getElem?_append_right (Nat.le_refl _), Nat.sub_self]; rfl
theorem shl_ok {k a : Nat} (hk : k ≤ 1000) (ha : a < 2 ^ 64) : 0 ≤ (k : Int) ∧ (k : Int) ≤ 1000 ∧ (a : Int).natAbs < 2 ^ 64 := ⟨Int.natCast_nonneg k, Int.ofNat_le.mpr hk, ha⟩
theorem mul_ok {a b : Nat} (ha : a < 2 ^ 40) (hb : b < 2 ^ 20) : (a : Int).natAbs < 2 ^ 40 ∧ (b : Int).natAbs < 2 ^ 20 := ⟨ha, hb⟩
theorem div_ok {b : Nat} (h0 : 0 < b) (hb : b < 2 ^ 20) : (b : Int) ≠ 0 ∧ (b : Int).natAbs < 2 ^ 20 := ⟨fun e => Nat.ne_of_gt h0 (Int.ofNat.inj e), hb⟩
theorem pow_ok {k : Nat} (hk : k ≤ 1000) : (2 : Int) = 2 ∧ 0 ≤ (k : Int) ∧ (k : Int) ≤ 1000 := ⟨rfl, Int.natCast_nonneg k, Int.ofNat_le.mpr hk⟩
theorem app_le {α : Type} {l a b : List α} (e : l = a ++ b) : a.length ≤ l.length := by rw [e, List.length_append]; exact Nat.le_add_right _ _
theorem ix_ok {i : Nat} (h : i < 2 ^ 60) : -(2 ^ 60) ≤ (i : Int) ∧ (i : Int) < 2 ^ 60 := ⟨Int.le_trans (by decide) (Int.natCast_nonneg i), Int.ofNat_lt.mpr h⟩
theorem shl1 {k : Nat} (hk : k ≤ 1000) : 0 ≤ (k : Int) ∧ (k : Int) ≤ 1000 ∧ Int.natAbs 1 < 2 ^ 64 := ⟨Int.natCast_nonneg k, Int.ofNat_le.mpr hk, by decide⟩
theorem nab {a : Int} {b : Nat} (h0 : 0 ≤ a) (h : a < (b : Int)) : a.natAbs < b := Int.ofNat_lt.mp (by rw [Int.natAbs_of_nonneg h0]; exact h)
noncomputable def S (l : List Nat) : Str := ⟨l.toArray⟩
theorem S_len (l : List Nat) : (S l).length = l.length := by simp [S, Str.length]
theorem S_app (l m : List Nat) : S l ++ S m = S (l ++ m) := by
 show Str.mk (l.toArray ++ m.toArray) = _
 simp [S]
theorem S_inj {l m : List Nat} : S l = S m ↔ l = m := by simp [S]
theorem S_cps (l : List Nat) : (S l).cps.toList = l := by simp [S]
theorem S_eq (l m : List Nat) : (S l == S m) = decide (l = m) := by
 rw [Bool.eq_iff_iff, beq_iff_eq, decide_eq_true_eq, S_inj]
theorem S_nil : ("" : Str) = S [] := by decide +kernel
theorem S_eq1 (a b : Nat) : (S [a] == S [b]) = decide (a = b) := by rw [S_eq]; simp
theorem S_e1 (a : Nat) (r : List Nat) : (S (a :: r) == ("" : Str)) = false := by rw [S_nil, S_eq]; simp
@[simp] theorem i_int {a b : Int} : (V.int a = V.int b) = (a = b) := propext ⟨fun e => by cases e; rfl, fun e => by rw [e]⟩
@[simp] theorem i_str {a b : Str} : (V.str a = V.str b) = (a = b) := propext ⟨fun e => by cases e; rfl, fun e => by rw [e]⟩
@[simp] theorem i_tup {a b : List V} : (V.tup a = V.tup b) = (a = b) := propext ⟨fun e => by cases e; rfl, fun e => by rw [e]⟩
@[simp] theorem i_ref {a b : Nat} : (V.ref a = V.ref b) = (a = b) := propext ⟨fun e => by cases e; rfl, fun e => by rw [e]⟩
@[simp] theorem i_bool {a b : Bool} : (V.bool a = V.bool b) = (a = b) := propext ⟨fun e => by cases e; rfl, fun e => by rw [e]⟩
theorem bok {α β : Type} (a : α) (h : H) (f : α → H → Res β) : (Res.ok a h).bind f = f a h := rfl
theorem bexc {α β : Type} (C : Addr) (k : Str) (h : H) (f : α → H → Res β) : (Res.exc C k h : Res α).bind f = .exc C k h := rfl
theorem okP_pos {p : Prop} [Decidable p] {r : Res V} (h : p) : okP p r = r := if_pos h
theorem dT {p : Prop} [Decidable p] (h : p) : decide p = true := decide_eq_true h
theorem dF {p : Prop} [Decidable p] (h : ¬ p) : decide p = false := decide_eq_false h
theorem optBs (b : Bool) (h : H) : optB (some b) h = .ok b h := rfl
theorem optBn (h : H) : optB none h = .bad := rfl
theorem e_int (h : H) (a b : Int) : eqV h (.int a) (.int b) = some (a == b) := rfl
theorem e_str (h : H) (a b : Str) : eqV h (.str a) (.str b) = some (a == b) := rfl
theorem c_eq (h : H) (a b : V) : cmpV .Eq a b h = eqV h a b := rfl
theorem c_ne (h : H) (a b : V) : cmpV .NotEq a b h = (eqV h a b).map not := rfl
theorem c_lt (h : H) (a b : Int) : cmpV .Lt (.int a) (.int b) h = some (decide (a < b)) := rfl
theorem c_le (h : H) (a b : Int) : cmpV .LtE (.int a) (.int b) h = some (decide (a ≤ b)) := rfl
theorem c_gt (h : H) (a b : Int) : cmpV .Gt (.int a) (.int b) h = some (decide (b < a)) := rfl
theorem c_ge (h : H) (a b : Int) : cmpV .GtE (.int a) (.int b) h = some (decide (b ≤ a)) := rfl
theorem c_is (h : H) (a : V) : cmpV .Is a .none h = isNoneV a := rfl
theorem c_isn (h : H) (a : V) : cmpV .IsNot a .none h = (isNoneV a).map not := rfl
theorem c_in (h : H) (a b : V) : cmpV .In a b h = inV h a b := rfl
theorem c_nin (h : H) (a b : V) : cmpV .NotIn a b h = (inV h a b).map not := rfl
theorem b_add (a b : Int) (h : H) : binV .Add (.int a) (.int b) h = .ok (.int (a + b)) h := rfl
theorem b_adds (a b : Str) (h : H) : binV .Add (.str a) (.str b) h = okP (a.length + b.length ≤ 100000) (.ok (.str (a ++ b)) h) := rfl
theorem b_sub (a b : Int) (h : H) : binV .Sub (.int a) (.int b) h = .ok (.int (a - b)) h := rfl
theorem b_mul (a b : Int) (h : H) : binV .Mult (.int a) (.int b) h = okP (a.natAbs < 2 ^ 40 ∧ b.natAbs < 2 ^ 20) (.ok (.int (a * b)) h) := rfl
theorem b_div (a b : Int) (h : H) : binV .FloorDiv (.int a) (.int b) h = okP (b ≠ 0 ∧ b.natAbs < 2 ^ 20) (.ok (.int (a.fdiv b)) h) := rfl
theorem b_mod (a b : Int) (h : H) : binV .Mod (.int a) (.int b) h = okP (b ≠ 0) (.ok (.int (a.fmod b)) h) := rfl
theorem b_pow (a n : Int) (h : H) : binV .Pow (.int a) (.int n) h = okP (a = 2 ∧ 0 ≤ n ∧ n ≤ 1000) (.ok (.int (2 ^ n.toNat)) h) := rfl
theorem b_shl (a n : Int) (h : H) : binV .LShift (.int a) (.int n) h = okP (0 ≤ n ∧ n ≤ 1000 ∧ a.natAbs < 2 ^ 64) (.ok (.int (a * 2 ^ n.toNat)) h) := rfl
theorem b_shr (a n : Int) (h : H) : binV .RShift (.int a) (.int n) h = okP (0 ≤ n) (.ok (.int (a.fdiv (2 ^ n.toNat))) h) := rfl
theorem b_and (a b : Int) (h : H) : binV .BitAnd (.int a) (.int b) h = .ok (.int (Builtin.bitAnd a b)) h := rfl
theorem b_or (a b : Int) (h : H) : binV .BitOr (.int a) (.int b) h = .ok (.int (Builtin.bitOr a b)) h := rfl
theorem b_xor (a b : Int) (h : H) : binV .BitXor (.int a) (.int b) h = .ok (.int (Builtin.bitXor a b)) h := rfl
theorem seq_nat {i n : Nat} (h : i < n) : seqIndex? (i : Int) n = some i := by
 unfold seqIndex?
 rw [if_neg (Int.not_lt.mpr (Int.natCast_nonneg i))]
 exact if_pos (Bool.and_eq_true_iff.mpr ⟨decide_eq_true (Int.natCast_nonneg i), decide_eq_true (Int.ofNat_lt.mpr h)⟩)
theorem pick_ok {xs : List V} {i : Nat} {v : V} (e : xs[i]? = some v) (hi : i < 2 ^ 60) (h : H) : pickS xs i h = .ok v h := by
 unfold pickS
 rw [seq_nat (List.getElem?_eq_some_iff.mp e).1, Option.bind_some, e, Option.elim_some, okP_pos (ix_ok hi)]
theorem sub_tup {xs : List V} {i : Nat} {v : V} (e : xs[i]? = some v) (hi : i < 2 ^ 60) (h : H) : subV (.tup xs) (.int (i : Int)) h = .ok v h := pick_ok e hi h
theorem t_0 (a : V) (r : List V) (h : H) : subV (.tup (a :: r)) (.int 0) h = .ok a h := sub_tup (i := 0) rfl (by decide) h
theorem t_1 (a b : V) (r : List V) (h : H) : subV (.tup (a :: b :: r)) (.int 1) h = .ok b h := sub_tup (i := 1) rfl (by decide) h
theorem t_2 (a b c : V) (r : List V) (h : H) : subV (.tup (a :: b :: c :: r)) (.int 2) h = .ok c h := sub_tup (i := 2) rfl (by decide) h
theorem t_3 (a b c d : V) (r : List V) (h : H) : subV (.tup (a :: b :: c :: d :: r)) (.int 3) h = .ok d h := sub_tup (i := 3) rfl (by decide) h
theorem t_4 (a b c d e : V) (r : List V) (h : H) : subV (.tup (a :: b :: c :: d :: e :: r)) (.int 4) h = .ok e h := sub_tup (i := 4) rfl (by decide) h
theorem fl_str (x : Str) (h : H) : bfV .len [.str x] h = okP (x.length ≤ 100000) (.ok (.int x.length) h) := rfl
theorem fl_min (a b : Int) (h : H) : bfV .min [.int a, .int b] h = .ok (.int (min a b)) h := rfl
theorem fl_max (a b : Int) (h : H) : bfV .max [.int a, .int b] h = .ok (.int (max a b)) h := rfl
theorem fl_abs (a : Int) (h : H) : bfV .abs [.int a] h = .ok (.int a.natAbs) h := rfl
theorem fl_ord (c : Nat) (h : H) : bfV .ord [.str (S [c])] h = .ok (.int c) h := rfl
theorem fl_str1 (a : Int) (h : H) : bfV .str [.int a] h = okP (a.natAbs < 10 ^ 10) (.ok (.str (Str.ofString (toString a))) h) := rfl
theorem m_find (x y : Str) (h : H) : bmV .find (.str x) [.str y] h = okP (x.length ≤ 100000) (.ok (.int (Txt.find x y)) h) := rfl
theorem m_lower (x : Str) (h : H) : bmV .lower (.str x) [] h = okP (x.length ≤ 100000) (.ok (.str (Txt.lower x)) h) := rfl
theorem m_lstrip (x y : Str) (h : H) : bmV .lstrip (.str x) [.str y] h = okP (x.length ≤ 100000) (.ok (.str (Txt.lstripChars x y)) h) := rfl
theorem on_lower (x : Str) (h : H) : BM.on .lower (.str x) h = true := rfl
theorem on_replace (x : Str) (h : H) : BM.on .replace (.str x) h = true := rfl
theorem on_find (x : Str) (h : H) : BM.on .find (.str x) h = true := rfl
theorem on_lstrip (x : Str) (h : H) : BM.on .lstrip (.str x) h = true := rfl
theorem on_index (x : Str) (h : H) : BM.on .index (.str x) h = true := rfl
theorem on_join (x : Str) (h : H) : BM.on .join (.str x) h = true := rfl
theorem ite_t {α : Sort _} (a b : α) : (if (true : Bool) = true then a else b) = a := rfl
theorem ite_f {α : Sort _} (a b : α) : (if (false : Bool) = true then a else b) = b := rfl
section
variable {O : Orc} {cs : List Nat} {loc : Loc} {h : H}
theorem ev_k {v : V} : ev O cs (.k v) loc h = .ok v h := rfl
theorem ev_g {x : Str} {i : Int} : ev O cs (.g x i) loc h = .ok (.int i) h := rfl
theorem ev_l {i : Nat} : ev O cs (.l i) loc h = (match loc[i]? with
  | some (some v) => .ok v h
  | _ => .bad) := rfl
theorem ev_ce {j : Nat} : ev O cs (.ce j) loc h = (match cs[j]? with
  | some i => match h[i]? with
   | some (.cel (some v)) => .ok v h
   | _ => .bad
  | none => .bad) := rfl
theorem ev_bin {op : Operator} {a b : Ex} : ev O cs (.bin op a b) loc h = (ev O cs a loc h).bind fun x h => (ev O cs b loc h).bind fun y h => binV op x y h := rfl
theorem ev_neg {a : Ex} : ev O cs (.neg a) loc h = (ev O cs a loc h).bind fun x h => x.i?.elim .bad fun i => .ok (.int (-i)) h := rfl
theorem ev_cmp {op : CmpOp} {a b : Ex} : ev O cs (.cmp op a b) loc h = (ev O cs a loc h).bind fun x h => (ev O cs b loc h).bind fun y h => (cmpR op x y h).bind fun r h => .ok (.bool r) h := rfl
theorem ev_bop {op : BoolOp} {xs : List Ex} : ev O cs (.bop op xs) loc h = bops O cs op xs loc h := rfl
theorem ev_ite {c a b : Ex} : ev O cs (.ite c a b) loc h = (tr O cs c loc h).bind fun t h => match t with
  | true => ev O cs a loc h
  | false => ev O cs b loc h := rfl
theorem ev_tup {xs : List Ex} : ev O cs (.tup xs) loc h = (evs O cs xs loc h).bind fun vs h => okP (vs.length ≤ 1000) (.ok (.tup vs) h) := rfl
theorem ev_lst {xs : List Ex} : ev O cs (.lst xs) loc h = (evs O cs xs loc h).bind fun vs h => okP (vs.length ≤ 1000) (newM h (.lst vs)) := rfl
theorem ev_dct {x : Str} {e : Ex} : ev O cs (.dct x e) loc h = (ev O cs e loc (h ++ [.dct []])).bind fun v h' => (dct? h' h.length).elim .bad fun es => if es.isEmpty then .ok (.ref h.length) (h'.set h.length (.dct [(x, v)])) else .bad := rfl
theorem ev_dct0 : ev O cs .dct0 loc h = newM h (.dct []) := rfl
theorem ev_sub {a i : Ex} : ev O cs (.sub a i) loc h = (ev O cs a loc h).bind fun x h => (ev O cs i loc h).bind fun y h => subV x y h := rfl
theorem ev_slc {a : Ex} {lo hi : Option Ex} : ev O cs (.slc a lo hi) loc h = (ev O cs a loc h).bind fun x h => (evo O cs lo loc h).bind fun l h => (evo O cs hi loc h).bind fun u h => slcV x l u h := rfl
theorem ev_att {a : Ex} {n : Str} : ev O cs (.att a n) loc h = (ev O cs a loc h).bind fun x h => attV x n h := rfl
theorem ev_call {f : Nat} {xs : List Ex} : ev O cs (.call f xs) loc h = (evs O cs xs loc h).bind fun vs h => O.fn f vs h := rfl
theorem ev_new {C f : Nat} {xs : List Ex} : ev O cs (.new C f xs) loc h = (evs O cs xs loc h).bind fun vs h =>
   (O.fn f (.ref (h.length + 1) :: vs) (h ++ [.dct [], .ins C h.length])).bind fun v h' => match v with
    | .none => .ok (.ref (h.length + 1)) h'
    | _ => .bad := rfl
theorem ev_bf {b : BF} {xs : List Ex} : ev O cs (.bf b xs) loc h = (evs O cs xs loc h).bind fun vs h => bfV b vs h := rfl
theorem ev_bm {b : BM} {o : Ex} {xs : List Ex} : ev O cs (.bm b o xs) loc h = (ev O cs o loc h).bind fun x h => if b.on x h = true then (evs O cs xs loc h).bind fun vs h => bmV b x vs h else .bad := rfl
theorem ev_mc {C f : Nat} {n : Str} {o : Ex} {xs : List Ex} : ev O cs (.mc C f n o xs) loc h = (ev O cs o loc h).bind fun x h => if insOf C n x h = true then (evs O cs xs loc h).bind fun vs h => O.fn f (x :: vs) h else .bad := rfl
theorem ev_mi {n : Str} {o : Ex} {xs : List Ex} : ev O cs (.mi n o xs) loc h = (ev O cs o loc h).bind fun x h => (attV x n h).bind fun f h => match f with
  | .clo k ds => (evs O cs xs loc h).bind fun vs h => O.cl k ds vs h
  | _ => .bad := rfl
theorem ev_js {xs : List Ex} : ev O cs (.js xs) loc h = jss O cs Str.empty xs loc h := rfl
theorem evs_nil : evs O cs [] loc h = .ok [] h := rfl
theorem evs_cons {e : Ex} {r : List Ex} : evs O cs (e :: r) loc h = (ev O cs e loc h).bind fun v h => (evs O cs r loc h).bind fun vs h => .ok (v :: vs) h := rfl
theorem evo_none : evo O cs none loc h = .ok none h := rfl
theorem evo_some {e : Ex} : evo O cs (some e) loc h = (ev O cs e loc h).bind fun v h => .ok (some v) h := rfl
theorem bops_one {op : BoolOp} {e : Ex} : bops O cs op [e] loc h = (ev O cs e loc h).bind fun v h => .ok v h := rfl
theorem bops_and {e a : Ex} {r : List Ex} : bops O cs .And (e :: a :: r) loc h = (ev O cs e loc h).bind fun v h => (truthR v h).bind fun b h => match b with
  | false => .ok v h
  | true => bops O cs .And (a :: r) loc h := by
 show Res.bind _ _ = _; congr 1; funext v h; show Res.bind _ _ = _; congr 1; funext b h; cases b <;> rfl
theorem bops_or {e a : Ex} {r : List Ex} : bops O cs .Or (e :: a :: r) loc h = (ev O cs e loc h).bind fun v h => (truthR v h).bind fun b h => match b with
  | true => .ok v h
  | false => bops O cs .Or (a :: r) loc h := by
 show Res.bind _ _ = _; congr 1; funext v h; show Res.bind _ _ = _; congr 1; funext b h; cases b <;> rfl
theorem tr_nt {a : Ex} : tr O cs (.nt a) loc h = (tr O cs a loc h).bind fun b h => .ok (!b) h := rfl
theorem tr_cmp {op : CmpOp} {a b : Ex} : tr O cs (.cmp op a b) loc h = (ev O cs a loc h).bind fun x h => (ev O cs b loc h).bind fun y h => cmpR op x y h := rfl
theorem tr_cmp2 {o1 o2 : CmpOp} {a b c : Ex} : tr O cs (.cmp2 o1 o2 a b c) loc h = (ev O cs a loc h).bind fun x h => (ev O cs b loc h).bind fun y h => (cmpR o1 x y h).bind fun r h => match r with
  | true => (ev O cs c loc h).bind fun z h => cmpR o2 y z h
  | false => .ok false h := rfl
theorem tr_bop {op : BoolOp} {xs : List Ex} : tr O cs (.bop op xs) loc h = trs O cs op xs loc h := rfl
theorem tr_ite {c a b : Ex} : tr O cs (.ite c a b) loc h = (tr O cs c loc h).bind fun t h => match t with
  | true => tr O cs a loc h
  | false => tr O cs b loc h := rfl
theorem tr_k {v : V} : tr O cs (.k v) loc h = truthR v h := rfl
theorem tr_l {i : Nat} : tr O cs (.l i) loc h = (match loc[i]? with
  | some (some v) => truthR v h
  | _ => .bad) := rfl
theorem tr_call {f : Nat} {xs : List Ex} : tr O cs (.call f xs) loc h = (evs O cs xs loc h).bind fun vs h => (O.fn f vs h).bind fun v h => truthR v h := rfl
theorem tr_bf {b : BF} {xs : List Ex} : tr O cs (.bf b xs) loc h = (evs O cs xs loc h).bind fun vs h => (bfV b vs h).bind fun v h => truthR v h := rfl
theorem tr_mc {C f : Nat} {n : Str} {o : Ex} {xs : List Ex} : tr O cs (.mc C f n o xs) loc h = (ev O cs o loc h).bind fun x h => if insOf C n x h = true then (evs O cs xs loc h).bind fun vs h => (O.fn f (x :: vs) h).bind fun v h => truthR v h else .bad := rfl
theorem trs_nil {op : BoolOp} : trs O cs op [] loc h = .ok (match op with | .And => true | .Or => false) h := rfl
theorem trs_and {e : Ex} {r : List Ex} : trs O cs .And (e :: r) loc h = (tr O cs e loc h).bind fun b h => match b with
  | false => .ok false h
  | true => trs O cs .And r loc h := by
 show Res.bind _ _ = _; congr 1; funext b h; cases b <;> rfl
theorem trs_or {e : Ex} {r : List Ex} : trs O cs .Or (e :: r) loc h = (tr O cs e loc h).bind fun b h => match b with
  | true => .ok true h
  | false => trs O cs .Or r loc h := by
 show Res.bind _ _ = _; congr 1; funext b h; cases b <;> rfl
theorem jss_nil {out : Str} : jss O cs out [] loc h = .ok (.str out) h := rfl
theorem jss_cons {out : Str} {e : Ex} {r : List Ex} : jss O cs out (e :: r) loc h = (evp O cs e loc h).bind fun v h => match partV v with
  | some x => if out.length + x.length ≤ 100000 then jss O cs (out ++ x) r loc h else .bad
  | none => .bad := rfl
theorem evp_k {v : V} : evp O cs (.k v) loc h = .ok v h := rfl
theorem evp_fmt {e : Ex} : evp O cs (.fmt e) loc h = ev O cs e loc h := rfl
theorem tv_none : truthV h .none = some false := rfl
theorem tv_bool {b : Bool} : truthV h (.bool b) = some b := rfl
theorem tv_int {i : Int} : truthV h (.int i) = some (i != 0) := rfl
theorem tv_str {x : Str} : truthV h (.str x) = if x.length ≤ 100000 then some (x.length != 0) else none := rfl
theorem trR {v : V} : truthR v h = optB (truthV h v) h := rfl
theorem cmR {op : CmpOp} {a b : V} : cmpR op a b h = optB (cmpV op a b h) h := rfl
theorem nv_none : isNoneV .none = some true := rfl
theorem nv_int {i : Int} : isNoneV (.int i) = some false := rfl
theorem nv_str {x : Str} : isNoneV (.str x) = some false := rfl
theorem nv_tup {xs : List V} : isNoneV (.tup xs) = some false := rfl
theorem nv_ref {i : Nat} : isNoneV (.ref i) = some false := rfl
theorem vi_i {a : Int} : (V.int a).i? = some a := rfl
theorem vs_s {a : Str} : (V.str a).s? = some a := rfl
theorem vr_r {a : Nat} : (V.ref a).r? = some a := rfl
theorem pt_tup {is : List Nat} {vs : List V} : putT is (.tup vs) loc = putAll is vs loc := rfl
theorem pa_nil : putAll [] [] loc = some loc := rfl
theorem pa_cons {i : Nat} {is : List Nat} {v : V} {vs : List V} : putAll (i :: is) (v :: vs) loc = putAll is vs (loc.set i (some v)) := rfl
end
theorem chars_S (l : List Nat) : chars (S l) = l.map fun c => V.str (S [c]) := by
 unfold chars
 rw [S_cps]
 rfl
noncomputable def Run {α : Type} (r : Res α) (Q : α → H → Prop) (X : Nat → Str → H → Prop) : Prop := (∃ a h, r = .ok a h ∧ Q a h) ∨ (∃ C k h, r = .exc C k h ∧ X C k h)
noncomputable def NoX : Nat → Str → H → Prop := fun _ _ _ => False
section
variable {α β : Type} {Q : α → H → Prop} {X : Nat → Str → H → Prop} {r : Res α}
theorem run_ok {a : α} {h : H} : Run (.ok a h) Q X ↔ Q a h := by
 constructor
 ·intro x
  rcases x with ⟨_, _, e, q⟩ | ⟨_, _, _, e, _⟩
  ·cases e; exact q
  ·cases e
 ·exact fun q => .inl ⟨_, _, rfl, q⟩
theorem run_exc {C : Nat} {k : Str} {h : H} : Run (.exc C k h : Res α) Q X ↔ X C k h := by
 constructor
 ·intro x
  rcases x with ⟨_, _, e, q⟩ | ⟨_, _, _, e, q⟩
  ·cases e
  ·cases e; exact q
 ·exact fun q => .inr ⟨_, _, _, rfl, q⟩
theorem Run.bind {f : α → H → Res β} {Q' : β → H → Prop} (x : Run r (fun a h => Run (f a h) Q' X) X) : Run (r.bind f) Q' X := by
 rcases x with ⟨a, h, rfl, q⟩ | ⟨C, k, h, rfl, q⟩
 ·exact q
 ·exact .inr ⟨C, k, h, rfl, q⟩
theorem Run.mono {Q' : α → H → Prop} {X' : Nat → Str → H → Prop} (x : Run r Q' X') (y : ∀ a h, Q' a h → Q a h) (z : ∀ C k h, X' C k h → X C k h) : Run r Q X := by
 rcases x with ⟨a, h, e, q⟩ | ⟨C, k, h, e, q⟩
 ·exact .inl ⟨a, h, e, y a h q⟩
 ·exact .inr ⟨C, k, h, e, z C k h q⟩
theorem Run.post {Q' : α → H → Prop} (x : Run r Q' NoX) (y : ∀ a h, Q' a h → Q a h) : Run r Q X := x.mono y fun _ _ _ f => f.elim
theorem Run.eq {a : α} {h : H} (x : Run r (fun b h' => b = a ∧ h' = h) NoX) : r = .ok a h := by
 rcases x with ⟨b, h', rfl, rfl, rfl⟩ | ⟨_, _, _, _, f⟩
 ·rfl
 ·exact f.elim
theorem Run.ok {a : α} {h : H} (q : Q a h) : Run (.ok a h) Q X := run_ok.mpr q
theorem Run.of {a : α} {h : H} (e : r = .ok a h) (q : Q a h) : Run r Q X := e ▸ run_ok.mpr q
end
theorem snoc_ind {α : Type} {P : List α → Prop} (h0 : P []) (h1 : ∀ l a, P l → P (l ++ [a])) (l : List α) : P l := by
 have : ∀ r : List α, P r.reverse := fun r => by
  induction r with
  | nil => exact h0
  | cons a r ih => rw [List.reverse_cons]; exact h1 _ _ ih
 have := this l.reverse
 rwa [List.reverse_reverse] at this
theorem ex_some {α : Type} {a : α} {p : α → Prop} : (∃ l, some a = some l ∧ p l) ↔ p a := ⟨fun ⟨_, e, q⟩ => by cases e; exact q, fun q => ⟨a, rfl, q⟩⟩
noncomputable def Nx (P : Loc → H → Prop) (q : Fl × Loc) (h : H) : Prop := ∃ loc, q = (.next, loc) ∧ P loc h
theorem nx_iff {P : Loc → H → Prop} {loc : Loc} {h : H} : Nx P (.next, loc) h ↔ P loc h := ⟨fun ⟨_, e, q⟩ => by cases e; exact q, fun q => ⟨loc, rfl, q⟩⟩
section
variable {O : Orc} {cs : List Nat} {N : Nat} {loc : Loc} {h : H} {Q : Fl × Loc → H → Prop} {X : Nat → Str → H → Prop} {r : List St}
theorem xss_cons (s : St) (r : List St) : xss O cs N (s :: r) loc h = (xs1 O cs N s loc h).bind fun q h => match q with
  | (.next, loc) => xss O cs N r loc h
  | (.ret v, loc) => .ok (.ret v, loc) h := rfl
theorem xss_app (a r : List St) (loc : Loc) (h : H) : xss O cs N (a ++ r) loc h = (xss O cs N a loc h).bind fun q h => match q with
  | (.next, loc) => xss O cs N r loc h
  | (.ret v, loc) => .ok (.ret v, loc) h := by
 induction a generalizing loc h with
 | nil => rfl
 | cons s a ih =>
  rw [List.cons_append, xss_cons, xss_cons, Res.bind_assoc]
  congr 1
  funext q h
  obtain ⟨q, l⟩ := q
  cases q with
  | next => exact ih l h
  | ret v => rfl
theorem g_nil (x : Q (.next, loc) h) : Run (xss O cs N [] loc h) Q X := Run.ok x
theorem g_seq {s : St} {P : Loc → H → Prop} (x : Run (xs1 O cs N s loc h) (Nx P) X) (y : ∀ loc h, P loc h → Run (xss O cs N r loc h) Q X) : Run (xss O cs N (s :: r) loc h) Q X := by
 rw [xss_cons]
 exact Run.bind (x.mono (fun q h z => by obtain ⟨loc, rfl, p⟩ := z; exact y loc h p) fun _ _ _ z => z)
theorem Run.s1 {α : Type} {t : Res α} {f : α → H → Res (Fl × Loc)} {g : Fl × Loc → H → Res (Fl × Loc)} (x : Run t (fun a h => Run ((f a h).bind g) Q X) X) : Run ((t.bind f).bind g) Q X := by
 rw [Res.bind_assoc]; exact Run.bind x
theorem Run.imp {α : Type} {t : Res α} {Q' Q2 : α → H → Prop} (x : Run t Q' X) (y : ∀ a h, Q' a h → Q2 a h) : Run t Q2 X := x.mono y fun _ _ _ z => z
theorem g_asg {i : Nat} {e : Ex} (x : Run (ev O cs e loc h) (fun v h => Run (xss O cs N r (loc.set i (some v)) h) Q X) X) : Run (xss O cs N (.asg i e :: r) loc h) Q X := by
 rw [xss_cons]; exact Run.s1 x
theorem g_asgC {j : Nat} {e : Ex} (x : Run (ev O cs e loc h) (fun v h => ∃ i w, cs[j]? = some i ∧ h[i]? = some (.cel w) ∧ Run (xss O cs N r loc (h.set i (.cel (some v)))) Q X) X) : Run (xss O cs N (.asgC j e :: r) loc h) Q X := by
 rw [xss_cons]
 refine Run.s1 (x.imp fun v h z => ?_)
 obtain ⟨i, w, e1, e2, z⟩ := z
 rw [e1]; dsimp only; rw [e2]; exact z
theorem g_asgA {o e : Ex} {n : Str} (x : Run (ev O cs e loc h) (fun v h => Run (ev O cs o loc h) (fun y h => Run (setAttV y n v h) (fun _ h => Run (xss O cs N r loc h) Q X) X) X) X) : Run (xss O cs N (.asgA o n e :: r) loc h) Q X := by
 rw [xss_cons]
 exact Run.s1 (x.imp fun v h z => Run.s1 (z.imp fun v h z => Run.s1 z))
theorem g_asgS {o i e : Ex} (x : Run (ev O cs e loc h) (fun v h => Run (ev O cs o loc h) (fun y h => Run (ev O cs i loc h) (fun k h => Run (setSubV y k v h) (fun _ h => Run (xss O cs N r loc h) Q X) X) X) X) X) : Run (xss O cs N (.asgS o i e :: r) loc h) Q X := by
 rw [xss_cons]
 exact Run.s1 (x.imp fun v h z => Run.s1 (z.imp fun v h z => Run.s1 (z.imp fun v h z => Run.s1 z)))
theorem g_asgT {is : List Nat} {e : Ex} (x : Run (ev O cs e loc h) (fun v h => ∃ l, putT is v loc = some l ∧ Run (xss O cs N r l h) Q X) X) : Run (xss O cs N (.asgT is e :: r) loc h) Q X := by
 rw [xss_cons]
 refine Run.s1 (x.imp fun v h z => ?_)
 obtain ⟨l, e1, z⟩ := z
 rw [e1]; exact z
theorem g_ex {e : Ex} (x : Run (ev O cs e loc h) (fun v h => Run (xss O cs N r loc h) Q X) X) : Run (xss O cs N (.ex e :: r) loc h) Q X := by
 rw [xss_cons]; exact Run.s1 x
theorem g_ret {e : Ex} (x : Run (ev O cs e loc h) (fun v h => Q (.ret v, loc) h) X) : Run (xss O cs N (.ret e :: r) loc h) Q X := by
 rw [xss_cons]
 exact Run.s1 (x.imp fun v h z => Run.ok z)
theorem g_ite {c : Ex} {a b : List St} (x : Run (tr O cs c loc h) (fun t h => (t = true → Run (xss O cs N (a ++ r) loc h) Q X) ∧ (t = false → Run (xss O cs N (b ++ r) loc h) Q X)) X) : Run (xss O cs N (.ite c a b :: r) loc h) Q X := by
 rw [xss_cons]
 refine Run.s1 (x.imp fun t h z => ?_)
 cases t with
 | true => have := z.1 rfl; rw [xss_app] at this; exact this
 | false => have := z.2 rfl; rw [xss_app] at this; exact this
theorem g_rai {C : Nat} {xs : List Ex} (x : Run (evs O cs xs loc h) (fun vs h => ∃ k a b, vs = [.str k, a, b] ∧ X C k h) X) : Run (xss O cs N (.rai C xs :: r) loc h) Q X := by
 rw [xss_cons]
 refine Run.s1 (x.imp fun vs h z => ?_)
 obtain ⟨k, a, b, rfl, z⟩ := z
 exact run_exc.mpr z
theorem g_shr {i : Nat} {e : Ex} (x : ∃ v, loc[i]? = some (some v) ∧ Run (ev O cs e loc h) (fun y h => Run (binV .RShift v y h) (fun w h => Run (xss O cs N r (loc.set i (some w)) h) Q X) X) X) : Run (xss O cs N (.shr i e :: r) loc h) Q X := by
 obtain ⟨v, e1, x⟩ := x
 rw [xss_cons, show xs1 O cs N (.shr i e) loc h = (match loc[i]? with
  | some (some x) => (ev O cs e loc h).bind fun y h => (binV .RShift x y h).bind fun v h => .ok (.next, loc.set i (some v)) h
  | _ => .bad) from rfl, e1]
 exact Run.s1 (x.imp fun v h z => Run.s1 z)
section
variable {h1 h2 h3 h4 : H} {v u w : V}
theorem k_asg {i : Nat} {e : Ex} (x : ev O cs e loc h = .ok v h1) (k : Run (xss O cs N r (loc.set i (some v)) h1) Q X) : Run (xss O cs N (.asg i e :: r) loc h) Q X := g_asg (Run.of x k)
theorem k_ex {e : Ex} (x : ev O cs e loc h = .ok v h1) (k : Run (xss O cs N r loc h1) Q X) : Run (xss O cs N (.ex e :: r) loc h) Q X := g_ex (Run.of x k)
theorem k_ret {e : Ex} (x : ev O cs e loc h = .ok v h1) (k : Q (.ret v, loc) h1) : Run (xss O cs N (.ret e :: r) loc h) Q X := g_ret (Run.of x k)
theorem k_ite {c : Ex} {a b : List St} {t : Bool} (x : tr O cs c loc h = .ok t h1) (k : (t = true → Run (xss O cs N (a ++ r) loc h1) Q X) ∧ (t = false → Run (xss O cs N (b ++ r) loc h1) Q X)) : Run (xss O cs N (.ite c a b :: r) loc h) Q X := g_ite (Run.of x k)
theorem k_iteT {c : Ex} {a b : List St} (x : tr O cs c loc h = .ok true h1) (k : Run (xss O cs N (a ++ r) loc h1) Q X) : Run (xss O cs N (.ite c a b :: r) loc h) Q X := k_ite x ⟨fun _ => k, fun q => nomatch q⟩
theorem k_iteF {c : Ex} {a b : List St} (x : tr O cs c loc h = .ok false h1) (k : Run (xss O cs N (b ++ r) loc h1) Q X) : Run (xss O cs N (.ite c a b :: r) loc h) Q X := k_ite x ⟨fun q => (nomatch q), fun _ => k⟩
theorem k_asgT {is : List Nat} {e : Ex} {l : Loc} (x : ev O cs e loc h = .ok v h1) (y : putT is v loc = some l) (k : Run (xss O cs N r l h1) Q X) : Run (xss O cs N (.asgT is e :: r) loc h) Q X := g_asgT (Run.of x ⟨l, y, k⟩)
theorem k_asgC {j i : Nat} {e : Ex} {w : Option V} (x : ev O cs e loc h = .ok v h1) (y : cs[j]? = some i) (z : h1[i]? = some (.cel w)) (k : Run (xss O cs N r loc (h1.set i (.cel (some v)))) Q X) : Run (xss O cs N (.asgC j e :: r) loc h) Q X := g_asgC (Run.of x ⟨i, w, y, z, k⟩)
theorem k_asgA {o e : Ex} {n : Str} {a : Unit} (x : ev O cs e loc h = .ok v h1) (y : ev O cs o loc h1 = .ok u h2) (z : setAttV u n v h2 = .ok a h3) (k : Run (xss O cs N r loc h3) Q X) : Run (xss O cs N (.asgA o n e :: r) loc h) Q X := g_asgA (Run.of x (Run.of y (Run.of z k)))
theorem k_asgS {o i e : Ex} {a : Unit} (x : ev O cs e loc h = .ok v h1) (y : ev O cs o loc h1 = .ok u h2) (y2 : ev O cs i loc h2 = .ok w h3) (z : setSubV u w v h3 = .ok a h4) (k : Run (xss O cs N r loc h4) Q X) : Run (xss O cs N (.asgS o i e :: r) loc h) Q X := g_asgS (Run.of x (Run.of y (Run.of y2 (Run.of z k))))
theorem k_shr {i : Nat} {e : Ex} (a : loc[i]? = some (some w)) (x : ev O cs e loc h = .ok v h1) (y : binV .RShift w v h1 = .ok u h2) (k : Run (xss O cs N r (loc.set i (some u)) h2) Q X) : Run (xss O cs N (.shr i e :: r) loc h) Q X := g_shr ⟨w, a, Run.of x (Run.of y k)⟩
end
theorem loopM_ok {α : Type} {f : α → V} {body : Loc → H → Res (Fl × Loc)} {put : V → Loc → Option Loc} {still : H → Bool} (P : List α → Loc → H → Prop) {xs : List α} (done rest : List α) (loc : Loc) (h : H) (e : xs = done ++ rest) (hp : P done loc h)
  (step : ∀ done v rest, xs = done ++ v :: rest → ∀ loc h, P done loc h → ∃ loc1, put (f v) loc = some loc1 ∧ Run (body loc1 h) (Nx fun loc' h' => still h' = true ∧ P (done ++ [v]) loc' h') X) :
  Run (loopL body put still (rest.map f) loc h) (Nx fun loc' h' => P xs loc' h') X := by
 induction rest generalizing done loc h with
 | nil => exact .inl ⟨_, _, rfl, loc, rfl, by rw [e, List.append_nil]; exact hp⟩
 | cons v rest ih =>
  obtain ⟨loc1, e1, x⟩ := step done v rest e loc h hp
  show Run (match put (f v) loc with
   | none => Res.bad
   | some loc => (body loc h).bind fun q h => match q with
    | (.next, loc) => if still h then loopL body put still (rest.map f) loc h else .bad
    | (.ret v, loc) => .ok (.ret v, loc) h) _ X
  rw [e1]
  refine Run.bind (x.mono (fun q h2 z => ?_) fun _ _ _ z => z)
  obtain ⟨loc2, rfl, e3, e4⟩ := z
  show Run (if still h2 = true then _ else _) _ X
  rw [if_pos e3]
  exact ih (done ++ [v]) loc2 h2 (by rw [e, List.append_assoc]; rfl) e4
theorem loopR_ok {body : Loc → H → Res (Fl × Loc)} {i : Nat} (P : Nat → Loc → H → Prop) (n j : Nat) (loc : Loc) (h : H) (hp : P j loc h)
  (step : ∀ k loc h, k < j + n → P k loc h → Run (body (loc.set i (some (.int k))) h) (Nx fun loc' h' => P (k + 1) loc' h') X) :
  Run (loopR body i j n loc h) (Nx fun loc' h' => P (j + n) loc' h') X := by
 induction n generalizing j loc h with
 | zero => exact .inl ⟨_, _, rfl, loc, rfl, hp⟩
 | succ n ih =>
  show Run ((body (loc.set i (some (.int j))) h).bind _) _ X
  refine Run.bind ((step j loc h (Nat.lt_add_of_pos_right (Nat.succ_pos n)) hp).mono (fun q h2 z => ?_) fun _ _ _ z => z)
  obtain ⟨loc2, rfl, e4⟩ := z
  have := ih (j + 1) loc2 h2 e4 fun k loc h h2 hp => step k loc h (by rw [Nat.add_succ, ← Nat.succ_add]; exact h2) hp
  rwa [show j + 1 + n = j + (n + 1) from Nat.succ_add j n] at this
theorem loopW_ok {test : Loc → H → Res Bool} {body : Loc → H → Res (Fl × Loc)} (P : Nat → Loc → H → Prop) (P' : Loc → H → Prop) (n m : Nat) (loc : Loc) (h : H) (hm : m < n) (hp : P m loc h)
  (step : ∀ m loc h, P m loc h → Run (test loc h) (fun t h => (t = true → Run (body loc h) (Nx fun loc' h' => ∃ m', m' < m ∧ P m' loc' h') X) ∧ (t = false → P' loc h)) X) :
  Run (loopW test body n loc h) (Nx P') X := by
 induction n generalizing m loc h with
 | zero => exact absurd hm (Nat.not_lt_zero _)
 | succ n ih =>
  show Run ((test loc h).bind _) _ X
  refine Run.bind ((step m loc h hp).mono (fun t h z => ?_) fun _ _ _ z => z)
  cases t with
  | false => exact run_ok.mpr ⟨loc, rfl, z.2 rfl⟩
  | true =>
   show Run ((body loc h).bind _) _ X
   refine Run.bind ((z.1 rfl).mono (fun q h2 z => ?_) fun _ _ _ z => z)
   obtain ⟨loc2, rfl, m', e3, e4⟩ := z
   exact ih m' loc2 h2 (Nat.lt_of_lt_of_le e3 (Nat.le_of_lt_succ hm)) e4
theorem same_of {r : Nat} {xs : List V} {h : H} (e : h[r]? = some (.lst xs)) : sameList r xs h = true := by
 exact @decide_eq_true _ (Classical.propDecidable _) e
theorem g_forS {i : Nat} {e : Ex} {b : List St} {l : List Nat} {h1 : H} (he : ev O cs e loc h = .ok (.str (S l)) h1) (P : List Nat → Loc → H → Prop) (h0 : P [] loc h1)
  (step : ∀ done v rest, l = done ++ v :: rest → ∀ loc h, P done loc h → Run (xss O cs N b (loc.set i (some (.str (S [v])))) h) (Nx fun loc' h' => P (done ++ [v]) loc' h') X)
  (y : ∀ loc h, P l loc h → Run (xss O cs N r loc h) Q X) : Run (xss O cs N (.forL i e b :: r) loc h) Q X := by
 refine g_seq (P := fun loc h => P l loc h) ?_ y
 show Run ((ev O cs e loc h).bind _) _ X
 rw [he]
 show Run (loopL (xss O cs N b) (fun v loc => some (loc.set i (some v))) (fun _ => true) (chars (S l)) loc h1) _ X
 rw [chars_S]
 exact loopM_ok (f := fun c => V.str (S [c])) P [] l loc h1 rfl h0 fun done v rest e loc h hp => ⟨_, rfl, (step done v rest e loc h hp).mono (fun q h z => z.elim fun l z => ⟨l, z.1, rfl, z.2⟩) fun _ _ _ z => z⟩
theorem g_forL {α : Type} {f : α → V} {i : Nat} {e : Ex} {b : List St} {l : List α} {h1 : H} {a : Nat} (he : ev O cs e loc h = .ok (.ref a) h1) (ha : h1[a]? = some (.lst (l.map f))) (P : List α → Loc → H → Prop) (h0 : P [] loc h1)
  (step : ∀ done v rest, l = done ++ v :: rest → ∀ loc h, P done loc h → Run (xss O cs N b (loc.set i (some (f v))) h) (Nx fun loc' h' => h'[a]? = some (.lst (l.map f)) ∧ P (done ++ [v]) loc' h') X)
  (y : ∀ loc h, P l loc h → Run (xss O cs N r loc h) Q X) : Run (xss O cs N (.forL i e b :: r) loc h) Q X := by
 refine g_seq (P := fun loc h => P l loc h) ?_ y
 show Run ((ev O cs e loc h).bind _) _ X
 rw [he]
 show Run ((lst? h1 a).elim _ _) _ X
 rw [lst_eq ha]
 exact loopM_ok P [] l loc h1 rfl h0 fun done v rest e loc h hp => ⟨_, rfl, (step done v rest e loc h hp).mono (fun q h z => z.elim fun l z => ⟨l, z.1, same_of z.2.1, z.2.2⟩) fun _ _ _ z => z⟩
theorem g_forT {α : Type} {f : α → V} {is : List Nat} {e : Ex} {b : List St} {l : List α} {h1 : H} {a : Nat} (he : ev O cs e loc h = .ok (.ref a) h1) (ha : h1[a]? = some (.lst (l.map f))) (P : List α → Loc → H → Prop) (h0 : P [] loc h1)
  (step : ∀ done v rest, l = done ++ v :: rest → ∀ loc h, P done loc h → ∃ loc1, putT is (f v) loc = some loc1 ∧ Run (xss O cs N b loc1 h) (Nx fun loc' h' => h'[a]? = some (.lst (l.map f)) ∧ P (done ++ [v]) loc' h') X)
  (y : ∀ loc h, P l loc h → Run (xss O cs N r loc h) Q X) : Run (xss O cs N (.forT is e b :: r) loc h) Q X := by
 refine g_seq (P := fun loc h => P l loc h) ?_ y
 show Run ((ev O cs e loc h).bind _) _ X
 rw [he]
 show Run ((lst? h1 a).elim _ _) _ X
 rw [lst_eq ha]
 refine loopM_ok P [] l loc h1 rfl h0 fun done v rest e loc h hp => ?_
 obtain ⟨loc1, e1, x⟩ := step done v rest e loc h hp
 exact ⟨loc1, e1, x.mono (fun q h z => z.elim fun l z => ⟨l, z.1, same_of z.2.1, z.2.2⟩) fun _ _ _ z => z⟩
theorem g_forR {i : Nat} {e : Ex} {b : List St} {n : Nat} {h1 : H} (he : ev O cs e loc h = .ok (.int n) h1) (hn : n ≤ 1000) (P : Nat → Loc → H → Prop) (h0 : P 0 loc h1)
  (step : ∀ k loc h, k < n → P k loc h → Run (xss O cs N b (loc.set i (some (.int k))) h) (Nx fun loc' h' => P (k + 1) loc' h') X)
  (y : ∀ loc h, P n loc h → Run (xss O cs N r loc h) Q X) : Run (xss O cs N (.forR i e b :: r) loc h) Q X := by
 refine g_seq (P := fun loc h => P n loc h) ?_ y
 show Run ((ev O cs e loc h).bind _) _ X
 rw [he]
 show Run (if 0 ≤ (n : Int) ∧ (n : Int) ≤ 1000 then _ else _) _ X
 rw [if_pos ⟨Int.natCast_nonneg n, Int.ofNat_le.mpr hn⟩]
 have := loopR_ok (i := i) (X := X) (body := xss O cs N b) P (n : Int).toNat 0 loc h1 h0 fun k loc h hk hp => step k loc h (by rw [Nat.zero_add] at hk; exact hk) hp
 rw [Nat.zero_add] at this
 exact this
theorem g_whl {c : Ex} {b : List St} (P : Nat → Loc → H → Prop) (P' : Loc → H → Prop) (m : Nat) (hm : m < N) (h0 : P m loc h)
  (step : ∀ m loc h, P m loc h → Run (tr O cs c loc h) (fun t h => (t = true → Run (xss O cs N b loc h) (Nx fun loc' h' => ∃ m', m' < m ∧ P m' loc' h') X) ∧ (t = false → P' loc h)) X)
  (y : ∀ loc h, P' loc h → Run (xss O cs N r loc h) Q X) : Run (xss O cs N (.whl c b :: r) loc h) Q X := by
 refine g_seq ?_ y
 exact loopW_ok P P' N m loc h hm h0 step
noncomputable def End (Q : V → H → Prop) (q : Fl × Loc) (h : H) : Prop := match q.1 with
 | .next => Q .none h
 | .ret v => Q v h
theorem end_ret {Q : V → H → Prop} {v : V} {loc : Loc} {h : H} : End Q (.ret v, loc) h ↔ Q v h := Iff.rfl
theorem end_next {Q : V → H → Prop} {loc : Loc} {h : H} : End Q (.next, loc) h ↔ Q .none h := Iff.rfl
theorem g_end {code : List St} {Q : V → H → Prop} (x : Run (xss O cs N code loc h) (End Q) X) : Run (endR (xss O cs N code loc h)) Q X := by
 unfold endR
 refine Run.bind (x.mono (fun q h z => ?_) fun _ _ _ z => z)
 obtain ⟨q, l⟩ := q
 cases q <;> exact run_ok.mpr z
end
theorem band (a b : Nat) : Builtin.bitAnd (a : Int) (b : Int) = ((a &&& b : Nat) : Int) := by
 unfold Builtin.bitAnd
 simp
theorem bnot (a : Nat) : Builtin.bitNot (a : Int) = Int.negSucc a := by
 unfold Builtin.bitNot
 kd_p
theorem bor (a b : Nat) : Builtin.bitOr (a : Int) (b : Int) = ((a ||| b : Nat) : Int) := by
 unfold Builtin.bitOr
 rw [bnot, bnot]
 unfold Builtin.bitAnd
 simp only [Int.negSucc_not_nonneg, decide_false]
 have e1 : ∀ a : Nat, Builtin.bitNot (Int.negSucc a) = a := fun a => by unfold Builtin.bitNot; kd_p
 rw [e1, e1]
 simp only [Int.toNat_natCast]
 rw [bnot, e1]
theorem or_ge (a b : Nat) : a &&& b ≤ a ||| b := Nat.le_trans Nat.and_le_left Nat.left_le_or
theorem bits (x y z : Nat) (h : x / 2 = y / 2 + z / 2) (e : x % 2 = y % 2 + z % 2) : x = y + z := by
 rw [← Nat.div_add_mod x 2, ← Nat.div_add_mod y 2, ← Nat.div_add_mod z 2, h, e, Nat.mul_add]
 exact Nat.add_add_add_comm _ _ _ _
theorem or_sum (a b : Nat) : (a ||| b) = (a ^^^ b) + (a &&& b) := by
 induction a using Nat.strongRecOn generalizing b with
 | ind a ih =>
  by_cases h0 : a = 0
  ·subst h0; rw [Nat.zero_or, Nat.zero_xor, Nat.zero_and, Nat.add_zero]
  ·have := ih (a / 2) (Nat.div_lt_self (Nat.pos_of_ne_zero h0) (by decide)) (b / 2)
   rw [← Nat.or_div_two, ← Nat.xor_div_two, ← Nat.and_div_two] at this
   refine bits _ _ _ this ?_
   rw [Nat.or_mod_two_pow (n := 1), Nat.xor_mod_two_pow (n := 1), Nat.and_mod_two_pow (n := 1)]
   have ha := Nat.mod_lt a (show 2 > 0 by decide)
   have hb := Nat.mod_lt b (show 2 > 0 by decide)
   have key : ∀ x, x < 2 → ∀ y, y < 2 → x ||| y = (x ^^^ y) + (x &&& y) := by decide +kernel
   exact key _ ha _ hb
theorem or_sub (a b : Nat) : (a ||| b) - (a &&& b) = a ^^^ b := by
 have := or_sum a b
 kd_p
theorem bxor (a b : Nat) : Builtin.bitXor (a : Int) (b : Int) = ((a ^^^ b : Nat) : Int) := by
 unfold Builtin.bitXor
 rw [bor, band, ← or_sub, Int.ofNat_sub (or_ge a b)]
local macro_rules
 | `(tactic| row_walk with ⟨$ts,*⟩) => do
  let ns : Array (Lean.TSyntax `term) := ("bok vi_i vs_s vr_r Option.elim_some bexc ev_k ev_g ev_l ev_ce ev_bin ev_neg ev_cmp ev_bop ev_ite ev_tup ev_lst ev_dct ev_dct0 ev_sub ev_slc ev_att ev_call ev_new ev_bf ev_bm ev_mc ev_mi ev_js evs_nil evs_cons evo_none evo_some tr_nt tr_cmp tr_cmp2 tr_bop tr_ite tr_k tr_l tr_call tr_bf tr_mc trs_nil trs_and trs_or bops_one bops_and bops_or run_ok run_exc nx_iff end_ret end_next ex_some List.getElem?_cons_zero List.getElem?_cons_succ List.set_cons_zero List.set_cons_succ cmR optBs optBn trR tv_none tv_bool tv_int tv_str nv_none nv_int nv_str nv_tup nv_ref pt_tup pa_nil pa_cons okP_pos dT dF decide_true decide_false List.length_cons List.length_nil band bor bxor Option.map_some Option.map_none List.nil_append List.cons_append e_int e_str c_eq c_ne c_lt c_le c_gt c_ge c_is c_isn c_in c_nin b_add b_adds b_sub b_mul b_div b_mod b_pow b_shl b_shr b_and b_or b_xor t_0 t_1 t_2 t_3 t_4 fl_str fl_min fl_max fl_abs fl_ord fl_str1 m_find m_lower m_lstrip on_lower on_replace on_find on_lstrip on_index on_join Bool.not_true Bool.not_false ite_t ite_f if_true if_false Bool.false_eq_true reduceIte true_imp_iff false_imp_iff reduceCtorEq and_true true_and true_or or_true false_or or_false implies_true not_true_eq_false not_false_eq_true".splitOn " ").toArray.map fun s => Lean.mkIdent s.toName
  let ns := ns ++ ts.getElems
  `(tactic| simp (disch := first | assumption | decide | omega) only [$[$ns:term],*])
 | `(tactic| row_walk) => `(tactic| row_walk with ⟨bok⟩)
local macro_rules
 | `(tactic| wp_walk using $ts,*) => do
  let k ← `(tactic| try row_walk with ⟨$ts,*⟩)
  let q ← `(tactic| focus ($k:tactic <;> with_reducible exact rfl))
  let n ← `(tactic| try dsimp only [List.cons_append, List.nil_append])
  let s ← `(tactic| skip)
  let alts ← (#[("k_asg", s, 1), ("k_iteT", n, 1), ("k_iteF", n, 1), ("k_ite", n, 1), ("k_ret", k, 1), ("k_ex", s, 1), ("k_asgT", s, 2), ("k_asgC", s, 3), ("k_asgA", s, 3), ("k_asgS", s, 4), ("k_shr", s, 3)] : Array (String × Lean.TSyntax `tactic × Nat)).mapM fun (g, t, m) => do
   let qs := Array.replicate m q
   `(Lean.Parser.Tactic.tacticSeq| with_reducible apply $(Lean.mkIdent g.toName):ident; $[$qs:tactic];*; $t:tactic)
  let old ← ("g_asg g_ite g_ret g_ex g_asgT g_nil g_asgC g_asgA g_asgS g_rai g_shr".splitOn " ").toArray.mapM fun g => `(Lean.Parser.Tactic.tacticSeq| with_reducible refine $(Lean.mkIdent g.toName):ident ?_)
  `(tactic| first $[| $alts]* | (with_reducible refine g_nil ?_; $k:tactic) | ((first $[| $old]* | skip); row_walk with ⟨$ts,*⟩))
 | `(tactic| wp_walk) => `(tactic| wp_walk using bok)
theorem f0 (O : Orc) (w : Nat) (h : H) (hw : w ≤ 1000) : (nx O).fn 0 [.int w] h = .ok (.int ((2 ^ w - 1 : Nat) : Int)) h := by
 rw [r0]
 refine Run.eq (g_end ?_)
 unfold b0
 have q := shl1 hw
 wp_walk
 have : 0 < 2 ^ w := Nat.two_pow_pos w
 have e : ((2 ^ w - 1 : Nat) : Int) = 2 ^ w - 1 := by
  rw [Int.ofNat_sub this]; simp
 simp [e]
theorem f1 (O : Orc) (w a b : Nat) (h : H) (hw : w ≤ 1000) : (nx (nx O)).fn 1 [.int w, .int a, .int b] h = .ok (.tup [.int w, .int ((a &&& (2 ^ w - 1) : Nat) : Int), .int ((b &&& (2 ^ w - 1) : Nat) : Int)]) h := by
 rw [r1]
 refine Run.eq (g_end ?_)
 unfold b1
 wp_walk using f0
 wp_walk using f0
noncomputable def sz (w : Nat) : Str := Str.ofString (toString (w : Int))
theorem sz_eq (w : Nat) (h1 : 1 ≤ w) (h9 : w ≤ 9) : sz w = S [48 + w] :=
 (show ∀ w, w < 10 → 1 ≤ w → sz w = S [48 + w] by decide +kernel) w (Nat.lt_succ_of_le h9) h1
theorem strip1 (w : Nat) (h1 : 1 ≤ w) (h9 : w ≤ 9) : Txt.lstripChars (S [48 + w]) ("0" : Str) = S [48 + w] :=
 (show ∀ w, w < 10 → 1 ≤ w → Txt.lstripChars (S [48 + w]) ("0" : Str) = S [48 + w] by decide +kernel) w (Nat.lt_succ_of_le h9) h1
theorem f5 (O : Orc) (c : Nat) (h : H) : (nx O).fn 5 [.str (S [c])] h = .ok (.int ((c : Int) - 48)) h := by
 rw [r5]
 refine Run.eq (g_end ?_)
 unfold b5
 wp_walk
 refine g_forS rfl (fun done loc h' => h' = h ∧ (done = [] → ∃ u, loc = [some (.str (S [c])), some (.int 0), u]) ∧ (done = [c] → ∃ u, loc = [some (.str (S [c])), some (.int ((c : Int) - 48)), u])) ⟨rfl, fun _ => ⟨_, rfl⟩, fun e => by cases e⟩ (fun done v rest e loc h' hp => ?_) fun loc h' hp => ?_
 ·obtain ⟨rfl, h1, _⟩ := hp
  cases done with
  | nil =>
   cases e
   obtain ⟨u, rfl⟩ := h1 rfl
   wp_walk
   wp_walk
   exact ⟨some (.str (S [c])), by simp⟩
  | cons d r =>
   cases r <;> cases e
 ·obtain ⟨rfl, _, h2⟩ := hp
  obtain ⟨u, rfl⟩ := h2 rfl
  wp_walk
theorem f6 (O : Orc) (w : Nat) (h : H) (h1 : 1 ≤ w) (h9 : w ≤ 9) : (nx (nx O)).fn 6 [.str (sz w), .int (-1)] h = .ok (.int w) h := by
 rw [sz_eq w h1 h9, r6]
 refine Run.eq (g_end ?_)
 unfold b6
 wp_walk using S_len, strip1 w h1 h9
 wp_walk using S_len, strip1 w h1 h9, S_e1, f5
 wp_walk using f5
 simp
 kd_p
theorem lx : ("x" : Str) = S [120] := by decide +kernel
theorem lz : ("z" : Str) = S [122] := by decide +kernel
theorem lq : ("?" : Str) = S [63] := by decide +kernel
theorem lb : ("b" : Str) = S [98] := by decide +kernel
theorem lo : ("o" : Str) = S [111] := by decide +kernel
theorem lh : ("h" : Str) = S [104] := by decide +kernel
theorem ld : ("d" : Str) = S [100] := by decide +kernel
theorem subS {l : List Nat} {i c : Nat} (e : l[i]? = some c) (hi : i < 2 ^ 60) (h : H) : subV (.str (S l)) (.int (i : Int)) h = .ok (.str (S [c])) h := by
 have e2 : (S l).cps[i]? = some c := by show l.toArray[i]? = _; rw [List.getElem?_toArray]; exact e
 show ((seqIndex? (i : Int) (S l).length).bind ((S l).cps[·]?)).elim .bad (fun c => okP (-(2 ^ 60) ≤ (i : Int) ∧ (i : Int) < 2 ^ 60) (.ok (.str ⟨#[c]⟩) h)) = _
 rw [S_len, seq_nat (List.getElem?_eq_some_iff.mp e).1, Option.bind_some, e2, Option.elim_some, okP_pos (ix_ok hi)]
 rfl
theorem subS0 (c : Nat) (l : List Nat) (h : H) : subV (.str (S (c :: l))) (.int 0) h = .ok (.str (S [c])) h := subS (i := 0) rfl (by decide) h
noncomputable def unk (c : Nat) : Bool := c == 120 || c == 122 || c == 63
noncomputable def hexv (c : Nat) : Nat := if c ≤ 57 then c - 48 else c - 87
noncomputable def sgn (c : Nat) : Prop := c = 48 ∨ c = 49 ∨ c = 57 ∨ c = 97 ∨ c = 102 ∨ c = 120 ∨ c = 122 ∨ c = 63
noncomputable def pl (c full : Nat) : Nat := if c = 120 then full else if c = 122 ∨ c = 63 then 0 else hexv c
noncomputable def ph (c full : Nat) : Nat := if c = 120 ∨ c = 122 ∨ c = 63 then full else 0
noncomputable def cnt (hex : Bool) : Nat := if hex then 4 else 1
noncomputable def bas (hex : Bool) : Str := if hex then "h" else "b"
theorem find_hex {c : Nat} (hc : sgn c) (hu : unk c = false) : Txt.find ("0123456789abcdef" : Str) (S [c]) = (hexv c : Nat) := by
 unfold sgn at hc
 rcases hc with rfl | rfl | rfl | rfl | rfl | rfl | rfl | rfl <;> first | (decide +kernel) | (exact absurd hu (by decide))
theorem f7 (O : Orc) (c full : Nat) (h : H) (hc : sgn c) : (nx O).fn 7 [.str (S [c]), .int full] h = .ok (.tup [.int (pl c full), .int (ph c full)]) h := by
 rw [r7]
 refine Run.eq (g_end ?_)
 unfold b7
 unfold sgn at hc
 by_cases h1 : c = 120
 ·subst h1
  wp_walk using lx, S_eq1
  wp_walk
  simp [pl, ph]
 ·by_cases h2 : c = 122 ∨ c = 63
  ·rcases h2 with rfl | rfl
   ·wp_walk using lx, S_eq1
    wp_walk using lz, lq, S_eq1
    wp_walk
    simp [pl, ph]
   ·wp_walk using lx, S_eq1
    wp_walk using lz, lq, S_eq1
    wp_walk
    simp [pl, ph]
  ·have n2 : c ≠ 122 := fun q => h2 (.inl q)
   have n3 : c ≠ 63 := fun q => h2 (.inr q)
   have hf := find_hex hc (by unfold unk; rw [beq_eq_false_iff_ne.mpr h1, beq_eq_false_iff_ne.mpr n2, beq_eq_false_iff_ne.mpr n3]; rfl)
   have h0 : (0 : Int) ≤ Txt.find ("0123456789abcdef" : Str) (S [c]) := by rw [hf]; exact Int.natCast_nonneg _
   have d1 : decide (c = 120) = false := dF h1
   have d2 : decide (c = 122) = false := dF n2
   have d3 : decide (c = 63) = false := dF n3
   have hlen : (("0123456789abcdef" : Str).length ≤ 100000) := by decide +kernel
   wp_walk using lx, S_eq1, d1
   wp_walk using lz, lq, S_eq1, d2, d3
   wp_walk using okP_pos hlen, hf
   simp [pl, ph, h1, h2]
theorem f4 (O : Orc) (hex : Bool) (h : H) : (nx O).fn 4 [.str (bas hex)] h = .ok (.int (cnt hex : Nat)) h := by
 rw [r4]
 refine Run.eq (g_end ?_)
 unfold b4
 cases hex
 ·wp_walk using bas, lb, S_eq1
  wp_walk
  simp [cnt]
 ·wp_walk using bas, lb, lh, S_eq1
  wp_walk using bas, lh, lo, S_eq1
  wp_walk
  simp [cnt]
noncomputable def ga (k : Nat) (ds : List Nat) : Nat := ds.foldl (fun a c => a * 2 ^ k ||| pl c (2 ^ k - 1)) 0
noncomputable def gb (k : Nat) (ds : List Nat) : Nat := ds.foldl (fun a c => a * 2 ^ k ||| ph c (2 ^ k - 1)) 0
theorem ga_snoc (k : Nat) (ds : List Nat) (c : Nat) : ga k (ds ++ [c]) = ga k ds * 2 ^ k ||| pl c (2 ^ k - 1) := by simp [ga]
theorem gb_snoc (k : Nat) (ds : List Nat) (c : Nat) : gb k (ds ++ [c]) = gb k ds * 2 ^ k ||| ph c (2 ^ k - 1) := by simp [gb]
theorem pl_lt {hex : Bool} {c : Nat} (hc : sgn c) (hb : hex = false → c ≠ 57 ∧ c ≠ 97 ∧ c ≠ 102) : pl c (2 ^ cnt hex - 1) < 2 ^ cnt hex := by
 unfold sgn at hc
 cases hex
 ·have := hb rfl
  rcases hc with rfl | rfl | rfl | rfl | rfl | rfl | rfl | rfl <;> simp_all [pl, hexv, cnt]
 ·rcases hc with rfl | rfl | rfl | rfl | rfl | rfl | rfl | rfl <;> simp_all [pl, hexv, cnt]
theorem ph_lt (k c : Nat) : ph c (2 ^ k - 1) < 2 ^ k := by
 unfold ph
 split <;> first | exact Nat.sub_lt (Nat.two_pow_pos k) Nat.one_pos | exact Nat.two_pow_pos k
noncomputable def okD (hex : Bool) (c : Nat) : Prop := sgn c ∧ (hex = false → c ≠ 57 ∧ c ≠ 97 ∧ c ≠ 102)
theorem step_lt {a p k n : Nat} (ha : a < 2 ^ n) (hp : p < 2 ^ k) : (a * 2 ^ k ||| p) < 2 ^ (n + k) := by
 have e : a * 2 ^ k ||| p = a * 2 ^ k + p := by
  rw [Nat.mul_comm, Nat.two_pow_add_eq_or_of_lt hp]
 rw [e, Nat.pow_add]
 have : a + 1 ≤ 2 ^ n := ha
 calc a * 2 ^ k + p < a * 2 ^ k + 2 ^ k := Nat.add_lt_add_left hp _
  _ = (a + 1) * 2 ^ k := by rw [Nat.add_mul, Nat.one_mul]
  _ ≤ 2 ^ n * 2 ^ k := Nat.mul_le_mul_right _ this
theorem ga_lt {hex : Bool} (ds : List Nat) (hd : ∀ c ∈ ds, okD hex c) : ga (cnt hex) ds < 2 ^ (cnt hex * ds.length) ∧ gb (cnt hex) ds < 2 ^ (cnt hex * ds.length) := by
 induction ds using snoc_ind with
 | h0 => simp [ga, gb]
 | h1 ds c ih =>
  obtain ⟨h1, h2⟩ := ih fun c hc => hd c (List.mem_append_left _ hc)
  have hc := hd c (List.mem_append_right _ (.head _))
  rw [ga_snoc, gb_snoc, List.length_append, List.length_singleton, Nat.mul_add, Nat.mul_one]
  exact ⟨step_lt h1 (pl_lt hc.1 hc.2), step_lt h2 (ph_lt _ _)⟩
theorem cshl (a k : Nat) : (a : Int) * 2 ^ (k : Int).toNat = ((a * 2 ^ k : Nat) : Int) := by simp
theorem f8 (O : Orc) (hex : Bool) (ds : List Nat) (h : H) (hd : ∀ c ∈ ds, okD hex c) (hl : ds.length ≤ 8) :
  (nx (nx O)).fn 8 [.str (bas hex), .str (S ds)] h = .ok (.tup [.int (cnt hex * ds.length : Nat), .int (ga (cnt hex) ds), .int (gb (cnt hex) ds)]) h := by
 rw [r8]
 have hk : cnt hex ≤ 4 := by cases hex <;> decide
 refine Run.eq (g_end ?_)
 unfold b8
 wp_walk using f4
 wp_walk using f0
 wp_walk
 wp_walk
 refine g_forS rfl (fun done loc h' => h' = h ∧ ∃ u v w, loc = [some (.str (bas hex)), some (.str (S ds)), some (.int (cnt hex : Nat)), some (.int (2 ^ cnt hex - 1 : Nat)), some (.int (ga (cnt hex) done)), some (.int (gb (cnt hex) done)), u, v, w])
  ⟨rfl, none, none, none, rfl⟩ ?_ ?_
 ·rintro done c rest e loc h1 ⟨rfl, u, v, w, rfl⟩
  have hc := hd c (by rw [e]; simp)
  obtain ⟨l1, l2⟩ := ga_lt done fun c hc => hd c (by rw [e]; exact List.mem_append_left _ hc)
  have hdl : done.length ≤ 8 := Nat.le_trans (app_le e) hl
  have hb : 2 ^ (cnt hex * done.length) ≤ 2 ^ 32 := Nat.pow_le_pow_right (by decide) (by
   calc cnt hex * done.length ≤ 4 * 8 := Nat.mul_le_mul hk hdl
    _ = 32 := rfl)
  have hk1 := Nat.le_trans hk (by decide : 4 ≤ 1000)
  have q1 := shl_ok hk1 (Nat.lt_of_lt_of_le l1 (Nat.le_trans hb (by decide)))
  have q2 := shl_ok hk1 (Nat.lt_of_lt_of_le l2 (Nat.le_trans hb (by decide)))
  wp_walk using f7 _ _ _ _ hc.1
  wp_walk using cshl
  wp_walk using cshl
  wp_walk
  exact ⟨_, _, _, by rw [ga_snoc, gb_snoc]⟩
 ·rintro loc h' ⟨rfl, u, v, w, rfl⟩
  have q3 := mul_ok (Nat.lt_of_le_of_lt hk (by decide : 4 < 2 ^ 40)) (Nat.lt_of_le_of_lt hl (by decide : 8 < 2 ^ 20))
  wp_walk using S_len
  simp
theorem d_beq (a b : Nat) : decide (a = b) = (b == a) := by
 rw [Bool.eq_iff_iff, decide_eq_true_eq, beq_iff_eq]; exact eq_comm
theorem any3h (c : Nat) (h : H) : inV h (.str (S [c])) (.tup [.str (S [120]), .str (S [122]), .str (S [63])]) = some (unk c) := by
 show some (S [120] == S [c] || (S [122] == S [c] || (S [63] == S [c] || false))) = some (c == 120 || c == 122 || c == 63)
 rw [S_eq1, S_eq1, S_eq1, d_beq, d_beq, d_beq, Bool.or_false, Bool.or_assoc]
noncomputable def fa (w wd c a : Nat) : Nat := if wd < w ∧ c = 120 then a ||| ((2 ^ w - 1) ^^^ (2 ^ wd - 1)) else a
noncomputable def fbb (w wd c b : Nat) : Nat := if wd < w ∧ unk c = true then b ||| ((2 ^ w - 1) ^^^ (2 ^ wd - 1)) else b
theorem f9 (O : Orc) (w wd a b c : Nat) (h : H) (hw : w ≤ 1000) (hwd : wd ≤ 1000) : (nx (nx (nx O))).fn 9 [.int w, .int wd, .int a, .int b, .str (S [c])] h =
  .ok (.tup [.int w, .int ((fa w wd c a &&& (2 ^ w - 1) : Nat) : Int), .int ((fbb w wd c b &&& (2 ^ w - 1) : Nat) : Int)]) h := by
 rw [r9]
 refine Run.eq (g_end ?_)
 unfold b9
 wp_walk
 refine ⟨fun hlt => ?_, fun hlt => ?_⟩
 ·have hlt : wd < w := by simpa using hlt
  wp_walk using f0
  wp_walk using lx, S_eq1
  refine ⟨fun hc => ?_, fun hc => ?_⟩
  ·have hc : c = 120 := by simpa using hc
   subst hc
   wp_walk using lx
   wp_walk using lx, lz, lq, any3h
   refine ⟨fun hu => ?_, fun hu => absurd hu (by decide)⟩
   wp_walk
   wp_walk using f1
   simp [fa, fbb, hlt, unk]
  ·have hc : ¬ c = 120 := by simpa using hc
   wp_walk using lx, lz, lq, any3h
   refine ⟨fun hu => ?_, fun hu => ?_⟩
   ·wp_walk
    wp_walk using f1
    simp [fa, fbb, hlt, hu, hc]
   ·wp_walk using f1
    simp [fa, fbb, hlt, hu, hc]
 ·have hlt : ¬ wd < w := by simpa using hlt
  wp_walk using f1
  simp [fa, fbb, hlt]
noncomputable def va (hex : Bool) (w : Nat) (ds : List Nat) : Nat := fa w (cnt hex * ds.length) (ds.headD 0) (ga (cnt hex) ds) &&& (2 ^ w - 1)
noncomputable def vb (hex : Bool) (w : Nat) (ds : List Nat) : Nat := fbb w (cnt hex * ds.length) (ds.headD 0) (gb (cnt hex) ds) &&& (2 ^ w - 1)
theorem bas_ne (hex : Bool) : (bas hex == ("" : Str)) = false ∧ (bas hex == ("d" : Str)) = false := by cases hex <;> decide +kernel
theorem f10 (O : Orc) (hex : Bool) (w : Nat) (ds : List Nat) (h : H) (hw : 1 ≤ w) (hw9 : w ≤ 9) (hd : ∀ c ∈ ds, okD hex c) (h1 : 1 ≤ ds.length) (h8 : ds.length ≤ 8) :
  (nx (nx (nx (nx O)))).fn 10 [.tup [.str (sz w), .str (bas hex), .bool false, .str (S ds)], .int (-1)] h = .ok (.tup [.tup [.int w, .int (va hex w ds), .int (vb hex w ds)], .bool false, .bool true]) h := by
 rw [r10]
 have hk : cnt hex ≤ 4 := by cases hex <;> decide
 have hkl : cnt hex * ds.length ≤ 1000 := by
  exact Nat.le_trans (Nat.mul_le_mul hk h8) (by decide)
 obtain ⟨c, r, rfl⟩ : ∃ c r, ds = c :: r := by
  cases ds with
  | nil => cases h1
  | cons c r => exact ⟨c, r, rfl⟩
 have hr : r.length ≤ 7 := Nat.le_of_succ_le_succ h8
 have hr5 : r.length + 1 ≤ 100000 := Nat.le_trans h8 (by decide)
 have hkl' : cnt hex * (r.length + 1) ≤ 1000 := hkl
 obtain ⟨n1, n2⟩ := bas_ne hex
 have hsz : (sz w == ("" : Str)) = false := by rw [sz_eq w hw hw9, S_e1]
 refine Run.eq (g_end ?_)
 unfold b10
 wp_walk
 wp_walk using subS0
 wp_walk using n1, n2
 wp_walk using S_len
 wp_walk
 wp_walk
 wp_walk using f8 _ _ _ _ hd h8
 wp_walk using hsz
 wp_walk using f6
 wp_walk using f9, hsz
 simp [va, vb]
noncomputable def psum (q : Nat → Bool) : Nat → Nat
 | 0 => 0
 | n + 1 => psum q n + if q n then 2 ^ n else 0
theorem psum_succ (q : Nat → Bool) (n : Nat) : psum q (n + 1) = psum q n + if q n then 2 ^ n else 0 := rfl
theorem psum_lt (q : Nat → Bool) (n : Nat) : psum q n < 2 ^ n := by
 induction n with
 | zero => exact Nat.one_pos
 | succ n ih =>
  rw [psum_succ, Nat.pow_succ, Nat.mul_two]
  exact Nat.add_lt_add_of_lt_of_le ih (by cases q n <;> first | exact Nat.zero_le _ | exact Nat.le_refl _)
theorem psum_bit (q : Nat → Bool) (n i : Nat) : (psum q n).testBit i = (decide (i < n) && q i) := by
 induction n with
 | zero => exact Nat.zero_testBit i
 | succ n ih =>
  have h1 := psum_lt q n
  rw [psum_succ]
  rcases Nat.lt_trichotomy i n with hi | hi | hi
  ·rw [decide_eq_true (Nat.lt_succ_of_lt hi)]
   rw [decide_eq_true hi] at ih
   cases q n with
   | false => exact ih
   | true => rw [if_pos rfl, Nat.add_comm, Nat.testBit_two_pow_add_gt hi, ih]
  ·subst hi
   rw [decide_eq_false (Nat.lt_irrefl i), Bool.false_and] at ih
   rw [decide_eq_true (Nat.lt_succ_self i), Bool.true_and]
   cases q i with
   | false => exact ih
   | true => rw [if_pos rfl, Nat.add_comm, Nat.testBit_two_pow_add_eq, ih]; rfl
  ·rw [decide_eq_false (Nat.not_lt.mpr hi), Bool.false_and]
   exact Nat.testBit_lt_two_pow (Nat.lt_of_lt_of_le (psum_lt q (n + 1)) (Nat.pow_le_pow_right (by decide) hi))
theorem psum_sum (q : Nat → Bool) (n : Nat) : (((List.range n).filter q).map (fun i => (2 ^ i : Int))).sum = (psum q n : Int) := by
 induction n with
 | zero => rfl
 | succ n ih =>
  rw [List.range_succ, List.filter_append, List.map_append, List.sum_append, ih, psum_succ]
  cases hq : q n <;> simp [hq]
noncomputable def dm (hex : Bool) (c : Nat) : List Nat := (List.range (cnt hex)).map fun t => if unk c then c else 48 + hexv c / 2 ^ t % 2
noncomputable def BL (hex : Bool) (ds : List Nat) : List Nat := ds.reverse.flatMap (dm hex)
theorem dm_len (hex : Bool) (c : Nat) : (dm hex c).length = cnt hex := by simp [dm]
theorem BL_snoc (hex : Bool) (ds : List Nat) (c : Nat) : BL hex (ds ++ [c]) = dm hex c ++ BL hex ds := by simp [BL]
theorem BL_len (hex : Bool) (ds : List Nat) : (BL hex ds).length = cnt hex * ds.length := by
 induction ds using snoc_ind with
 | h0 => simp [BL]
 | h1 ds c ih => rw [BL_snoc, List.length_append, dm_len, ih, List.length_append, List.length_singleton, Nat.mul_add]; kd_p
noncomputable def loM (c : Nat) : Bool := c == 49 || c == 120
theorem dm_get {hex : Bool} {c i : Nat} (hi : i < cnt hex) : (dm hex c)[i]? = some (if unk c then c else 48 + hexv c / 2 ^ i % 2) := by
 unfold dm
 rw [List.getElem?_map, List.getElem?_range hi]; rfl
theorem pl_bit {hex : Bool} {c i : Nat} (hc : okD hex c) (hi : i < cnt hex) : (pl c (2 ^ cnt hex - 1)).testBit i = loM (if unk c then c else 48 + hexv c / 2 ^ i % 2) := by
 cases hu : unk c with
 | true =>
  simp only [if_true]
  by_cases h1 : c = 120
  ·subst h1
   simp [pl, loM, Nat.testBit_two_pow_sub_one, hi]
  ·have h2 : c = 122 ∨ c = 63 := by unfold unk at hu; simp at hu; kd_p
   unfold pl
   rw [if_neg h1, if_pos h2]
   simp only [Nat.zero_testBit]
   rcases h2 with rfl | rfl <;> rfl
 | false =>
  have h1 : ¬ c = 120 := by intro q; subst q; cases hu
  have h2 : ¬ (c = 122 ∨ c = 63) := by rintro (q | q) <;> subst q <;> cases hu
  simp only [Bool.false_eq_true, if_false]
  unfold pl
  rw [if_neg h1, if_neg h2, Nat.testBit_eq_decide_div_mod_eq]
  unfold loM
  have : hexv c / 2 ^ i % 2 = 0 ∨ hexv c / 2 ^ i % 2 = 1 := by kd_p
  rcases this with e | e <;> rw [e] <;> rfl
theorem ph_bit {hex : Bool} {c i : Nat} (hc : okD hex c) (hi : i < cnt hex) : (ph c (2 ^ cnt hex - 1)).testBit i = unk (if unk c then c else 48 + hexv c / 2 ^ i % 2) := by
 cases hu : unk c with
 | true =>
  simp only [if_true, hu]
  have h2 : c = 120 ∨ c = 122 ∨ c = 63 := by unfold unk at hu; simp at hu; kd_p
  unfold ph
  rw [if_pos h2]
  simp [Nat.testBit_two_pow_sub_one, hi]
 | false =>
  have h2 : ¬ (c = 120 ∨ c = 122 ∨ c = 63) := by rintro (q | q | q) <;> subst q <;> cases hu
  simp only [Bool.false_eq_true, if_false]
  unfold ph
  rw [if_neg h2, Nat.zero_testBit]
  have : hexv c / 2 ^ i % 2 = 0 ∨ hexv c / 2 ^ i % 2 = 1 := by kd_p
  rcases this with e | e <;> rw [e] <;> rfl
theorem shl_bit {a p k i : Nat} (hp : p < 2 ^ k) : (a * 2 ^ k ||| p).testBit i = if i < k then p.testBit i else a.testBit (i - k) := by
 rw [Nat.testBit_or, Nat.testBit_mul_two_pow]
 by_cases hi : i < k
 ·have : ¬ k ≤ i := by kd_p
  simp [hi, this]
 ·have h1 : k ≤ i := by kd_p
  have h2 : p.testBit i = false := Nat.testBit_lt_two_pow (Nat.lt_of_lt_of_le hp (Nat.pow_le_pow_right (by decide) h1))
  simp [hi, h1, h2]
theorem g_bit {hex : Bool} (ds : List Nat) (hd : ∀ c ∈ ds, okD hex c) : ∀ i c, (BL hex ds)[i]? = some c → (ga (cnt hex) ds).testBit i = loM c ∧ (gb (cnt hex) ds).testBit i = unk c := by
 induction ds using snoc_ind with
 | h0 => intro i c e; simp [BL] at e
 | h1 ds d ih =>
  intro i c e
  have hc := hd d (List.mem_append_right _ (.head _))
  rw [ga_snoc, gb_snoc, shl_bit (pl_lt hc.1 hc.2), shl_bit (ph_lt _ _)]
  rw [BL_snoc] at e
  by_cases hi : i < cnt hex
  ·rw [List.getElem?_append_left (by rw [dm_len]; exact hi), dm_get hi] at e
   cases e
   rw [if_pos hi, if_pos hi, pl_bit hc hi, ph_bit hc hi]
   exact ⟨rfl, rfl⟩
  ·rw [List.getElem?_append_right (by rw [dm_len]; kd_p), dm_len] at e
   rw [if_neg hi, if_neg hi]
   exact ih (fun c hc => hd c (List.mem_append_left _ hc)) _ _ e
noncomputable def rest (ds : List Nat) : Nat := if unk (ds.headD 0) then ds.headD 0 else 48
noncomputable def MK (hex : Bool) (w : Nat) (ds : List Nat) : List Nat := (BL hex ds ++ List.replicate w (rest ds)).take w
theorem MK_len (hex : Bool) (w : Nat) (ds : List Nat) : (MK hex w ds).length = w := by simp [MK]
theorem fill_bit {w wd i : Nat} (h : wd < w) : ((2 ^ w - 1) ^^^ (2 ^ wd - 1)).testBit i = decide (wd ≤ i ∧ i < w) := by
 rw [Nat.testBit_xor, Nat.testBit_two_pow_sub_one, Nat.testBit_two_pow_sub_one]
 by_cases h1 : i < wd
 ·have : i < w := by kd_p
  have h3 : ¬ (wd ≤ i ∧ i < w) := by kd_p
  simp [h1, this]
 ·by_cases h2 : i < w
  ·have h3 : wd ≤ i := by kd_p
   simp [h1, h2, h3]
  ·simp [h1, h2]
theorem unk_or {d : Nat} (hu : unk d = true) (h2 : ¬ d = 120) : d = 122 ∨ d = 63 := by
 unfold unk at hu
 simp at hu
 kd_p
set_option tactic.hygienic true in
theorem word_bit {hex : Bool} {w : Nat} {ds : List Nat} (hd : ∀ c ∈ ds, okD hex c) (i c : Nat) (hi : i < w) (e : (MK hex w ds)[i]? = some c) : (va hex w ds).testBit i = loM c ∧ (vb hex w ds).testBit i = unk c := by
 obtain ⟨la, lb⟩ := ga_lt ds hd
 unfold MK at e
 rw [List.getElem?_take_of_lt hi] at e
 unfold va vb
 rw [Nat.testBit_and, Nat.testBit_and, Nat.testBit_two_pow_sub_one, dT hi, Bool.and_true, Bool.and_true]
 by_cases h1 : i < cnt hex * ds.length
 ·rw [List.getElem?_append_left (by rw [BL_len]; exact h1)] at e
  obtain ⟨b1, b2⟩ := g_bit ds hd i c e
  constructor
  ·unfold fa
   split
   ·rename_i hf
    rw [Nat.testBit_or, fill_bit hf.1, b1, dF (by kd_p), Bool.or_false]
   ·exact b1
  ·unfold fbb
   split
   ·rename_i hf
    rw [Nat.testBit_or, fill_bit hf.1, b2, dF (by kd_p), Bool.or_false]
   ·exact b2
 ·have hw : cnt hex * ds.length < w := by kd_p
  have hfd : decide (cnt hex * ds.length ≤ i ∧ i < w) = true := dT ⟨by kd_p, hi⟩
  rw [List.getElem?_append_right (by rw [BL_len]; kd_p), BL_len] at e
  have ec : c = rest ds := by
   have := List.mem_of_getElem? e
   exact List.eq_of_mem_replicate this
  subst ec
  have a0 : (ga (cnt hex) ds).testBit i = false := Nat.testBit_lt_two_pow (Nat.lt_of_lt_of_le la (Nat.pow_le_pow_right (by decide) (by kd_p)))
  have b0 : (gb (cnt hex) ds).testBit i = false := Nat.testBit_lt_two_pow (Nat.lt_of_lt_of_le lb (Nat.pow_le_pow_right (by decide) (by kd_p)))
  unfold fa fbb rest
  cases hu : unk (ds.headD 0) with
  | false =>
   have h2 : ¬ ds.headD 0 = 120 := by intro q; rw [q] at hu; cases hu
   simp only [h2, and_false, if_false, Bool.false_eq_true, a0, b0]
   exact ⟨rfl, rfl⟩
  | true =>
   simp only [hw, true_and, and_true, if_true]
   rw [Nat.testBit_or, fill_bit hw, b0, hfd]
   refine ⟨?_, by rw [hu]; rfl⟩
   by_cases h2 : ds.headD 0 = 120
   ·rw [if_pos h2, Nat.testBit_or, fill_bit hw, a0, hfd, h2]; rfl
   ·rw [if_neg h2, a0]
    have h3 : ds.headD 0 = 122 ∨ ds.headD 0 = 63 := unk_or hu h2
    rcases h3 with e | e <;> rw [e] <;> rfl
theorem word_sum {hex : Bool} {w : Nat} {ds : List Nat} (hd : ∀ c ∈ ds, okD hex c) :
  psum (fun i => loM ((MK hex w ds).getD i 0)) w = va hex w ds ∧ psum (fun i => unk ((MK hex w ds).getD i 0)) w = vb hex w ds := by
 have key : ∀ i, i < w → (MK hex w ds)[i]? = some ((MK hex w ds).getD i 0) := fun i hi => by
  rw [List.getD_eq_getElem?_getD]
  have : i < (MK hex w ds).length := by rw [MK_len]; exact hi
  rw [List.getElem?_eq_getElem this]; rfl
 have hlt : ∀ x i : Nat, ¬ i < w → (x &&& (2 ^ w - 1)).testBit i = false := fun x i hi => by
  rw [Nat.testBit_and, Nat.testBit_two_pow_sub_one, dF hi, Bool.and_false]
 constructor
 ·refine Nat.eq_of_testBit_eq fun i => ?_
  rw [psum_bit]
  by_cases hi : i < w
  ·rw [(word_bit hd i _ hi (key i hi)).1, dT hi, Bool.true_and]
  ·rw [dF hi, Bool.false_and]
   exact (hlt _ i hi).symm
 ·refine Nat.eq_of_testBit_eq fun i => ?_
  rw [psum_bit]
  by_cases hi : i < w
  ·rw [(word_bit hd i _ hi (key i hi)).2, dT hi, Bool.true_and]
  ·rw [dF hi, Bool.false_and]
   exact (hlt _ i hi).symm
theorem on_l {b : BM} {r : Nat} {xs : List V} {h : H} (e : h[r]? = some (.lst xs)) (hb : b.isL = true) : BM.on b (.ref r) h = true := by
 unfold BM.on
 rw [if_pos hb]
 show (lst? h r).isSome = true
 rw [lst_eq e]; rfl
theorem on_append {r : Nat} {xs : List V} {h : H} (e : h[r]? = some (.lst xs)) : BM.on .append (.ref r) h = true := on_l e rfl
theorem on_pop {r : Nat} {xs : List V} {h : H} (e : h[r]? = some (.lst xs)) : BM.on .pop (.ref r) h = true := on_l e rfl
theorem on_rev {r : Nat} {xs : List V} {h : H} (e : h[r]? = some (.lst xs)) : BM.on .reverse (.ref r) h = true := on_l e rfl
theorem el_l {α : Type} {r : Nat} {xs : List V} {h : H} {f : List V → Res α} (e : h[r]? = some (.lst xs)) : (lst? h r).elim .bad f = f xs := by rw [lst_eq e]; rfl
theorem m_append {r : Nat} {xs : List V} {h : H} {v : V} (e : h[r]? = some (.lst xs)) (hl : xs.length ≤ 100000) : bmV .append (.ref r) [v] h = .ok .none (h.set r (.lst (xs ++ [v]))) :=
 (el_l e).trans (okP_pos hl)
theorem m_pop {r : Nat} {xs : List V} {h : H} {v : V} (e : h[r]? = some (.lst (xs ++ [v]))) (hl : xs.length ≤ 10000) : bmV .pop (.ref r) [] h = .ok v (h.set r (.lst xs)) := by
 refine (el_l e).trans ?_
 dsimp only
 rw [List.getLast?_concat, Option.elim_some, List.dropLast_concat]
 refine okP_pos ?_
 rw [List.length_append]
 exact Nat.le_trans (Nat.add_le_add_right hl 1) (by decide)
theorem m_rev {r : Nat} {xs : List V} {h : H} (e : h[r]? = some (.lst xs)) (hl : xs.length ≤ 100000) : bmV .reverse (.ref r) [] h = .ok .none (h.set r (.lst xs.reverse)) :=
 (el_l e).trans (okP_pos hl)
theorem l_add {i j : Nat} {xs ys : List V} {h : H} (e1 : h[i]? = some (.lst xs)) (e2 : h[j]? = some (.lst ys)) (hl : xs.length + ys.length ≤ 100000) : binV .Add (.ref i) (.ref j) h = .ok (.ref h.length) (h ++ [.lst (xs ++ ys)]) :=
 (el_l e1).trans ((el_l e2).trans (okP_pos hl))
theorem l_mul {i : Nat} {x : V} {k : Nat} {h : H} (e1 : h[i]? = some (.lst [x])) (hl : k ≤ 1000) : binV .Mult (.ref i) (.int k) h = .ok (.ref h.length) (h ++ [.lst (List.replicate k x)]) := by
 show ((lst? h i).bind a1?).elim .bad (fun x => okP (0 ≤ (k : Int) ∧ (k : Int) ≤ 1000) (newM h (.lst (List.replicate (k : Int).toNat x)))) = _
 rw [lst_eq e1]
 exact okP_pos ⟨Int.natCast_nonneg k, Int.ofNat_le.mpr hl⟩
theorem l_take {i : Nat} {xs : List V} {k : Nat} {h : H} (e1 : h[i]? = some (.lst xs)) (hl : xs.length ≤ 100000) : slcV (.ref i) none (some (.int k)) h = .ok (.ref h.length) (h ++ [.lst (xs.take k)]) := by
 have : slcB (some (.int (k : Int))) = some (some (k : Int)) := by
  show (if 0 ≤ (k : Int) then some (some (k : Int)) else none) = _
  exact if_pos (Int.natCast_nonneg k)
 unfold slcV
 rw [this]
 exact (el_l e1).trans (okP_pos hl)
theorem l_sub {r i : Nat} {xs : List V} {v : V} {h : H} (e1 : h[r]? = some (.lst xs)) (e : xs[i]? = some v) (hi : i < 2 ^ 60) : subV (.ref r) (.int (i : Int)) h = .ok v h :=
 (el_l e1).trans (pick_ok e hi h)
theorem l_len {r : Nat} {xs : List V} {h : H} (e : h[r]? = some (.lst xs)) (hl : xs.length ≤ 100000) : bfV .len [.ref r] h = .ok (.int xs.length) h :=
 (el_l e).trans (okP_pos hl)
theorem intsV_map {α : Type} (f : α → Int) (l : List α) : intsV (l.map fun a => V.int (f a)) = some (l.map f) := by
 induction l with
 | nil => rfl
 | cons a l ih =>
  show (intsV (l.map fun a => V.int (f a))).map (f a :: ·) = _
  rw [ih]; rfl
theorem l_sum {r : Nat} {ns : List Int} {h : H} (e : h[r]? = some (.lst (ns.map V.int))) (hl : ns.length ≤ 1000) (hb : ∀ n ∈ ns, n.natAbs < 2 ^ 40) : bfV .sum [.ref r] h = .ok (.int ns.sum) h := by
 have := intsV_map (fun n : Int => n) ns
 rw [List.map_id'] at this
 show ((lst? h r).bind intsV).elim .bad (fun ns => okP (ns.length ≤ 1000 ∧ ∀ n ∈ ns, n.natAbs < 2 ^ 40) (.ok (.int ns.sum) h)) = _
 rw [lst_eq e, Option.bind_some, this]
 exact okP_pos ⟨hl, hb⟩
theorem newM_eq (h : H) (lo : LO) : newM h lo = .ok (.ref h.length) (h ++ [lo]) := rfl
theorem hget (h l : H) (k : Nat) : (h ++ l)[h.length + k]? = l[k]? := by
 rw [List.getElem?_append_right (Nat.le_add_right _ _)]; congr 1; kd_p
theorem hget0 (h l : H) : (h ++ l)[h.length]? = l[0]? := hget h l 0
theorem hset (h l : H) (k : Nat) (x : LO) : (h ++ l).set (h.length + k) x = h ++ l.set k x := by
 rw [List.set_append_right _ _ (Nat.le_add_right _ _)]; congr 2; kd_p
theorem hset0 (h l : H) (x : LO) : (h ++ l).set h.length x = h ++ l.set 0 x := hset h l 0 x
noncomputable def Wd (h : H) (ms : List V) (g : H) : H := h ++ (.cel (some (.ref (h.length + 1))) :: .lst ms :: g)
theorem Wd_cel (h : H) (ms : List V) (g : H) : (Wd h ms g)[h.length]? = some (.cel (some (.ref (h.length + 1)))) := hget0 _ _
theorem Wd_lst (h : H) (ms : List V) (g : H) : (Wd h ms g)[h.length + 1]? = some (.lst ms) := hget _ _ 1
theorem Wd_app (h : H) (ms : List V) (g l : H) : Wd h ms g ++ l = Wd h ms (g ++ l) := by simp [Wd]
theorem Wd_set (h : H) (ms ms' : List V) (g : H) : (Wd h ms g).set (h.length + 1) (.lst ms') = Wd h ms' g := by
 unfold Wd; rw [hset]; rfl
theorem Wd_len (h : H) (ms : List V) (g : H) : (Wd h ms g).length = h.length + (2 + g.length) := by simp [Wd]; kd_p
theorem Wd_new (h : H) (ms : List V) (g : H) (lo : LO) : (Wd h ms (g ++ [lo]))[h.length + (2 + g.length)]? = some lo := by
 unfold Wd
 rw [hget]
 show (_ :: _ :: (g ++ [lo]))[2 + g.length]? = _
 rw [show 2 + g.length = g.length + 1 + 1 by kd_p, List.getElem?_cons_succ, List.getElem?_cons_succ]
 simp
theorem fdivN (a b : Nat) : (a : Int).fdiv (b : Int) = ((a / b : Nat) : Int) := by
 rw [Int.fdiv_eq_ediv_of_nonneg _ (by kd_p)]; rfl
theorem fmodN (a b : Nat) : (a : Int).fmod (b : Int) = ((a % b : Nat) : Int) := by
 rw [Int.fmod_eq_emod_of_nonneg _ (by kd_p)]; rfl
theorem xz_in (c : Nat) (h : H) : inV h (.str (S [c])) (.str ("xz?" : Str)) = some (unk c) := by
 show some (!(occurrences ("xz?" : Str) ⟨#[c]⟩ 0 ("xz?" : Str).length 1).isEmpty) = _
 rw [StrLaws.found_one, show ("xz?" : Str).cps.toList = [120, 122, 63] by decide +kernel]
 unfold unk
 congr 1
 rw [Bool.eq_iff_iff]
 simp only [decide_eq_true_eq, List.mem_cons, List.not_mem_nil, or_false, Bool.or_eq_true, beq_iff_eq, or_assoc]
theorem l0s : ("0" : Str) = S [48] := by decide +kernel
theorem l1s : ("1" : Str) = S [49] := by decide +kernel
theorem inner (O : Orc) (hex : Bool) (ds : List Nat) (w c : Nat) (h : H) (hc : okD hex c) (pre : List Nat) (g : H) (hp : pre.length ≤ 100) (a6 : Option V) (q5 q7 q8 : Option V) (k : Option V)
 :
  Run (xss O [h.length] 4096 [.forR 5 (.ite (.l 1) (.k (V.int 4)) (.k (V.int 1))) [.ite (.cmp .In (.l 4) (.k (V.str ("xz?" : Str)))) [.ex (.bm .append (.ce 0) [(.l 4)])]
   [.ex (.bm .append (.ce 0) [(.sub (.lst [(.k (V.str ("0" : Str))), (.k (V.str ("1" : Str)))]) (.bin .Mod (.bin .FloorDiv (.bm .index (.k (V.str ("0123456789abcdef" : Str))) [(.l 4)]) (.bin .Pow (.k (V.int 2)) (.l 5))) (.k (V.int 2))))])]]]
   [some (.str (S ds)), some (.bool hex), some (.int w), k, some (.str (S [c])), q5, a6, q7, q8] (Wd h (pre.map fun c => .str (S [c])) g))
   (Nx fun loc h' => ∃ q g', loc = [some (.str (S ds)), some (.bool hex), some (.int w), k, some (.str (S [c])), q, a6, q7, q8] ∧ h' = Wd h ((pre ++ dm hex c).map fun c => .str (S [c])) g') NoX := by
 have hk : cnt hex ≤ 4 := by cases hex <;> decide
 refine g_forR (n := cnt hex) (by cases hex <;> rfl) (Nat.le_trans hk (by decide)) (fun t loc h' => ∃ q g', loc = [some (.str (S ds)), some (.bool hex), some (.int w), k, some (.str (S [c])), q, a6, q7, q8] ∧ h' = Wd h ((pre ++ (dm hex c).take t).map fun c => .str (S [c])) g')
  ⟨q5, g, rfl, by simp⟩ ?_ ?_
 ·rintro t loc h' ht ⟨q, g', rfl, rfl⟩
  have ht4 : t ≤ 4 := Nat.le_of_lt (Nat.lt_of_lt_of_le ht hk)
  have hl : ((pre ++ (dm hex c).take t).map fun c => V.str (S [c])).length ≤ 100000 := by
   rw [List.length_map, List.length_append]
   exact Nat.le_trans (Nat.add_le_add hp (Nat.le_trans (List.length_take_le _ _) ht4)) (by decide)
  have hm : (dm hex c).take (t + 1) = (dm hex c).take t ++ [if unk c then c else 48 + hexv c / 2 ^ t % 2] := by
   rw [List.take_add_one, dm_get ht]; rfl
  wp_walk using xz_in
  refine ⟨fun hu => ?_, fun hu => ?_⟩
  ·wp_walk using Wd_cel, on_append (Wd_lst _ _ _), m_append (Wd_lst _ _ _) hl, Wd_set
   wp_walk
   refine ⟨_, g', rfl, ?_⟩
   rw [hm, hu]
   simp
  ·have hf := find_hex hc.1 hu
   have h0 : (0 : Int) ≤ Txt.find ("0123456789abcdef" : Str) (S [c]) := by rw [hf]; exact Int.natCast_nonneg _
   have hlen : (("0123456789abcdef" : Str).length ≤ 100000) := by decide +kernel
   have hix : ∀ h', bmV .index (.str ("0123456789abcdef" : Str)) [.str (S [c])] h' = .ok (.int (hexv c : Nat)) h' := fun h' => by
    show okP (("0123456789abcdef" : Str).length ≤ 100000 ∧ 0 ≤ Txt.find ("0123456789abcdef" : Str) (S [c])) (.ok (.int (Txt.find ("0123456789abcdef" : Str) (S [c]))) h') = _
    rw [okP_pos ⟨hlen, h0⟩, hf]
   have hpw : (2 : Int) ^ (t : Int).toNat = ((2 ^ t : Nat) : Int) := by simp
   have hb : hexv c / 2 ^ t % 2 = 0 ∨ hexv c / 2 ^ t % 2 = 1 := Nat.mod_two_eq_zero_or_one _
   have hpt : (2 : Nat) ^ t ≤ 2 ^ 4 := Nat.pow_le_pow_right (by decide) ht4
   have q1 := pow_ok (Nat.le_trans ht4 (by decide : 4 ≤ 1000))
   have q2 := div_ok (Nat.two_pow_pos t) (Nat.lt_of_le_of_lt hpt (by decide))
   have hmod : ((hexv c / 2 ^ t : Nat) : Int).fmod 2 = ((hexv c / 2 ^ t % 2 : Nat) : Int) := fmodN _ 2
   have hv : ([V.str (S [48]), V.str (S [49])] : List V)[hexv c / 2 ^ t % 2]? = some (.str (S [48 + hexv c / 2 ^ t % 2])) := by
    rcases hb with e | e <;> rw [e] <;> rfl
   wp_walk using Wd_cel, on_append (Wd_lst _ _ _), newM_eq, Wd_app, Wd_len, hix, hpw, fdivN, hmod, l0s, l1s, l_sub (Wd_new _ _ _ _) hv (Nat.lt_of_lt_of_le (Nat.mod_lt _ (by decide)) (by decide)), m_append (Wd_lst _ _ _) hl, Wd_set
   wp_walk
   refine ⟨_, g' ++ [.lst [.str (S [48]), .str (S [49])]], rfl, ?_⟩
   rw [hm, hu]
   simp
 ·rintro loc h' ⟨q, g', rfl, rfl⟩
  wp_walk
  refine ⟨q, g', rfl, ?_⟩
  rw [List.take_of_length_le (by rw [dm_len]; exact Nat.le_refl _)]
theorem powIn_S (ms : List Nat) (s : Str) (sl : List Nat) (hs : s.cps.toList = sl) (i : Nat) (hi : i < ms.length) : powIn (ms.map fun c => .str (S [c])) s i = decide (ms.getD i 0 ∈ sl) := by
 unfold powIn
 rw [List.getElem?_map, List.getElem?_eq_getElem hi]
 show (!(occurrences s ⟨#[ms[i]]⟩ 0 s.length 1).isEmpty) = _
 rw [StrLaws.found_one, hs]
 congr 2
 rw [List.getD_eq_getElem?_getD, List.getElem?_eq_getElem hi]; rfl
theorem cPow_some {ms : List V} {s : Str} {n : Nat} (hx : ∀ i, i < n → ∃ x, ms[i]? = some (.str x)) : cPowV ms s n = some (((List.range n).filter (powIn ms s)).map (fun i => V.int (2 ^ i))) := by
 induction n with
 | zero => rfl
 | succ n ih =>
  obtain ⟨x, hxn⟩ := hx n (Nat.lt_succ_self n)
  have : powIn ms s n = !(occurrences s x 0 s.length 1).isEmpty := by unfold powIn; rw [hxn]; rfl
  show (cPowV ms s n).bind (fun r => (ms[n]?.bind V.s?).map fun x => if !(occurrences s x 0 s.length 1).isEmpty then r ++ [.int (2 ^ n)] else r) = _
  rw [ih fun i hi => hx i (Nat.lt_succ_of_lt hi), Option.bind_some, hxn, List.range_succ, List.filter_append, List.map_append, List.filter_cons, List.filter_nil, this]
  show some (if (!(occurrences s x 0 s.length 1).isEmpty) = true then _ else _) = _
  by_cases q : (!(occurrences s x 0 s.length 1).isEmpty) = true
  ·rw [if_pos q, if_pos q]; rfl
  ·rw [if_neg q, if_neg q, List.map_nil, List.append_nil]
theorem c_pow {O : Orc} {cs : List Nat} {e : Ex} {j n i r : Nat} {s : Str} {loc : Loc} {h h' : H} {ms : List Nat} (he : ev O cs e loc h = .ok (.int n) h') (hj : cs[j]? = some i) (hi : h'[i]? = some (.cel (some (.ref r)))) (hr : h'[r]? = some (.lst (ms.map fun c => .str (S [c])))) (hn : n = ms.length) (h64 : n ≤ 64) :
  ev O cs (.cPow e j s) loc h = .ok (.ref h'.length) (h' ++ [.lst (((List.range n).filter (powIn (ms.map fun c => .str (S [c])) s)).map (fun i => V.int (2 ^ i)))]) := by
 have hc : celL? h' i = some (ms.map fun c => .str (S [c])) := by unfold celL?; rw [hi]; exact lst_eq hr
 show (ev O cs e loc h).bind (fun x h => x.i?.elim .bad fun w => cs[j]?.elim .bad fun i => (celL? h i).elim .bad fun ms => (cPowV ms s w.toNat).elim .bad fun vs => okP (0 ≤ w ∧ w ≤ 64) (newM h (.lst vs))) = _
 rw [he]
 show cs[j]?.elim .bad (fun i => (celL? h' i).elim .bad fun ms => (cPowV ms s n).elim .bad fun vs => okP (0 ≤ (n : Int) ∧ (n : Int) ≤ 64) (newM h' (.lst vs))) = _
 rw [hj, Option.elim_some, hc, Option.elim_some, cPow_some fun i hi => ⟨_, by rw [List.getElem?_map, List.getElem?_eq_getElem (hn ▸ hi)]; rfl⟩]
 exact okP_pos ⟨Int.natCast_nonneg n, Int.ofNat_le.mpr h64⟩
theorem hlast (h : H) (lo : LO) : (h ++ [lo])[h.length]? = some lo := by simp
theorem sum_pow {O : Orc} {cs : List Nat} {j n i r : Nat} {s : Str} {sl : List Nat} {loc : Loc} {h : H} {ms : List Nat} (he : loc[2]? = some (some (.int n))) (hj : cs[j]? = some i) (hi : h[i]? = some (.cel (some (.ref r)))) (hr : h[r]? = some (.lst (ms.map fun c => .str (S [c])))) (hn : n = ms.length) (h64 : n ≤ 30) (hs : s.cps.toList = sl) :
  ∃ lo, ev O cs (.bf .sum [.cPow (.l 2) j s]) loc h = .ok (.int (psum (fun i => decide (ms.getD i 0 ∈ sl)) n : Nat)) (h ++ [lo]) := by
 have e1 : ev O cs (.l 2) loc h = .ok (.int n) h := by simp only [ev_l, he]
 refine ⟨.lst ((((List.range n).filter (fun i => decide (ms.getD i 0 ∈ sl))).map (fun i => (2 ^ i : Int))).map V.int), ?_⟩
 ·show Res.bind (Res.bind (ev O cs (.cPow (.l 2) j s) loc h) _) _ = _
  rw [c_pow e1 hj hi hr hn (Nat.le_trans h64 (by decide))]
  show bfV .sum [.ref h.length] _ = _
  have hq : (List.range n).filter (powIn (ms.map fun c => .str (S [c])) s) = (List.range n).filter (fun i => decide (ms.getD i 0 ∈ sl)) := by
   refine List.filter_congr fun i hi => ?_
   exact powIn_S ms s sl hs i (by have := List.mem_range.mp hi; kd_p)
  rw [hq]
  have hmm : ((List.range n).filter (fun i => decide (ms.getD i 0 ∈ sl))).map (fun i => V.int (2 ^ i)) = (((List.range n).filter (fun i => decide (ms.getD i 0 ∈ sl))).map (fun i => (2 ^ i : Int))).map V.int := by
   rw [List.map_map]; rfl
  rw [hmm, l_sum (hlast _ _), psum_sum]
  ·simp
   have := List.length_filter_le (fun i => decide (ms.getD i 0 ∈ sl)) (List.range n)
   simp at this
   kd_p
  ·intro m hm
   obtain ⟨i, hi, rfl⟩ := List.mem_map.mp hm
   have hi2 := List.mem_range.mp (List.mem_filter.mp hi).1
   rw [Int.natAbs_pow]
   show 2 ^ i < 2 ^ 40
   exact Nat.pow_lt_pow_right (by decide) (by kd_p)
noncomputable def We (h : H) (r : Nat) (ms : List V) (g : H) : H := h ++ (.cel (some (.ref r)) :: .lst ms :: g)
theorem We_cel (h : H) (r : Nat) (ms : List V) (g : H) : (We h r ms g)[h.length]? = some (.cel (some (.ref r))) := hget0 _ _
theorem We_app (h : H) (r : Nat) (ms : List V) (g l : H) : We h r ms g ++ l = We h r ms (g ++ l) := by simp [We]
theorem We_old (h : H) (r : Nat) (ms : List V) (g l : H) (lo : LO) : (We h r ms (g ++ lo :: l))[h.length + (2 + g.length)]? = some lo := by
 unfold We
 rw [hget]
 show (_ :: _ :: (g ++ lo :: l))[2 + g.length]? = _
 rw [show 2 + g.length = g.length + 1 + 1 by kd_p, List.getElem?_cons_succ, List.getElem?_cons_succ]
 simp
theorem Wd_cset (h : H) (r : Nat) (ms : List V) (g : H) : (Wd h ms g).set h.length (.cel (some (.ref r))) = We h r ms g := by
 unfold Wd; rw [hset0]; rfl
theorem wtail (O : Orc) (hex : Bool) (w : Nat) (ds : List Nat) (h g : H) (bl : List Nat) (rs : Nat) (x0 x1 p d q : Option V) (hw : w ≤ 9) (hd : ∀ c ∈ ds, okD hex c) (hb : bl.length ≤ 100) (hMK : (bl ++ List.replicate w rs).take w = MK hex w ds) :
  Run (xss O [h.length] 4096 [.asgC 0 (.slc (.bin .Add (.ce 0) (.bin .Mult (.lst [(.l 6)]) (.l 2))) none (some (.l 2))), .asg 7 (.bf .sum [(.cPow (.l 2) 0 ("1x" : Str))]), .asg 8 (.bf .sum [(.cPow (.l 2) 0 ("xz?" : Str))]), .ret (.tup [(.l 2), (.l 7), (.l 8)])]
   [x0, x1, some (.int w), p, d, q, some (.str (S [rs])), none, none] (Wd h (bl.map fun c => .str (S [c])) g))
   (End fun v h' => v = .tup [.int w, .int (va hex w ds), .int (vb hex w ds)] ∧ ∃ g, h' = h ++ g) NoX := by
 have hl1 : (bl.map fun c => V.str (S [c])).length + (List.replicate w (V.str (S [rs]))).length ≤ 100000 := by simp; kd_p
 have hl2 : ((bl.map fun c => V.str (S [c])) ++ List.replicate w (V.str (S [rs]))).length ≤ 100000 := by simp; kd_p
 have hml : ((bl.map fun c => V.str (S [c])) ++ List.replicate w (V.str (S [rs]))).take w = (MK hex w ds).map fun c => V.str (S [c]) := by
  rw [← hMK, List.map_take, List.map_append, List.map_replicate]
 wp_walk using Wd_cel, newM_eq, Wd_app, Wd_len, l_mul (Wd_new _ _ _ _), l_add (Wd_lst _ _ _) (Wd_new _ _ _ _), l_take (Wd_new _ _ _ _), hml
 rw [Wd_cset]
 generalize hG : g ++ [LO.lst [V.str (S [rs])]] ++ [LO.lst (List.replicate w (V.str (S [rs])))] ++ [LO.lst ((bl.map fun c => V.str (S [c])) ++ List.replicate w (V.str (S [rs])))] = G
 obtain ⟨s1, s2⟩ := word_sum (w := w) hd
 obtain ⟨lo1, e1⟩ := sum_pow (O := O) (cs := [h.length]) (j := 0) (s := ("1x" : Str)) (sl := [49, 120]) (loc := [x0, x1, some (.int w), p, d, q, some (.str (S [rs])), none, none]) (ms := MK hex w ds) rfl rfl (We_cel h (h.length + (2 + G.length)) (bl.map fun c => .str (S [c])) (G ++ [.lst ((MK hex w ds).map fun c => V.str (S [c]))])) (We_old _ _ _ _ _ _) (MK_len _ _ _).symm (by kd_p) (by decide +kernel)
 refine g_asg (Run.of e1 ?_)
 rw [We_app, List.append_assoc]
 obtain ⟨lo2, e2⟩ := sum_pow (O := O) (cs := [h.length]) (j := 0) (s := ("xz?" : Str)) (sl := [120, 122, 63]) (loc := ([x0, x1, some (.int w), p, d, q, some (.str (S [rs])), none, none] : Loc).set 7 (some (.int (psum (fun i => decide ((MK hex w ds).getD i 0 ∈ [49, 120])) w : Nat)))) (ms := MK hex w ds) rfl rfl (We_cel h (h.length + (2 + G.length)) (bl.map fun c => .str (S [c])) (G ++ ([.lst ((MK hex w ds).map fun c => V.str (S [c]))] ++ [lo1]))) (We_old _ _ _ _ _ _) (MK_len _ _ _).symm (by kd_p) (by decide +kernel)
 refine g_asg (Run.of e2 ?_)
 rw [We_app]
 have q1 : (fun i => decide ((MK hex w ds).getD i 0 ∈ [49, 120])) = fun i => loM ((MK hex w ds).getD i 0) := by
  funext i
  unfold loM
  rw [Bool.eq_iff_iff]
  simp
 have q2 : (fun i => decide ((MK hex w ds).getD i 0 ∈ [120, 122, 63])) = fun i => unk ((MK hex w ds).getD i 0) := by
  funext i
  unfold unk
  rw [Bool.eq_iff_iff]
  simp [or_assoc]
 rw [q1, q2, s1, s2]
 wp_walk
 exact ⟨_, rfl⟩
theorem f32 (O : Orc) (hex : Bool) (w : Nat) (ds : List Nat) (h : H) (hw : 1 ≤ w) (hw9 : w ≤ 9) (hd : ∀ c ∈ ds, okD hex c) (h1 : 1 ≤ ds.length) (h8 : ds.length ≤ 8) :
  Run ((nx O).fn 32 [.str (S ds), .bool hex, .int w] h) (fun v h' => v = .tup [.int w, .int (va hex w ds), .int (vb hex w ds)] ∧ ∃ g, h' = h ++ g) NoX := by
 have hk : cnt hex ≤ 4 := by cases hex <;> decide
 have h85 : ds.length ≤ 100000 := Nat.le_trans h8 (by decide)
 rw [r32]
 refine g_end ?_
 unfold b32
 wp_walk using newM_eq
 refine ⟨h.length, none, rfl, by rw [List.append_assoc]; exact hget0 _ _, ?_⟩
 have e0 : (h ++ [LO.cel none] ++ [LO.lst []]).set h.length (.cel (some (.ref (h ++ [LO.cel none]).length))) = Wd h (([] : List Nat).map fun c => .str (S [c])) [] := by
  rw [List.append_assoc, hset0]
  simp [Wd]
 rw [e0]
 refine g_forR (n := ds.length) (h1 := Wd h (([] : List Nat).map fun c => .str (S [c])) []) (by row_walk with ⟨S_len⟩) (Nat.le_trans h8 (by decide))
  (fun k loc h' => ∃ p q d g, loc = [some (.str (S ds)), some (.bool hex), some (.int w), p, d, q, none, none, none] ∧ h' = Wd h (((ds.reverse.take k).flatMap (dm hex)).map fun c => .str (S [c])) g) ⟨none, none, none, [], rfl, rfl⟩ ?_ ?_
 ·rintro k loc h' hk' ⟨p, q, d, g, rfl, rfl⟩
  have hri : ds.length - 1 - k < ds.length := Nat.lt_of_le_of_lt (Nat.sub_le _ _) (Nat.sub_lt h1 Nat.one_pos)
  have hk2 : k ≤ ds.length - 1 := Nat.le_sub_one_of_lt hk'
  obtain ⟨c, hc⟩ : ∃ c, ds[ds.length - 1 - k]? = some c := ⟨_, List.getElem?_eq_getElem hri⟩
  have hix : ((ds.length : Int) - 1 - (k : Int)) = ((ds.length - 1 - k : Nat) : Int) := by rw [Int.ofNat_sub hk2, Int.ofNat_sub h1]; rfl
  have hcm := hd c (List.mem_of_getElem? hc)
  have hrk : ds.reverse[k]? = some c := by rw [List.getElem?_reverse hk']; exact hc
  have hpl : ((ds.reverse.take k).flatMap (dm hex)).length ≤ 100 := by
   have : ((ds.reverse.take k).flatMap (dm hex)).length = cnt hex * k := by
    have e := BL_len hex (ds.reverse.take k).reverse
    unfold BL at e
    rw [List.reverse_reverse] at e
    rw [e, List.length_reverse, List.length_take, List.length_reverse, Nat.min_eq_left (Nat.le_of_lt hk')]
   rw [this]
   calc cnt hex * k ≤ 4 * 8 := Nat.mul_le_mul hk (Nat.le_trans (Nat.le_of_lt hk') h8)
    _ ≤ 100 := by decide
  wp_walk using S_len, hix, subS hc (Nat.lt_of_lt_of_le hri (Nat.le_trans h8 (by decide)))
  refine (inner O hex ds w c h hcm _ g hpl none _ _ _ _).mono (fun q h' z => ?_) fun _ _ _ z => z
  obtain ⟨loc, rfl, q, g', rfl, rfl⟩ := z
  refine ⟨_, rfl, _, q, _, g', rfl, ?_⟩
  rw [List.take_add_one, hrk]
  simp
 ·rintro loc h' ⟨p, q, d, g, rfl, rfl⟩
  obtain ⟨c, r, rfl⟩ : ∃ c r, ds = c :: r := by
   cases ds with
   | nil => cases h1
   | cons c r => exact ⟨c, r, rfl⟩
  rw [List.take_of_length_le (by simp)]
  have hBL : (c :: r).reverse.flatMap (dm hex) = BL hex (c :: r) := rfl
  rw [hBL]
  have hbl := BL_len hex (c :: r)
  have hbl2 : cnt hex * (c :: r).length ≤ 4 * 8 := Nat.mul_le_mul hk h8
  have hMK : ∀ rs, rs = rest (c :: r) → (BL hex (c :: r) ++ List.replicate w rs).take w = MK hex w (c :: r) := fun rs e => by rw [e]; rfl
  wp_walk using subS0, xz_in
  cases hu : unk c with
  | true =>
   row_walk
   exact wtail (nx O) hex w (c :: r) h g _ c _ _ _ _ _ hw9 hd (by kd_p) (hMK c (by simp [rest, hu]))
  | false =>
   row_walk with ⟨l0s⟩
   exact wtail (nx O) hex w (c :: r) h g _ 48 _ _ _ _ _ hw9 hd (by kd_p) (hMK 48 (by simp [rest, hu]))
theorem dic_eq {h : H} {i C d : Nat} {es : List (Str × V)} (hi : h[i]? = some (.ins C d)) (hd : h[d]? = some (.dct es)) : dic? (.ref i) h = some (d, es) := by
 show (ins? h i).bind (fun p => (dct? h p.2).map fun es => (p.2, es)) = _
 rw [ins_eq hi, Option.bind_some, dct_eq hd]; rfl
theorem a_get {h : H} {i C d : Nat} {es : List (Str × V)} {n : Str} {v : V} (hi : h[i]? = some (.ins C d)) (hd : h[d]? = some (.dct es)) (hl : es.lookup n = some v) : attV (.ref i) n h = .ok v h := by
 unfold attV
 rw [dic_eq hi hd, Option.bind_some, hl]; rfl
theorem a_set {h : H} {i C d : Nat} {es : List (Str × V)} {n : Str} {v : V} (hi : h[i]? = some (.ins C d)) (hd : h[d]? = some (.dct es)) (hl : es.length ≤ 900) : setAttV (.ref i) n v h = .ok () (h.set d (.dct (putA n v es))) := by
 unfold setAttV
 rw [dic_eq hi hd, Option.elim_some]
 exact if_pos hl
theorem putA_len (n : Str) (v : V) (es : List (Str × V)) : (putA n v es).length ≤ es.length + 1 := by
 induction es with
 | nil => exact Nat.le_refl _
 | cons p r ih =>
  show (if p.1 = n then (p.1, v) :: r else (p.1, p.2) :: putA n v r).length ≤ _
  split
  ·exact Nat.le_succ _
  ·exact Nat.succ_le_succ ih
noncomputable def Ob (h : H) (d : Nat) (es : List (Str × V)) (g : H) : H := h.set d (.dct es) ++ g
structure ObOk (h : H) (i d C : Nat) : Prop where
 hi : h[i]? = some (.ins C d)
 hd : d < h.length
 ne : d ≠ i
section
variable {h : H} {i d C : Nat} {es : List (Str × V)} {g : H}
theorem Ob.get_i (k : ObOk h i d C) : (Ob h d es g)[i]? = some (.ins C d) := by
 have hi : i < h.length := (List.getElem?_eq_some_iff.mp k.hi).1
 unfold Ob
 rw [List.getElem?_append_left (by simpa using hi), List.getElem?_set_ne k.ne]; exact k.hi
theorem Ob.get_d (k : ObOk h i d C) : (Ob h d es g)[d]? = some (.dct es) := by
 unfold Ob
 rw [List.getElem?_append_left (by simpa using k.hd), List.getElem?_set_self k.hd]
theorem Ob.put (k : ObOk h i d C) (es' : List (Str × V)) : (Ob h d es g).set d (.dct es') = Ob h d es' g := by
 unfold Ob
 rw [List.set_append_left _ _ (by simpa using k.hd), List.set_set]
theorem Ob.app (l : H) : Ob h d es g ++ l = Ob h d es (g ++ l) := by simp [Ob]
theorem Ob.len : (Ob h d es g).length = h.length + g.length := by simp [Ob]
theorem Ob.start (k : ObOk h i d C) (e : h[d]? = some (.dct es)) : h = Ob h d es [] := by
 unfold Ob
 rw [List.append_nil]
 refine List.ext_getElem? fun j => ?_
 by_cases hj : j = d
 ·subst hj; rw [List.getElem?_set_self k.hd, e]
 ·rw [List.getElem?_set_ne (Ne.symm hj)]
end
section
variable {O : Orc} {cs : List Nat} {N : Nat} {loc : Loc} {h : H} {Q : Fl × Loc → H → Prop} {X : Nat → Str → H → Prop} {r : List St} {i d C : Nat} {es : List (Str × V)} {g : H} {n : Str} {e : Ex} {m : Nat}
theorem run_start {code : List St} (k : ObOk h i d C) (e : h[d]? = some (.dct es)) (x : Run (xss O cs N code loc (Ob h d es [])) Q X) : Run (xss O cs N code loc h) Q X := by
 rw [← Ob.start k e] at x; exact x
theorem st_pure {v : V} (k : ObOk h i d C) (hl : loc[0]? = some (some (.ref i))) (he : ∀ H, ev O cs e loc H = .ok v H) (hm : es.length ≤ m) (hm2 : m ≤ 900)
  (y : (putA n v es).length ≤ m + 1 → Run (xss O cs N r loc (Ob h d (putA n v es) g)) Q X) : Run (xss O cs N (.asgA (.l 0) n e :: r) loc (Ob h d es g)) Q X := by
 have e0 : ev O cs (.l 0) loc (Ob h d es g) = .ok (.ref i) (Ob h d es g) := by simp only [ev_l, hl]
 refine g_asgA (Run.of (he _) (Run.of e0 (Run.of (a_set (Ob.get_i k) (Ob.get_d k) (by kd_p)) ?_)))
 rw [Ob.put k]
 exact y (Nat.le_trans (putA_len _ _ _) (by kd_p))
theorem st_new {lo : LO} (k : ObOk h i d C) (hl : loc[0]? = some (some (.ref i))) (he : ∀ H, ev O cs e loc H = .ok (.ref H.length) (H ++ [lo])) (hm : es.length ≤ m) (hm2 : m ≤ 900)
  (y : (putA n (.ref (h.length + g.length)) es).length ≤ m + 1 → Run (xss O cs N r loc (Ob h d (putA n (.ref (h.length + g.length)) es) (g ++ [lo]))) Q X) : Run (xss O cs N (.asgA (.l 0) n e :: r) loc (Ob h d es g)) Q X := by
 have e0 : ev O cs (.l 0) loc (Ob h d es g ++ [lo]) = .ok (.ref i) (Ob h d es g ++ [lo]) := by simp only [ev_l, hl]
 refine g_asgA (Run.of (he _) (Run.of e0 ?_))
 rw [Ob.app, Ob.len]
 refine Run.of (a_set (Ob.get_i k) (Ob.get_d k) (by kd_p)) ?_
 rw [Ob.put k]
 exact y (Nat.le_trans (putA_len _ _ _) (by kd_p))
end
noncomputable def sigD (key : Int) (path kind : Str) (w msb : Int) (first last : V) : List (Str × V) := [("key", .int key), ("path", .str path), ("kind", .str kind), ("width", .int w), ("signed", .bool false), ("msb", .int msb), ("lsb", .int 0), ("first", first), ("last", last), ("init", .none), ("at", .int (-1)), ("scalar", .bool false)]
theorem f21 (O : Orc) {h : H} {i d : Nat} (k : ObOk h i d cSignal) (hd : h[d]? = some (.dct [])) (key : Int) (path kind : Str) (w msb : Int) :
  (nx O).fn 21 [.ref i, .int key, .str path, .str kind, .int w, .bool false, .int msb, .int 0] h = .ok .none (h.set d (.dct (sigD key path kind w msb .none .none))) := by
 rw [r21]
 refine Run.eq (g_end ?_)
 unfold b21
 refine run_start k hd ?_
 refine st_pure (m := 0) k rfl (fun _ => rfl) (Nat.le_refl 0) (by kd_p) fun hm => ?_
 refine st_pure k rfl (fun _ => rfl) hm (by kd_p) fun hm => ?_
 refine st_pure k rfl (fun _ => rfl) hm (by kd_p) fun hm => ?_
 refine st_pure k rfl (fun _ => rfl) hm (by kd_p) fun hm => ?_
 refine st_pure k rfl (fun _ => rfl) hm (by kd_p) fun hm => ?_
 refine st_pure k rfl (fun _ => rfl) hm (by kd_p) fun hm => ?_
 refine st_pure k rfl (fun _ => rfl) hm (by kd_p) fun hm => ?_
 refine st_pure k rfl (fun _ => rfl) hm (by kd_p) fun hm => ?_
 refine st_pure k rfl (fun _ => rfl) hm (by kd_p) fun hm => ?_
 refine st_pure k rfl (fun _ => rfl) hm (by kd_p) fun hm => ?_
 refine st_pure k rfl (fun _ => rfl) hm (by kd_p) fun hm => ?_
 refine st_pure k rfl (fun _ => rfl) hm (by kd_p) fun hm => ?_
 refine g_nil ⟨rfl, ?_⟩
 rw [show Ob h d _ [] = h.set d _ ++ [] from rfl, List.append_nil]
 rfl
noncomputable def thrD (a b c e f : V) (n : Nat) : List (Str × V) := [("number", a), ("code", b), ("pc", c), ("frame", e), ("path", f), ("calls", .ref n), ("scopes", .ref (n + 1)), ("parent", .int (-1)), ("children", .ref (n + 2)), ("done", .bool false), ("wait", .none), ("stamp", .int 0), ("looking", .bool false), ("again", .bool false)]
theorem f27 (O : Orc) {h : H} {i d : Nat} (k : ObOk h i d cThread) (hd : h[d]? = some (.dct [])) (a b c e f : V) :
  (nx O).fn 27 [.ref i, a, b, c, e, f] h = .ok .none (h.set d (.dct (thrD a b c e f h.length)) ++ [.lst [], .lst [], .dct []]) := by
 rw [r27]
 refine Run.eq (g_end ?_)
 unfold b27
 refine run_start k hd ?_
 refine st_pure (m := 0) k rfl (fun _ => rfl) (Nat.le_refl 0) (by kd_p) fun hm => ?_
 refine st_pure k rfl (fun _ => rfl) hm (by kd_p) fun hm => ?_
 refine st_pure k rfl (fun _ => rfl) hm (by kd_p) fun hm => ?_
 refine st_pure k rfl (fun _ => rfl) hm (by kd_p) fun hm => ?_
 refine st_pure k rfl (fun _ => rfl) hm (by kd_p) fun hm => ?_
 refine st_new k rfl (fun _ => rfl) hm (by kd_p) fun hm => ?_
 refine st_new k rfl (fun _ => rfl) hm (by kd_p) fun hm => ?_
 refine st_pure k rfl (fun _ => rfl) hm (by kd_p) fun hm => ?_
 refine st_new k rfl (fun _ => rfl) hm (by kd_p) fun hm => ?_
 refine st_pure k rfl (fun _ => rfl) hm (by kd_p) fun hm => ?_
 refine st_pure k rfl (fun _ => rfl) hm (by kd_p) fun hm => ?_
 refine st_pure k rfl (fun _ => rfl) hm (by kd_p) fun hm => ?_
 refine st_pure k rfl (fun _ => rfl) hm (by kd_p) fun hm => ?_
 refine st_pure k rfl (fun _ => rfl) hm (by kd_p) fun hm => ?_
 refine g_nil ⟨rfl, ?_⟩
 show h.set d _ ++ _ = h.set d _ ++ _
 rfl
theorem insOf_ok {h : H} {i C d : Nat} {es : List (Str × V)} {n : Str} (hi : h[i]? = some (.ins C d)) (hd : h[d]? = some (.dct es)) (hl : es.lookup n = none) : insOf C n (.ref i) h = true := by
 show (ins? h i).any (fun p => p.1 == C && (dct? h p.2).any fun es => (es.lookup n).isNone) = true
 rw [ins_eq hi]
 show (C == C && (dct? h d).any fun es => (es.lookup n).isNone) = true
 rw [beq_self_eq_true, dct_eq hd, Bool.true_and]
 show (es.lookup n).isNone = true
 rw [hl]; rfl
theorem d_put {h : H} {d : Nat} {es : List (Str × V)} {y : Str} {v : V} (hd : h[d]? = some (.dct es)) (hl : es.length ≤ 900) (hn : es.lookup y = none) : setSubV (.ref d) (.str y) v h = .ok () (h.set d (.dct (es ++ [(y, v)]))) := by
 show (dct? h d).elim Res.bad (fun es => if es.length ≤ 900 ∧ (es.lookup y).isNone = true then Res.ok () (h.set d (.dct (es ++ [(y, v)]))) else Res.bad) = _
 rw [dct_eq hd, Option.elim_some]
 exact if_pos ⟨hl, by rw [hn]; rfl⟩
structure SigAt (h : H) (s d : Nat) (key : Int) (path kind : Str) (w : Int) (first last : V) : Prop where
 i : h[s]? = some (.ins cSignal d)
 d : h[d]? = some (.dct (sigD key path kind w (w - 1) first last))
section
variable {h : H} {s d : Nat} {key : Int} {path kind : Str} {w : Int} {first last : V}
theorem SigAt.g_first (k : SigAt h s d key path kind w first last) : attV (.ref s) ("first" : Str) h = .ok first h := a_get k.i k.d rfl
theorem SigAt.g_last (k : SigAt h s d key path kind w first last) : attV (.ref s) ("last" : Str) h = .ok last h := a_get k.i k.d rfl
theorem SigAt.g_kind (k : SigAt h s d key path kind w first last) : attV (.ref s) ("kind" : Str) h = .ok (.str kind) h := a_get k.i k.d rfl
theorem SigAt.g_width (k : SigAt h s d key path kind w first last) : attV (.ref s) ("width" : Str) h = .ok (.int w) h := a_get k.i k.d rfl
theorem SigAt.g_net (k : SigAt h s d key path kind w first last) : insOf cSignal ("is_net" : Str) (.ref s) h = true := insOf_ok k.i k.d rfl
theorem SigAt.g_words (k : SigAt h s d key path kind w first last) : insOf cSignal ("words" : Str) (.ref s) h = true := insOf_ok k.i k.d rfl
theorem SigAt.g_place (k : SigAt h s d key path kind w first last) : insOf cSignal ("place" : Str) (.ref s) h = true := insOf_ok k.i k.d rfl
end
theorem f20 (O : Orc) (h : H) : (nx O).fn 20 [] h = .ok (.tup [.str "wire", .str "tri", .str "wand", .str "wor", .str "tri0", .str "tri1", .str "trireg", .str "supply0", .str "supply1"]) h := by
 rw [r20]
 refine Run.eq (g_end ?_)
 unfold b20
 wp_walk
noncomputable def isNet (kind : Str) : Bool := [("wire" : Str), "tri", "wand", "wor", "tri0", "tri1", "trireg", "supply0", "supply1"].any (· == kind)
theorem f22 (O : Orc) {h : H} {s d : Nat} {key : Int} {path kind : Str} {w : Int} {first last : V} (k : SigAt h s d key path kind w first last) :
  (nx (nx O)).fn 22 [.ref s] h = .ok (.bool (isNet kind)) h := by
 rw [r22]
 refine Run.eq (g_end ?_)
 unfold b22
 have e : ∀ h, inV h (.str kind) (.tup [.str "wire", .str "tri", .str "wand", .str "wor", .str "tri0", .str "tri1", .str "trireg", .str "supply0", .str "supply1"]) = some (isNet kind) := fun _ => rfl
 wp_walk using k.g_kind, f20, e
theorem f23 (O : Orc) {h : H} {s d : Nat} {key : Int} {path kind : Str} {w : Int} {first last : Int} (k : SigAt h s d key path kind w (.int first) (.int last)) :
  (nx O).fn 23 [.ref s] h = .ok (.int (((last - first).natAbs : Int) + 1)) h := by
 rw [r23]
 refine Run.eq (g_end ?_)
 unfold b23
 wp_walk using k.g_first
 wp_walk using k.g_first, k.g_last
theorem sub_nn {a b : Int} (h : a ≤ b) : ¬ b - a < 0 := Int.not_lt.mpr (Int.sub_nonneg.mpr h)
theorem span {b i : Int} (a : Int) (h : i ≤ b) : ¬ ((b - a).natAbs : Int) + 1 ≤ i - a := Int.not_le.mpr (Int.lt_add_one_of_le (Int.le_trans (Int.sub_le_sub_right h a) Int.le_natAbs))
theorem span' {a i : Int} (b : Int) (h : a ≤ i) : ¬ ((a - b).natAbs : Int) + 1 ≤ b - i := Int.not_le.mpr (Int.lt_add_one_of_le (Int.le_trans (Int.sub_le_sub_left h b) (by rw [← Int.natAbs_neg, Int.neg_sub]; exact Int.le_natAbs)))
theorem f24 (O : Orc) {h : H} {s d : Nat} {key : Int} {path kind : Str} {w : Int} {low high : Int} {up : Bool} (k : SigAt h s d key path kind w (.int (if up then low else high)) (.int (if up then high else low))) (i : Int) (h1 : low ≤ i) (h2 : i ≤ high) :
  (nx (nx O)).fn 24 [.ref s, .int i] h = .ok (.int (if up then i - low else high - i)) h := by
 rw [r24]
 refine Run.eq (g_end ?_)
 unfold b24
 cases up with
 | true =>
  simp only [if_true] at k
  have e1 : decide (low ≤ high) = true := dT (Int.le_trans h1 h2)
  wp_walk using k.g_first
  wp_walk using k.g_first, k.g_last, e1
  wp_walk using k.g_first
  wp_walk using dF (sub_nn h1), dF (span low h2), k.g_words, f23 _ k
  wp_walk
 | false =>
  simp only [Bool.false_eq_true, if_false] at k
  by_cases e1 : high ≤ low
  ·obtain rfl : low = high := Int.le_antisymm (Int.le_trans h1 h2) e1
   obtain rfl : i = low := Int.le_antisymm h2 h1
   have e1' : decide (i ≤ i) = true := dT e1
   wp_walk using k.g_first
   wp_walk using k.g_first, k.g_last, e1'
   wp_walk using k.g_first
   wp_walk using dF (sub_nn e1), dF (span i e1), k.g_words, f23 _ k
   wp_walk
  ·have e1' : decide (high ≤ low) = false := dF e1
   wp_walk using k.g_first
   wp_walk using k.g_first, k.g_last, e1'
   wp_walk using k.g_first
   wp_walk using dF (sub_nn h2), dF (span' high h1), k.g_words, f23 _ k
   wp_walk
noncomputable def desD (n : Nat) : List (Str × V) := [("signals", .ref n), ("assigns", .ref (n + 1)), ("gates", .ref (n + 2)), ("udps", .ref (n + 3)), ("processes", .ref (n + 4)), ("routines", .ref (n + 5)), ("scopes", .ref (n + 6)), ("tops", .ref (n + 7)), ("ports", .ref (n + 8)), ("maker", .none), ("nesting", .int 0), ("by_path", .ref (n + 9))]
theorem f25 (O : Orc) {h : H} {i d : Nat} (k : ObOk h i d cDesign) (hd : h[d]? = some (.dct [])) :
  (nx O).fn 25 [.ref i] h = .ok .none (h.set d (.dct (desD h.length)) ++ [.lst [], .lst [], .lst [], .lst [], .lst [], .lst [], .lst [], .lst [], .lst [], .dct []]) := by
 rw [r25]
 refine Run.eq (g_end ?_)
 unfold b25
 refine run_start k hd ?_
 refine st_new (m := 0) k rfl (fun _ => rfl) (Nat.le_refl 0) (by kd_p) fun hm => ?_
 refine st_new k rfl (fun _ => rfl) hm (by kd_p) fun hm => ?_
 refine st_new k rfl (fun _ => rfl) hm (by kd_p) fun hm => ?_
 refine st_new k rfl (fun _ => rfl) hm (by kd_p) fun hm => ?_
 refine st_new k rfl (fun _ => rfl) hm (by kd_p) fun hm => ?_
 refine st_new k rfl (fun _ => rfl) hm (by kd_p) fun hm => ?_
 refine st_new k rfl (fun _ => rfl) hm (by kd_p) fun hm => ?_
 refine st_new k rfl (fun _ => rfl) hm (by kd_p) fun hm => ?_
 refine st_new k rfl (fun _ => rfl) hm (by kd_p) fun hm => ?_
 refine st_pure k rfl (fun _ => rfl) hm (by kd_p) fun hm => ?_
 refine st_pure k rfl (fun _ => rfl) hm (by kd_p) fun hm => ?_
 refine st_new k rfl (fun _ => rfl) hm (by kd_p) fun hm => ?_
 refine g_nil ⟨rfl, ?_⟩
 show h.set d _ ++ _ = h.set d _ ++ _
 rfl
theorem ga_ {h l : H} {i : Nat} {x : LO} (e : h[i]? = some x) : (h ++ l)[i]? = some x := by
 rw [List.getElem?_append_left (List.getElem?_eq_some_iff.mp e).1]; exact e
theorem gs_ {h : H} {i j : Nat} {x y : LO} (e : h[i]? = some x) (hne : j ≠ i) : (h.set j y)[i]? = some x := by
 rw [List.getElem?_set_ne hne]; exact e
theorem gs0 {h : H} {i : Nat} {x y : LO} (e : h[i]? = some x) : (h.set i y)[i]? = some y := by
 rw [List.getElem?_set_self (List.getElem?_eq_some_iff.mp e).1]
theorem n_sig (O : Orc) {cs : List Nat} {loc : Loc} {h h1 : H} {xs : List Ex} {key : Int} {path kind : Str} {w msb : Int} (hx : evs (nx O) cs xs loc h = .ok [.int key, .str path, .str kind, .int w, .bool false, .int msb, .int 0] h1) :
  ev (nx O) cs (.new cSignal 21 xs) loc h = .ok (.ref (h1.length + 1)) (h1 ++ [.dct (sigD key path kind w msb .none .none), .ins cSignal h1.length]) := by
 have k : ObOk (h1 ++ [.dct [], .ins cSignal h1.length]) (h1.length + 1) h1.length cSignal := ⟨hget _ _ 1, by simp, by kd_p⟩
 simp only [ev_new, hx, bok, f21 O k (hget0 _ _)]
 rw [hset0]; rfl
theorem n_des (O : Orc) {cs : List Nat} {loc : Loc} {h : H} :
  ev (nx O) cs (.new cDesign 25 []) loc h = .ok (.ref (h.length + 1)) (h ++ [.dct (desD (h.length + 2)), .ins cDesign h.length] ++ [.lst [], .lst [], .lst [], .lst [], .lst [], .lst [], .lst [], .lst [], .lst [], .dct []]) := by
 have k : ObOk (h ++ [.dct [], .ins cDesign h.length]) (h.length + 1) h.length cDesign := ⟨hget _ _ 1, by simp, by kd_p⟩
 simp only [ev_new, evs_nil, bok, f25 O k (hget0 _ _)]
 rw [hset0]; simp
theorem n_thr (O : Orc) {cs : List Nat} {loc : Loc} {h h1 : H} {xs : List Ex} {a b c e f : V} (hx : evs (nx O) cs xs loc h = .ok [a, b, c, e, f] h1) :
  ev (nx O) cs (.new cThread 27 xs) loc h = .ok (.ref (h1.length + 1)) (h1 ++ [.dct (thrD a b c e f (h1.length + 2)), .ins cThread h1.length] ++ [.lst [], .lst [], .dct []]) := by
 have k : ObOk (h1 ++ [.dct [], .ins cThread h1.length]) (h1.length + 1) h1.length cThread := ⟨hget _ _ 1, by simp, by kd_p⟩
 simp only [ev_new, hx, bok, f27 O k (hget0 _ _)]
 rw [hset0]; simp
theorem f26 (O : Orc) {h : H} {i d C sg bp : Nat} {es : List (Str × V)} {sigs : List V} {bpd : List (Str × V)} (hi : h[i]? = some (.ins C d)) (hd : h[d]? = some (.dct es)) (h1 : es.lookup ("signals" : Str) = some (.ref sg)) (h2 : es.lookup ("by_path" : Str) = some (.ref bp))
  (hs : h[sg]? = some (.lst sigs)) (hb : h[bp]? = some (.dct bpd)) (hsl : sigs.length ≤ 1000) (hbl : bpd.length ≤ 900) (path kind : Str) (w msb : Int) (hp : bpd.lookup path = none) :
  (nx (nx O)).fn 26 [.ref i, .str path, .str kind, .int w, .bool false, .int msb, .int 0, .int (-1)] h =
   .ok (.ref (h.length + 1)) (((h ++ [LO.dct (sigD sigs.length path kind w msb .none .none), LO.ins cSignal h.length]).set sg (LO.lst (sigs ++ [V.ref (h.length + 1)]))).set bp (LO.dct (bpd ++ [(path, V.int sigs.length)]))) := by
 rw [r26]
 refine Run.eq (g_end ?_)
 unfold b26
 have a1 := a_get hi hd h1
 have e1 : evs (nx O) [] [(.bf .len [(.att (.l 0) ("signals" : Str))]), (.l 1), (.l 2), (.l 3), (.l 4), (.l 5), (.l 6)] [some (.ref i), some (.str path), some (.str kind), some (.int w), some (.bool false), some (.int msb), some (.int 0), some (.int (-1)), none] h
   = .ok [.int sigs.length, .str path, .str kind, .int w, .bool false, .int msb, .int 0] h := by
  row_walk with ⟨a1, l_len hs (by kd_p)⟩
 refine g_asg (Run.of (n_sig O e1) ?_)
 generalize hH : h ++ [LO.dct (sigD sigs.length path kind w msb .none .none), LO.ins cSignal h.length] = H'
 have q1 : H'[h.length + 1]? = some (.ins cSignal h.length) := by rw [← hH]; exact hget _ _ 1
 have q2 : H'[h.length]? = some (.dct (sigD sigs.length path kind w msb .none .none)) := by rw [← hH]; exact hget0 _ _
 have q3 : H'[sg]? = some (.lst sigs) := by rw [← hH]; exact ga_ hs
 have q4 : H'[bp]? = some (.dct bpd) := by rw [← hH]; exact ga_ hb
 have q5 : H'[i]? = some (.ins C d) := by rw [← hH]; exact ga_ hi
 have q6 : H'[d]? = some (.dct es) := by rw [← hH]; exact ga_ hd
 have hset' : H'.set h.length (.dct (putA ("at" : Str) (.int (-1)) (sigD sigs.length path kind w msb .none .none))) = H' := by
  rw [← hH, hset0]; rfl
 have n1 : sg ≠ d := fun q => by rw [q, hd] at hs; cases hs
 have n2 : sg ≠ i := fun q => by rw [q, hi] at hs; cases hs
 have n3 : sg ≠ bp := fun q => by rw [q, hb] at hs; cases hs
 have n4 : sg ≠ h.length := fun q => by rw [q, q2] at q3; cases q3
 have n5 : sg ≠ h.length + 1 := fun q => by rw [q, q1] at q3; cases q3
 have a2 := a_get q5 q6 h1
 have a3 := a_set (n := ("at" : Str)) (v := .int (-1)) q1 q2 (by simp [sigD])
 wp_walk using a3, hset'
 wp_walk using a2, on_append q3, m_append q3 (by kd_p)
 have a4 := a_get (n := ("key" : Str)) (v := .int sigs.length) (gs_ q1 n5 (y := .lst (sigs ++ [.ref (h.length + 1)]))) (gs_ q2 n4) rfl
 have a5 := a_get (gs_ q5 n2 (y := .lst (sigs ++ [.ref (h.length + 1)]))) (gs_ q6 n1) h2
 have a6 : setSubV (.ref bp) (.str path) (.int sigs.length) (H'.set sg (.lst (sigs ++ [.ref (h.length + 1)]))) = .ok () ((H'.set sg (.lst (sigs ++ [.ref (h.length + 1)]))).set bp (.dct (bpd ++ [(path, .int sigs.length)]))) := d_put (gs_ q4 n3) hbl hp
 wp_walk using a4, a5, a6
 wp_walk
noncomputable def cDes : List St := [.asg 9 (.new cDesign 25 []),
 .ex (.mc cDesign 26 ("add_signal" : Str) (.l 9) [(.k (V.str ("top.a" : Str))), (.k (V.str ("reg" : Str))), (.k (V.int 3)), (.k (V.bool false)), (.k (V.int 2)), (.k (V.int 0)), (.neg (.k (V.int 1)))]),
 .asg 10 (.mc cDesign 26 ("add_signal" : Str) (.l 9) [(.k (V.str ("top.m" : Str))), (.k (V.str ("reg" : Str))), (.l 6), (.k (V.bool false)), (.bin .Sub (.l 6) (.k (V.int 1))), (.k (V.int 0)), (.neg (.k (V.int 1)))]),
 .asgA (.l 10) ("first" : Str) (.ite (.l 4) (.l 3) (.l 8)),
 .asgA (.l 10) ("last" : Str) (.ite (.l 4) (.l 8) (.l 3)),
 .asg 11 (.mc cDesign 26 ("add_signal" : Str) (.l 9) [(.k (V.str ("top.n" : Str))), (.k (V.str ("wire" : Str))), (.l 6), (.k (V.bool false)), (.bin .Sub (.l 6) (.k (V.int 1))), (.k (V.int 0)), (.neg (.k (V.int 1)))]),
 .asgA (.l 11) ("first" : Str) (.l 3),
 .asgA (.l 11) ("last" : Str) (.l 8)]
noncomputable def dL (n : Nat) (sigs : List V) (bp : List (Str × V)) (r : H) : H := .dct (desD (n + 2)) :: .ins cDesign n :: .lst sigs :: .lst [] :: .lst [] :: .lst [] :: .lst [] :: .lst [] :: .lst [] :: .lst [] :: .lst [] :: .dct bp :: r
theorem add_sig (O : Orc) (h : H) (sigs : List V) (bp : List (Str × V)) (r : H) (path kind : Str) (w msb : Int) (hp : bp.lookup path = none) (hs : sigs.length ≤ 1000) (hb : bp.length ≤ 900) :
  (nx (nx O)).fn 26 [.ref (h.length + 1), .str path, .str kind, .int w, .bool false, .int msb, .int 0, .int (-1)] (h ++ dL h.length sigs bp r) =
   .ok (.ref (h.length + (13 + r.length))) (h ++ dL h.length (sigs ++ [.ref (h.length + (13 + r.length))]) (bp ++ [(path, .int sigs.length)]) (r ++ [.dct (sigD sigs.length path kind w msb .none .none), .ins cSignal (h.length + (12 + r.length))])) := by
 have e := f26 O (h := h ++ dL h.length sigs bp r) (i := h.length + 1) (d := h.length) (C := cDesign) (sg := h.length + 2) (bp := h.length + 11) (hget _ _ 1) (hget0 _ _) rfl rfl (hget _ _ 2) (hget _ _ 11) hs hb path kind w msb hp
 have hl : (h ++ dL h.length sigs bp r).length = h.length + (12 + r.length) := by simp [dL]; kd_p
 rw [e, hl, List.append_assoc, hset, hset]
 have : h.length + (12 + r.length) + 1 = h.length + (13 + r.length) := by kd_p
 rw [this]
 rfl
theorem sig_put (h : H) (n k : Nat) (sigs : List V) (bp : List (Str × V)) (r : H) (x : LO) (hk : k < r.length) : (h ++ dL n sigs bp r).set (h.length + (12 + k)) x = h ++ dL n sigs bp (r.set k x) := by
 rw [hset]
 unfold dL
 rw [show 12 + k = k + 12 by kd_p]
 rfl
theorem dL_get (h : H) (n k : Nat) (sigs : List V) (bp : List (Str × V)) (r : H) : (h ++ dL n sigs bp r)[h.length + (12 + k)]? = r[k]? := by
 rw [hget]
 unfold dL
 rw [show 12 + k = k + 12 by kd_p]
 rfl
noncomputable def dEnd (n : Nat) (w low high : Int) (up : Bool) : H := dL n [.ref (n + 13), .ref (n + 15), .ref (n + 17)] [("top.a", .int 0), ("top.m", .int 1), ("top.n", .int 2)]
 [.dct (sigD 0 "top.a" "reg" 3 2 .none .none), .ins cSignal (n + 12), .dct (sigD 1 "top.m" "reg" w (w - 1) (.int (if up then low else high)) (.int (if up then high else low))), .ins cSignal (n + 14),
 .dct (sigD 2 "top.n" "wire" w (w - 1) (.int low) (.int high)), .ins cSignal (n + 16)]
theorem add_ins (h : H) (sigs : List V) (bp : List (Str × V)) (r : H) : insOf cDesign ("add_signal" : Str) (.ref (h.length + 1)) (h ++ dL h.length sigs bp r) = true :=
 insOf_ok (hget _ _ 1) (hget0 _ _) rfl
theorem neg1 {O : Orc} {cs : List Nat} {loc : Loc} {h : H} : ev O cs (.neg (.k (V.int 1))) loc h = .ok (.int (-1)) h := rfl
theorem des_run (O : Orc) {N : Nat} (h : H) (s0 s1 s2 s5 s7 : Option V) (w low high : Int) (up : Bool) (Q : Fl × Loc → H → Prop) (X : Nat → Str → H → Prop) (r : List St)
  (y : Run (xss (nx (nx O)) [] N r (s0 :: s1 :: s2 :: some (.int low) :: some (.bool up) :: s5 :: some (.int w) :: s7 :: some (.int high) :: some (.ref (h.length + 1)) :: some (.ref (h.length + 15)) :: some (.ref (h.length + 17)) :: none :: none :: none :: none :: none :: none :: none :: none :: none :: none :: none :: none :: none :: none :: none :: none :: none :: none :: none :: none :: none :: none :: none :: none :: none :: none :: []) (h ++ dEnd h.length w low high up)) Q X) :
  Run (xss (nx (nx O)) [] N (cDes ++ r) (s0 :: s1 :: s2 :: some (.int low) :: some (.bool up) :: s5 :: some (.int w) :: s7 :: some (.int high) :: none :: none :: none :: none :: none :: none :: none :: none :: none :: none :: none :: none :: none :: none :: none :: none :: none :: none :: none :: none :: none :: none :: none :: none :: none :: none :: none :: none :: none :: []) h) Q X := by
 unfold cDes
 simp only [List.cons_append, List.nil_append]
 refine g_asg (Run.of (n_des (nx O)) ?_)
 have e1 : h ++ [LO.dct (desD (h.length + 2)), LO.ins cDesign h.length] ++ [LO.lst [], LO.lst [], LO.lst [], LO.lst [], LO.lst [], LO.lst [], LO.lst [], LO.lst [], LO.lst [], LO.dct []] = h ++ dL h.length [] [] [] := by
  rw [List.append_assoc]; rfl
 rw [e1]
 have p1 : (nx (nx O)).fn 26 [.ref (h.length + 1), .str "top.a", .str "reg", .int 3, .bool false, .int 2, .int 0, .int (-1)] (h ++ dL h.length [] [] []) = .ok (.ref (h.length + 13)) (h ++ dL h.length [.ref (h.length + 13)] [("top.a", .int 0)] [.dct (sigD 0 "top.a" "reg" 3 2 .none .none), .ins cSignal (h.length + 12)]) :=
  add_sig O h [] [] [] "top.a" "reg" 3 2 (by decide +kernel) (by simp) (by simp)
 wp_walk using neg1, add_ins, p1
 have p2 : (nx (nx O)).fn 26 [.ref (h.length + 1), .str "top.m", .str "reg", .int w, .bool false, .int (w - 1), .int 0, .int (-1)] (h ++ dL h.length [.ref (h.length + 13)] [("top.a", .int 0)] [.dct (sigD 0 "top.a" "reg" 3 2 .none .none), .ins cSignal (h.length + 12)]) = .ok (.ref (h.length + 15)) (h ++ dL h.length [.ref (h.length + 13), .ref (h.length + 15)] [("top.a", .int 0), ("top.m", .int 1)] [.dct (sigD 0 "top.a" "reg" 3 2 .none .none), .ins cSignal (h.length + 12), .dct (sigD 1 "top.m" "reg" w (w - 1) .none .none), .ins cSignal (h.length + 14)]) :=
  add_sig O h [.ref (h.length + 13)] [("top.a", .int 0)] [.dct (sigD 0 "top.a" "reg" 3 2 .none .none), .ins cSignal (h.length + 12)] "top.m" "reg" w (w - 1) (by decide +kernel) (by simp) (by simp)
 wp_walk using neg1, add_ins, p2
 have q1i : (h ++ dL h.length [.ref (h.length + 13), .ref (h.length + 15)] [("top.a", .int 0), ("top.m", .int 1)] [.dct (sigD 0 "top.a" "reg" 3 2 .none .none), .ins cSignal (h.length + 12), .dct (sigD 1 "top.m" "reg" w (w - 1) .none .none), .ins cSignal (h.length + 14)])[h.length + 15]? = some (.ins cSignal (h.length + 14)) := dL_get h h.length 3 _ _ _
 have q1d : (h ++ dL h.length [.ref (h.length + 13), .ref (h.length + 15)] [("top.a", .int 0), ("top.m", .int 1)] [.dct (sigD 0 "top.a" "reg" 3 2 .none .none), .ins cSignal (h.length + 12), .dct (sigD 1 "top.m" "reg" w (w - 1) .none .none), .ins cSignal (h.length + 14)])[h.length + 14]? = some (.dct (sigD 1 "top.m" "reg" w (w - 1) .none .none)) := dL_get h h.length 2 _ _ _
 have q1 : setAttV (.ref (h.length + 15)) "first" (.int (if up then low else high)) (h ++ dL h.length [.ref (h.length + 13), .ref (h.length + 15)] [("top.a", .int 0), ("top.m", .int 1)] [.dct (sigD 0 "top.a" "reg" 3 2 .none .none), .ins cSignal (h.length + 12), .dct (sigD 1 "top.m" "reg" w (w - 1) .none .none), .ins cSignal (h.length + 14)]) = .ok () (h ++ dL h.length [.ref (h.length + 13), .ref (h.length + 15)] [("top.a", .int 0), ("top.m", .int 1)] [.dct (sigD 0 "top.a" "reg" 3 2 .none .none), .ins cSignal (h.length + 12), .dct (sigD 1 "top.m" "reg" w (w - 1) (.int (if up then low else high)) .none), .ins cSignal (h.length + 14)]) := by
  rw [a_set q1i q1d (by simp [sigD])]
  exact congrArg (Res.ok ()) (sig_put h h.length 2 _ _ _ _ (by simp))
 have q2i : (h ++ dL h.length [.ref (h.length + 13), .ref (h.length + 15)] [("top.a", .int 0), ("top.m", .int 1)] [.dct (sigD 0 "top.a" "reg" 3 2 .none .none), .ins cSignal (h.length + 12), .dct (sigD 1 "top.m" "reg" w (w - 1) (.int (if up then low else high)) .none), .ins cSignal (h.length + 14)])[h.length + 15]? = some (.ins cSignal (h.length + 14)) := dL_get h h.length 3 _ _ _
 have q2d : (h ++ dL h.length [.ref (h.length + 13), .ref (h.length + 15)] [("top.a", .int 0), ("top.m", .int 1)] [.dct (sigD 0 "top.a" "reg" 3 2 .none .none), .ins cSignal (h.length + 12), .dct (sigD 1 "top.m" "reg" w (w - 1) (.int (if up then low else high)) .none), .ins cSignal (h.length + 14)])[h.length + 14]? = some (.dct (sigD 1 "top.m" "reg" w (w - 1) (.int (if up then low else high)) .none)) := dL_get h h.length 2 _ _ _
 have q2 : setAttV (.ref (h.length + 15)) "last" (.int (if up then high else low)) (h ++ dL h.length [.ref (h.length + 13), .ref (h.length + 15)] [("top.a", .int 0), ("top.m", .int 1)] [.dct (sigD 0 "top.a" "reg" 3 2 .none .none), .ins cSignal (h.length + 12), .dct (sigD 1 "top.m" "reg" w (w - 1) (.int (if up then low else high)) .none), .ins cSignal (h.length + 14)]) = .ok () (h ++ dL h.length [.ref (h.length + 13), .ref (h.length + 15)] [("top.a", .int 0), ("top.m", .int 1)] [.dct (sigD 0 "top.a" "reg" 3 2 .none .none), .ins cSignal (h.length + 12), .dct (sigD 1 "top.m" "reg" w (w - 1) (.int (if up then low else high)) (.int (if up then high else low))), .ins cSignal (h.length + 14)]) := by
  rw [a_set q2i q2d (by simp [sigD])]
  exact congrArg (Res.ok ()) (sig_put h h.length 2 _ _ _ _ (by simp))
 refine g_asgA (Run.of (show ev (nx (nx O)) [] _ _ _ = .ok (.int (if up then low else high)) (h ++ dL h.length [.ref (h.length + 13), .ref (h.length + 15)] [("top.a", .int 0), ("top.m", .int 1)] [.dct (sigD 0 "top.a" "reg" 3 2 .none .none), .ins cSignal (h.length + 12), .dct (sigD 1 "top.m" "reg" w (w - 1) .none .none), .ins cSignal (h.length + 14)]) from by cases up <;> rfl) (Run.of rfl (Run.of q1 ?_)))
 refine g_asgA (Run.of (show ev (nx (nx O)) [] _ _ _ = .ok (.int (if up then high else low)) (h ++ dL h.length [.ref (h.length + 13), .ref (h.length + 15)] [("top.a", .int 0), ("top.m", .int 1)] [.dct (sigD 0 "top.a" "reg" 3 2 .none .none), .ins cSignal (h.length + 12), .dct (sigD 1 "top.m" "reg" w (w - 1) (.int (if up then low else high)) .none), .ins cSignal (h.length + 14)]) from by cases up <;> rfl) (Run.of rfl (Run.of q2 ?_)))
 have p3 : (nx (nx O)).fn 26 [.ref (h.length + 1), .str "top.n", .str "wire", .int w, .bool false, .int (w - 1), .int 0, .int (-1)] (h ++ dL h.length [.ref (h.length + 13), .ref (h.length + 15)] [("top.a", .int 0), ("top.m", .int 1)] [.dct (sigD 0 "top.a" "reg" 3 2 .none .none), .ins cSignal (h.length + 12), .dct (sigD 1 "top.m" "reg" w (w - 1) (.int (if up then low else high)) (.int (if up then high else low))), .ins cSignal (h.length + 14)]) = .ok (.ref (h.length + 17)) (h ++ dL h.length [.ref (h.length + 13), .ref (h.length + 15), .ref (h.length + 17)] [("top.a", .int 0), ("top.m", .int 1), ("top.n", .int 2)] [.dct (sigD 0 "top.a" "reg" 3 2 .none .none), .ins cSignal (h.length + 12), .dct (sigD 1 "top.m" "reg" w (w - 1) (.int (if up then low else high)) (.int (if up then high else low))), .ins cSignal (h.length + 14), .dct (sigD 2 "top.n" "wire" w (w - 1) .none .none), .ins cSignal (h.length + 16)]) :=
  add_sig O h [.ref (h.length + 13), .ref (h.length + 15)] [("top.a", .int 0), ("top.m", .int 1)] [.dct (sigD 0 "top.a" "reg" 3 2 .none .none), .ins cSignal (h.length + 12), .dct (sigD 1 "top.m" "reg" w (w - 1) (.int (if up then low else high)) (.int (if up then high else low))), .ins cSignal (h.length + 14)] "top.n" "wire" w (w - 1) (by decide +kernel) (by simp) (by simp)
 wp_walk using neg1, add_ins, p3
 have q3i : (h ++ dL h.length [.ref (h.length + 13), .ref (h.length + 15), .ref (h.length + 17)] [("top.a", .int 0), ("top.m", .int 1), ("top.n", .int 2)] [.dct (sigD 0 "top.a" "reg" 3 2 .none .none), .ins cSignal (h.length + 12), .dct (sigD 1 "top.m" "reg" w (w - 1) (.int (if up then low else high)) (.int (if up then high else low))), .ins cSignal (h.length + 14), .dct (sigD 2 "top.n" "wire" w (w - 1) .none .none), .ins cSignal (h.length + 16)])[h.length + 17]? = some (.ins cSignal (h.length + 16)) := dL_get h h.length 5 _ _ _
 have q3d : (h ++ dL h.length [.ref (h.length + 13), .ref (h.length + 15), .ref (h.length + 17)] [("top.a", .int 0), ("top.m", .int 1), ("top.n", .int 2)] [.dct (sigD 0 "top.a" "reg" 3 2 .none .none), .ins cSignal (h.length + 12), .dct (sigD 1 "top.m" "reg" w (w - 1) (.int (if up then low else high)) (.int (if up then high else low))), .ins cSignal (h.length + 14), .dct (sigD 2 "top.n" "wire" w (w - 1) .none .none), .ins cSignal (h.length + 16)])[h.length + 16]? = some (.dct (sigD 2 "top.n" "wire" w (w - 1) .none .none)) := dL_get h h.length 4 _ _ _
 have q3 : setAttV (.ref (h.length + 17)) "first" (.int low) (h ++ dL h.length [.ref (h.length + 13), .ref (h.length + 15), .ref (h.length + 17)] [("top.a", .int 0), ("top.m", .int 1), ("top.n", .int 2)] [.dct (sigD 0 "top.a" "reg" 3 2 .none .none), .ins cSignal (h.length + 12), .dct (sigD 1 "top.m" "reg" w (w - 1) (.int (if up then low else high)) (.int (if up then high else low))), .ins cSignal (h.length + 14), .dct (sigD 2 "top.n" "wire" w (w - 1) .none .none), .ins cSignal (h.length + 16)]) = .ok () (h ++ dL h.length [.ref (h.length + 13), .ref (h.length + 15), .ref (h.length + 17)] [("top.a", .int 0), ("top.m", .int 1), ("top.n", .int 2)] [.dct (sigD 0 "top.a" "reg" 3 2 .none .none), .ins cSignal (h.length + 12), .dct (sigD 1 "top.m" "reg" w (w - 1) (.int (if up then low else high)) (.int (if up then high else low))), .ins cSignal (h.length + 14), .dct (sigD 2 "top.n" "wire" w (w - 1) (.int low) .none), .ins cSignal (h.length + 16)]) := by
  rw [a_set q3i q3d (by simp [sigD])]
  exact congrArg (Res.ok ()) (sig_put h h.length 4 _ _ _ _ (by simp))
 have q4i : (h ++ dL h.length [.ref (h.length + 13), .ref (h.length + 15), .ref (h.length + 17)] [("top.a", .int 0), ("top.m", .int 1), ("top.n", .int 2)] [.dct (sigD 0 "top.a" "reg" 3 2 .none .none), .ins cSignal (h.length + 12), .dct (sigD 1 "top.m" "reg" w (w - 1) (.int (if up then low else high)) (.int (if up then high else low))), .ins cSignal (h.length + 14), .dct (sigD 2 "top.n" "wire" w (w - 1) (.int low) .none), .ins cSignal (h.length + 16)])[h.length + 17]? = some (.ins cSignal (h.length + 16)) := dL_get h h.length 5 _ _ _
 have q4d : (h ++ dL h.length [.ref (h.length + 13), .ref (h.length + 15), .ref (h.length + 17)] [("top.a", .int 0), ("top.m", .int 1), ("top.n", .int 2)] [.dct (sigD 0 "top.a" "reg" 3 2 .none .none), .ins cSignal (h.length + 12), .dct (sigD 1 "top.m" "reg" w (w - 1) (.int (if up then low else high)) (.int (if up then high else low))), .ins cSignal (h.length + 14), .dct (sigD 2 "top.n" "wire" w (w - 1) (.int low) .none), .ins cSignal (h.length + 16)])[h.length + 16]? = some (.dct (sigD 2 "top.n" "wire" w (w - 1) (.int low) .none)) := dL_get h h.length 4 _ _ _
 have q4 : setAttV (.ref (h.length + 17)) "last" (.int high) (h ++ dL h.length [.ref (h.length + 13), .ref (h.length + 15), .ref (h.length + 17)] [("top.a", .int 0), ("top.m", .int 1), ("top.n", .int 2)] [.dct (sigD 0 "top.a" "reg" 3 2 .none .none), .ins cSignal (h.length + 12), .dct (sigD 1 "top.m" "reg" w (w - 1) (.int (if up then low else high)) (.int (if up then high else low))), .ins cSignal (h.length + 14), .dct (sigD 2 "top.n" "wire" w (w - 1) (.int low) .none), .ins cSignal (h.length + 16)]) = .ok () (h ++ dL h.length [.ref (h.length + 13), .ref (h.length + 15), .ref (h.length + 17)] [("top.a", .int 0), ("top.m", .int 1), ("top.n", .int 2)] [.dct (sigD 0 "top.a" "reg" 3 2 .none .none), .ins cSignal (h.length + 12), .dct (sigD 1 "top.m" "reg" w (w - 1) (.int (if up then low else high)) (.int (if up then high else low))), .ins cSignal (h.length + 14), .dct (sigD 2 "top.n" "wire" w (w - 1) (.int low) (.int high)), .ins cSignal (h.length + 16)]) := by
  rw [a_set q4i q4d (by simp [sigD])]
  exact congrArg (Res.ok ()) (sig_put h h.length 4 _ _ _ _ (by simp))
 refine g_asgA (Run.of rfl (Run.of rfl (Run.of q3 ?_)))
 refine g_asgA (Run.of rfl (Run.of rfl (Run.of q4 ?_)))
 exact y
noncomputable def plL (p0 : Int) (rest : List Int) : List V := .int p0 :: rest.map V.int
theorem s_put {h : H} {r : Nat} {xs : List V} {k : Nat} {v : V} (e : h[r]? = some (.lst xs)) (hk : k < xs.length) (h6 : k < 2 ^ 60) : setSubV (.ref r) (.int k) v h = .ok () (h.set r (.lst (xs.set k v))) := by
 show (lst? h r).elim Res.bad (fun xs => if 0 ≤ (k : Int) ∧ (k : Int) < xs.length ∧ (k : Int) < 2 ^ 60 then Res.ok () (h.set r (.lst (xs.set k v))) else Res.bad) = _
 rw [lst_eq e, Option.elim_some]
 exact if_pos ⟨Int.natCast_nonneg k, Int.ofNat_lt.mpr hk, by kd_p⟩
theorem plL_len (p : Int) (r : List Int) : (plL p r).length = r.length + 1 := congrArg (· + 1) (List.length_map _)
theorem f30 (O : Orc) {h : H} {p : Nat} {p0 : Int} {rest : List Int} (n : Int) (e : h[p]? = some (.lst (plL p0 rest))) (h0 : 0 ≤ p0) (h1 : p0 < 65537) (hr : rest.length ≤ 60) (n1 : 1 ≤ n) (n2 : n ≤ 1000) :
  Run ((nx O).fn 30 [.ref p, .int n] h) (fun v h' => ∃ d p0' rest', v = .int d ∧ 0 ≤ d ∧ d < n ∧ 0 ≤ p0' ∧ p0' < 65537 ∧ rest'.length ≤ 60 ∧ h' = h.set p (.lst (plL p0' rest'))) NoX := by
 rw [r30]
 refine g_end ?_
 unfold b30
 have hl : (plL p0 rest).length ≤ 100000 := by rw [plL_len]; exact Nat.le_trans (Nat.succ_le_succ hr) (by decide)
 have w0 : p0.natAbs < 2 ^ 40 ∧ Int.natAbs 75 < 2 ^ 20 := ⟨Nat.lt_trans (nab (b := 65537) h0 h1) (by decide), by decide⟩
 have n0 : 0 < n := n1
 have w1 : n ≠ 0 ∧ n.natAbs < 2 ^ 20 := ⟨Int.ne_of_gt n0, Nat.lt_trans (nab (b := 1001) (Int.le_of_lt n0) (Int.lt_add_one_of_le n2)) (by decide)⟩
 have hset : ∀ (hh : H) (x : Int) (l : List V), hh[p]? = some (.lst (.int x :: l)) → ∀ y, setSubV (.ref p) (.int 0) (.int y) hh = .ok () (hh.set p (.lst (.int y :: l))) := fun hh x l e y => s_put (k := 0) e (Nat.succ_pos _) (by decide)
 have hget : ∀ (hh : H) (x : V) (l : List V), hh[p]? = some (.lst (x :: l)) → subV (.ref p) (.int 0) hh = .ok x hh := fun hh x l e => l_sub (i := 0) e rfl (by decide)
 rcases List.eq_nil_or_concat rest with rfl | ⟨r, c, rfl⟩
 ·wp_walk using l_len e hl
  have e0 : h[p]? = some (.lst (.int p0 :: [])) := e
  have ht : ((((plL p0 []).length : Nat) : Int) == 1) = true := rfl
  simp only [ht, true_imp_iff, reduceCtorEq, false_imp_iff, and_true]
  have m1 : 0 ≤ (p0 * 75 + 74).fmod 65537 := Int.fmod_nonneg_of_pos _ (by decide)
  have m2 : (p0 * 75 + 74).fmod 65537 < 65537 := Int.fmod_lt_of_pos _ (by decide)
  wp_walk using hget _ _ _ e0, hset _ _ _ e0
  have e1 : (h.set p (.lst (.int ((p0 * 75 + 74).fmod 65537) :: [])))[p]? = some (.lst (.int ((p0 * 75 + 74).fmod 65537) :: [])) := gs0 e0
  wp_walk using hget _ _ _ e1
  exact ⟨_, (p0 * 75 + 74).fmod 65537, [], rfl, Int.fmod_nonneg_of_pos _ n0, Int.fmod_lt_of_pos _ n0, m1, m2, by simp, rfl⟩
 ·have hc : r.concat c = r ++ [c] := List.concat_eq_append ..
  rw [hc] at e hl hr
  rw [List.length_append, List.length_singleton] at hr
  have hpl : plL p0 (r ++ [c]) = (plL p0 r) ++ [.int c] := by simp [plL]
  have e' := e
  rw [hpl] at e'
  have hlr : (plL p0 r).length ≤ 10000 := by rw [plL_len]; exact Nat.le_trans hr (by decide)
  have ht : ((((plL p0 (r ++ [c])).length : Nat) : Int) == 1) = false := by
   rw [beq_eq_false_iff_ne, plL_len, List.length_append]
   exact fun q => Nat.succ_ne_zero _ (Nat.succ.inj (Int.ofNat.inj q))
  wp_walk using l_len e hl
  simp only [ht, reduceCtorEq, false_imp_iff, true_imp_iff, true_and]
  wp_walk using on_pop e', m_pop e' hlr
  have e1 : (h.set p (.lst (plL p0 r)))[p]? = some (.lst (plL p0 r)) := gs0 e
  have hfin : ∀ (q : List Int), q.length ≤ 60 → Run (xss O [] 4096 [.asgS (.l 0) (.k (V.int 0)) (.bin .Mod (.bin .Add (.bin .Add (.bin .Mult (.sub (.l 0) (.k (V.int 0))) (.k (V.int 75))) (.k (V.int 74))) (.bin .Mod (.l 2) (.k (V.int 1009)))) (.k (V.int 65537))), .ret (.bin .Mod (.l 2) (.l 1))] [some (.ref p), some (.int n), some (.int c)] (h.set p (.lst (plL p0 q))))
    (End fun v h' => ∃ d p0' rest', v = .int d ∧ 0 ≤ d ∧ d < n ∧ 0 ≤ p0' ∧ p0' < 65537 ∧ rest'.length ≤ 60 ∧ h' = h.set p (.lst (plL p0' rest'))) NoX := fun q hq => by
   have e2 : (h.set p (.lst (plL p0 q)))[p]? = some (.lst (.int p0 :: q.map V.int)) := gs0 e
   wp_walk using hget _ _ _ e2, hset _ _ _ e2, List.set_set
   wp_walk
   refine ⟨_, _, q, rfl, Int.fmod_nonneg_of_pos _ n0, Int.fmod_lt_of_pos _ n0, ?_, ?_, hq, rfl⟩
   ·exact Int.fmod_nonneg_of_pos _ (by decide)
   ·exact Int.fmod_lt_of_pos _ (by decide)
  wp_walk
  refine ⟨fun _ => ?_, fun _ => hfin r (Nat.le_of_succ_le hr)⟩
  wp_walk using on_append e1, m_append e1 (Nat.le_trans hlr (by decide : 10000 ≤ 100000)), List.set_set
  have := hfin (r ++ [c.fdiv n]) (by rw [List.length_append]; exact hr)
  rw [show plL p0 (r ++ [c.fdiv n]) = plL p0 r ++ [.int (c.fdiv n)] from by simp [plL]] at this
  exact this
theorem g_asgI {O : Orc} {cs : List Nat} {N : Nat} {loc : Loc} {h : H} {Q : Fl × Loc → H → Prop} {X : Nat → Str → H → Prop} {r : List St} {i : Nat} {a : Ex}
  (x : Run (ev O cs a loc h) (fun v h => ∃ q xs ns, v = .ref q ∧ h[q]? = some (.lst xs) ∧ intsV xs = some ns ∧ xs.length ≤ 1000 ∧ Run (xss O cs N r (loc.set i (some (.ref h.length))) (h ++ [.lst xs])) Q X) X) : Run (xss O cs N (.asgI i a :: r) loc h) Q X := by
 rw [xss_cons]
 refine Run.s1 (x.imp fun v h z => ?_)
 obtain ⟨q, xs, ns, rfl, e2, e3, e4, z⟩ := z
 show Run (Res.bind ((lst? h q).elim Res.bad _) _) _ _
 rw [lst_eq e2, Option.elim_some, if_pos ⟨by rw [e3]; rfl, e4⟩]
 exact z
theorem l_list {r : Nat} {xs : List V} {h : H} (e : h[r]? = some (.lst xs)) (hl : xs.length ≤ 100000) : bfV .list [.ref r] h = .ok (.ref h.length) (h ++ [.lst xs]) := (el_l e).trans (okP_pos hl)
theorem l_take40 {i : Nat} {xs : List V} {h : H} (e1 : h[i]? = some (.lst xs)) (hl : xs.length ≤ 100000) : slcV (.ref i) none (some (.int 40)) h = .ok (.ref h.length) (h ++ [.lst (xs.take 40)]) := l_take (k := 40) e1 hl
theorem l_sc (ns : List Int) (h : H) (hl : ns.length ≤ 100000) : bfV .list [.sc ns] h = .ok (.ref h.length) (h ++ [.lst (ns.map V.int)]) := okP_pos hl
theorem f29 (O : Orc) {h : H} {ns : List Int} (hl : ns.length ≤ 1000) :
  ∃ g, (nx O).fn 29 [.sc ns] h = .ok (.ref (h.length + 4)) (h ++ g) ∧ g.length = 5 ∧ g[4]? = some (.lst (plL 5 (ns.take 40).reverse)) := by
 have hl1 : (ns.map V.int).length ≤ 100000 := by simp; kd_p
 refine ⟨[.lst (ns.map V.int), LO.lst ((ns.map V.int).take 40), LO.lst ((ns.map V.int).take 40).reverse, LO.lst [V.int 5], LO.lst ([V.int 5] ++ ((ns.map V.int).take 40).reverse)], ?_, rfl, ?_⟩
 ·rw [r29]
  refine Run.eq (g_end ?_)
  unfold b29
  have e1 : (h ++ [LO.lst (ns.map V.int)])[h.length]? = some (.lst (ns.map V.int)) := hget0 _ _
  have q1 : ev O [] (.slc (.bf .list [(.l 0)]) none (some (.k (V.int 40)))) [some (.sc ns), none] h = .ok (.ref (h.length + 1)) (h ++ [LO.lst (ns.map V.int), LO.lst ((ns.map V.int).take 40)]) := by
   row_walk with ⟨l_sc ns h (by kd_p), l_take40 e1 hl1⟩
   simp
  refine g_asgI (Run.of q1 ⟨h.length + 1, (ns.map V.int).take 40, ns.take 40, rfl, hget _ _ 1, ?_, ?_, ?_⟩)
  ·rw [← List.map_take]
   have := intsV_map (fun n : Int => n) (ns.take 40)
   rw [List.map_id'] at this
   exact this
  ·simp; kd_p
  ·have hl2 : ((ns.map V.int).take 40).length ≤ 100000 := by simp; kd_p
   have z1 : (h ++ [LO.lst (ns.map V.int), LO.lst ((ns.map V.int).take 40)]).length = h.length + 2 := by simp
   rw [z1, List.append_assoc]
   have e2 : (h ++ [LO.lst (ns.map V.int), LO.lst ((ns.map V.int).take 40), LO.lst ((ns.map V.int).take 40)])[h.length + 2]? = some (.lst ((ns.map V.int).take 40)) := hget _ _ 2
   have s2 : (h ++ [LO.lst (ns.map V.int), LO.lst ((ns.map V.int).take 40), LO.lst ((ns.map V.int).take 40)]).set (h.length + 2) (.lst ((ns.map V.int).take 40).reverse) = h ++ [LO.lst (ns.map V.int), LO.lst ((ns.map V.int).take 40), LO.lst ((ns.map V.int).take 40).reverse] := by
    rw [hset]; rfl
   have hl3 : ([V.int 5] : List V).length + ((ns.map V.int).take 40).reverse.length ≤ 100000 := by simp; kd_p
   wp_walk using on_rev e2, m_rev e2 hl2, s2
   have e3 : (h ++ [LO.lst (ns.map V.int), LO.lst ((ns.map V.int).take 40), LO.lst ((ns.map V.int).take 40).reverse] ++ [LO.lst [V.int 5]])[h.length + 2]? = some (.lst ((ns.map V.int).take 40).reverse) := by rw [List.append_assoc]; exact hget _ _ 2
   have e4 : (h ++ [LO.lst (ns.map V.int), LO.lst ((ns.map V.int).take 40), LO.lst ((ns.map V.int).take 40).reverse] ++ [LO.lst [V.int 5]])[h.length + 3]? = some (.lst [.int 5]) := by rw [List.append_assoc]; exact hget _ _ 3
   have z2 : (h ++ [LO.lst (ns.map V.int), LO.lst ((ns.map V.int).take 40), LO.lst ((ns.map V.int).take 40).reverse]).length = h.length + 3 := by simp
   have z3 : (h ++ [LO.lst (ns.map V.int), LO.lst ((ns.map V.int).take 40), LO.lst ((ns.map V.int).take 40).reverse] ++ [LO.lst [V.int 5]]).length = h.length + 4 := by simp
   wp_walk using newM_eq, z2, l_add e4 e3 hl3, z3
   simp
 ·simp [plL, List.map_take, List.map_reverse]
noncomputable abbrev kv (x : Str) (v : V) : Str × V := (x, v)
section
variable {h l : H} {n : Nat}
theorem hgn (hn : h.length = n) (k : Nat) (l : H) : (h ++ l)[n + k]? = l[k]? := by subst hn; exact hget h l k
theorem hg0 (hn : h.length = n) (l : H) : (h ++ l)[n]? = l[0]? := by subst hn; exact hget0 h l
theorem hsn (hn : h.length = n) (k : Nat) (l : H) (x : LO) : (h ++ l).set (n + k) x = h ++ l.set k x := by subst hn; exact hset h l k x
theorem hs0 (hn : h.length = n) (l : H) (x : LO) : (h ++ l).set n x = h ++ l.set 0 x := by subst hn; exact hset0 h l x
theorem put_h (hn : h.length = n) (l : H) (i d C : Nat) (es : List (Str × V)) (nm : Str) (v : V) (hi : l[i]? = some (.ins C (n + d))) (hd : l[d]? = some (.dct es)) (hl : es.length ≤ 900) :
  setAttV (.ref (n + i)) nm v (h ++ l) = .ok () (h ++ l.set d (.dct (putA nm v es))) := by
 rw [a_set ((hgn hn i l).trans hi) ((hgn hn d l).trans hd) hl, hsn hn]
theorem get_h (hn : h.length = n) (l : H) (i d C : Nat) (es : List (Str × V)) (nm : Str) (v : V) (hi : l[i]? = some (.ins C (n + d))) (hd : l[d]? = some (.dct es)) (hl : es.lookup nm = some v) :
  attV (.ref (n + i)) nm (h ++ l) = .ok v (h ++ l) := a_get ((hgn hn i l).trans hi) ((hgn hn d l).trans hd) hl
theorem ce_h {O : Orc} {loc : Loc} (hn : h.length = n) (l : H) (v : V) (hi : l[0]? = some (.cel (some v))) : ev O [n] (.ce 0) loc (h ++ l) = .ok v (h ++ l) := by
 have : (h ++ l)[n]? = some (.cel (some v)) := (hg0 hn l).trans hi
 simp only [ev_ce, List.getElem?_cons_zero, this]
end
theorem g_defn {O : Orc} {cs : List Nat} {N : Nat} {loc : Loc} {h : H} {Q : Fl × Loc → H → Prop} {X : Nat → Str → H → Prop} {r : List St} {i k m : Nat} (e : h[0]? = some (.tab m)) (hk : k ≤ m)
  (x : Run (xss O cs N r (loc.set i (some (.clo k cs))) (h.set 0 (.tab (Nat.max m (k + 1))))) Q X) : Run (xss O cs N (.defn i k :: r) loc h) Q X := by
 rw [xss_cons]
 show Run (Res.bind ((tab? h).elim Res.bad _) _) _ _
 rw [show tab? h = some m by unfold tab?; rw [e]; rfl, Option.elim_some, if_pos hk]
 exact x
noncomputable def kerD (n : Nat) : List (Str × V) := thrD (.int 0) (.ref (n + 1)) (.int 0) (.ref (n + 2)) (.str "top") (n + 5) ++ [kv "store" (.ref (n + 11)), kv "files" (.ref (n + 15)), kv "told" (.ref (n + 16)), kv "lent" (.ref (n + 17)), kv "back" (.ref (n + 18)), kv "context" (.clo 0 [n]), kv "close_context" (.clo 1 [n]), kv "set_word" (.clo 2 [n])]
noncomputable def stoD (n : Nat) (sg : V) : List (Str × V) := thrD (.int 1) (.ref (n + 8)) (.int 0) (.ref (n + 9)) (.str "top") (n + 12) ++ [kv "signals" sg]
noncomputable def kL (n : Nat) (sg text : V) : H := [LO.cel (some (.ref (n + 4))), LO.lst [], LO.lst [], LO.dct (kerD n), LO.ins cThread (n + 3), LO.lst [], LO.lst [], LO.dct [], LO.lst [], LO.lst [], LO.dct (stoD n sg), LO.ins cThread (n + 10), LO.lst [], LO.lst [], LO.dct [], LO.dct [("f1", text)], LO.lst [], LO.lst [], LO.lst []]
noncomputable def hA (n : Nat) (D E : List (Str × V)) (t : H) : H := LO.cel (some (.ref (n + 4))) :: .lst [] :: .lst [] :: .dct D :: .ins cThread (n + 3) :: .lst [] :: .lst [] :: .dct [] :: .lst [] :: .lst [] :: .dct E :: .ins cThread (n + 10) :: .lst [] :: .lst [] :: .dct [] :: t
section
variable {h t : H} {n : Nat} {D E : List (Str × V)} {O : Orc} {loc : Loc} (hn : h.length = n)
include hn
theorem hA_k (nm : Str) (v : V) (hl : Nat.ble D.length 900 = true) : setAttV (.ref (n + 4)) nm v (h ++ hA n D E t) = .ok () (h ++ hA n (putA nm v D) E t) := put_h hn (hA n D E t) 4 3 cThread D nm v rfl rfl (Nat.le_of_ble_eq_true hl)
theorem hA_s (nm : Str) (v : V) (hl : Nat.ble E.length 900 = true) : setAttV (.ref (n + 11)) nm v (h ++ hA n D E t) = .ok () (h ++ hA n D (putA nm v E) t) := put_h hn (hA n D E t) 11 10 cThread E nm v rfl rfl (Nat.le_of_ble_eq_true hl)
theorem hA_c : ev O [n] (.ce 0) loc (h ++ hA n D E t) = .ok (.ref (n + 4)) (h ++ hA n D E t) := ce_h hn _ _ rfl
theorem hA_n : ev O [n] (.lst []) loc (h ++ hA n D E t) = .ok (.ref (n + 15 + t.length)) (h ++ hA n D E (t ++ [.lst []])) := by
 show okP (0 ≤ 1000) (Res.ok (V.ref (h ++ hA n D E t).length) (h ++ hA n D E t ++ [.lst []])) = _
 rw [okP_pos (Nat.zero_le _), List.append_assoc, List.length_append, hn, show (hA n D E t).length = 15 + t.length from Nat.add_comm t.length 15, ← Nat.add_assoc]
 rfl
theorem hA_d {sg text : V} {r : Loc} : ev O [n] (.dct ("f1" : Str) (.l 1)) (some sg :: some text :: r) (h ++ hA n D E []) = .ok (.ref (n + 15)) (h ++ hA n D E [.dct [("f1", text)]]) := by
 have hl : (h ++ hA n D E []).length = n + 15 := by rw [List.length_append, hn]; rfl
 have hg : (h ++ hA n D E [] ++ [LO.dct []])[n + 15]? = some (.dct []) := by rw [List.append_assoc]; exact hgn hn 15 _
 rw [ev_dct, hl]
 row_walk
 rw [dct_eq hg, Option.elim_some, if_pos (show ([] : List (Str × V)).isEmpty = true from rfl), List.append_assoc, hsn hn]
 rfl
end
theorem f33 (O : Orc) {h : H} {m : Nat} (e : h[0]? = some (.tab m)) (sg text : V) (n : Nat) (hn : h.length = n) :
  (nx (nx O)).fn 33 [sg, text] h = .ok (.ref (n + 4)) (h.set 0 (.tab (Nat.max m 3)) ++ kL n sg text) := by
 rw [r33, hn]
 refine Run.eq (g_end ?_)
 unfold b33
 have x1 : evs (nx O) [n] [(.k (V.int 0)), (.lst []), (.k (V.int 0)), (.lst []), (.k (V.str ("top" : Str)))] [some sg, some text, none, none, none] (h ++ [LO.cel none]) = .ok [.int 0, .ref (n + 1), .int 0, .ref (n + 2), .str "top"] (h ++ [LO.cel none, LO.lst [], LO.lst []]) := by
  row_walk with ⟨newM_eq⟩
  simp [hn]
 have E1 : ev (nx O) [n] (.new cThread 27 [(.k (V.int 0)), (.lst []), (.k (V.int 0)), (.lst []), (.k (V.str ("top" : Str)))]) [some sg, some text, none, none, none] (h ++ [LO.cel none]) = .ok (.ref (n + 4)) (h ++ [LO.cel none, LO.lst [], LO.lst [], LO.dct (thrD (.int 0) (.ref (n + 1)) (.int 0) (.ref (n + 2)) (.str "top") (n + 5)), LO.ins cThread (n + 3), LO.lst [], LO.lst [], LO.dct []]) := by
  rw [n_thr O x1]
  simp [hn]
 refine g_asgC (Run.of E1 ⟨n, none, rfl, hg0 hn _, ?_⟩)
 rw [hs0 hn]
 have x2 : evs (nx O) [n] [(.k (V.int 1)), (.lst []), (.k (V.int 0)), (.lst []), (.k (V.str ("top" : Str)))] [some sg, some text, none, none, none] (h ++ [LO.cel (some (.ref (n + 4))), LO.lst [], LO.lst [], LO.dct (thrD (.int 0) (.ref (n + 1)) (.int 0) (.ref (n + 2)) (.str "top") (n + 5)), LO.ins cThread (n + 3), LO.lst [], LO.lst [], LO.dct []]) = .ok [.int 1, .ref (n + 8), .int 0, .ref (n + 9), .str "top"] (h ++ [LO.cel (some (.ref (n + 4))), LO.lst [], LO.lst [], LO.dct (thrD (.int 0) (.ref (n + 1)) (.int 0) (.ref (n + 2)) (.str "top") (n + 5)), LO.ins cThread (n + 3), LO.lst [], LO.lst [], LO.dct [], LO.lst [], LO.lst []]) := by
  row_walk with ⟨newM_eq⟩
  simp [hn]
 have E2 : ev (nx O) [n] (.new cThread 27 [(.k (V.int 1)), (.lst []), (.k (V.int 0)), (.lst []), (.k (V.str ("top" : Str)))]) [some sg, some text, none, none, none] (h ++ [LO.cel (some (.ref (n + 4))), LO.lst [], LO.lst [], LO.dct (thrD (.int 0) (.ref (n + 1)) (.int 0) (.ref (n + 2)) (.str "top") (n + 5)), LO.ins cThread (n + 3), LO.lst [], LO.lst [], LO.dct []]) = .ok (.ref (n + 11)) (h ++ hA n (thrD (.int 0) (.ref (n + 1)) (.int 0) (.ref (n + 2)) (.str "top") (n + 5)) (thrD (.int 1) (.ref (n + 8)) (.int 0) (.ref (n + 9)) (.str "top") (n + 12)) []) := by
  rw [n_thr O x2]
  simp [hn, hA]
 refine g_asgA (Run.of E2 (Run.of (hA_c hn) (Run.of (hA_k hn _ _ (by kernel_rfl)) ?_)))
 refine g_asgA (Run.of rfl (Run.of ((ev_att.trans (congrArg (Res.bind · _) (hA_c hn))).trans (get_h hn _ 4 3 cThread _ _ (.ref (n + 11)) rfl rfl (by kernel_rfl))) (Run.of (hA_s hn _ _ (by kernel_rfl)) ?_)))
 refine g_asgA (Run.of (hA_d hn) (Run.of (hA_c hn) (Run.of (hA_k hn _ _ (by kernel_rfl)) ?_)))
 refine g_asgA (Run.of (hA_n hn) (Run.of (hA_c hn) (Run.of (hA_k hn _ _ (by kernel_rfl)) ?_)))
 refine g_asgA (Run.of (hA_n hn) (Run.of (hA_c hn) (Run.of (hA_k hn _ _ (by kernel_rfl)) ?_)))
 refine g_asgA (Run.of (hA_n hn) (Run.of (hA_c hn) (Run.of (hA_k hn _ _ (by kernel_rfl)) ?_)))
 have h0 : 0 < h.length := ilt e
 have ts : ∀ (g l : H) (x : LO), 0 < g.length → (g ++ l).set 0 x = g.set 0 x ++ l := fun g l x hg => List.set_append_left _ _ hg
 refine g_defn (ga_ e) (Nat.zero_le _) ?_
 rw [ts _ _ _ h0]
 refine g_defn (ga_ (gs0 e)) (Nat.le_max_right _ _) ?_
 rw [ts _ _ _ (by simpa using h0), List.set_set]
 refine g_defn (ga_ (gs0 e)) (Nat.le_max_right _ _) ?_
 rw [ts _ _ _ (by simpa using h0), List.set_set]
 have hm : Nat.max (Nat.max (Nat.max m (0 + 1)) (1 + 1)) (2 + 1) = Nat.max m 3 := by
  show max (max (max m 1) 2) 3 = max m 3
  rw [Nat.max_assoc, Nat.max_assoc]; rfl
 rw [hm]
 have hn2 : (h.set 0 (.tab (Nat.max m 3))).length = n := by simpa using hn
 generalize h.set 0 (.tab (Nat.max m 3)) = g at hn2
 refine g_asgA (Run.of rfl (Run.of (hA_c hn2) (Run.of (hA_k hn2 _ _ (by kernel_rfl)) ?_)))
 refine g_asgA (Run.of rfl (Run.of (hA_c hn2) (Run.of (hA_k hn2 _ _ (by kernel_rfl)) ?_)))
 refine g_asgA (Run.of rfl (Run.of (hA_c hn2) (Run.of (hA_k hn2 _ _ (by kernel_rfl)) ?_)))
 refine g_ret (Run.of (hA_c hn2) ?_)
 exact ⟨rfl, congrArg (g ++ ·) (by kernel_rfl)⟩
theorem nm1 {a b : Nat} (h : a ≠ b) : a ∉ [b] := fun q => h (List.mem_singleton.mp q)
theorem nm2 {a b c : Nat} (h : a ≠ b) (k : a ≠ c) : a ∉ [b, c] := fun q => (List.mem_cons.mp q).elim h (nm1 k)
theorem nm3 {a b c d : Nat} (h : a ≠ b) (k : a ≠ c) (l : a ≠ d) : a ∉ [b, c, d] := fun q => (List.mem_cons.mp q).elim h (nm2 k l)
theorem nm4 {a b c d e : Nat} (h : a ≠ b) (k : a ≠ c) (l : a ≠ d) (m : a ≠ e) : a ∉ [b, c, d, e] := fun q => (List.mem_cons.mp q).elim h (nm3 k l m)
theorem lt_at {a n : Nat} (h : a < n) (i : Nat) : a < n + i := Nat.lt_of_lt_of_le h (Nat.le_add_right n i)
theorem ne_at {a n : Nat} (h : a < n) (i : Nat) : a ≠ n + i := Nat.ne_of_lt (lt_at h i)
theorem ne_in {n i j : Nat} (h : i ≠ j) : n + i ≠ n + j := fun q => h (Nat.add_left_cancel q)
theorem lt18 {n i k : Nat} (hi : i < 18) (h : n + 18 ≤ k) : n + i < k := Nat.lt_of_lt_of_le (Nat.add_lt_add_left hi n) h
theorem five {n k : Nat} (h : n + 18 ≤ k) : n + 2 < k ∧ n + 15 < k ∧ n + 14 < k ∧ n + 17 < k ∧ n + 16 < k := ⟨lt18 (by decide) h, lt18 (by decide) h, lt18 (by decide) h, lt18 (by decide) h, lt18 (by decide) h⟩
theorem in3 {n : Nat} : ∀ i ∈ [n + 16, n + 17, n + 18], n ≤ i := fun i hi => by
 rcases List.mem_cons.mp hi with rfl | hi
 ·exact Nat.le_add_right _ _
 ·rcases List.mem_cons.mp hi with rfl | hi
  ·exact Nat.le_add_right _ _
  ·rw [List.mem_singleton.mp hi]; exact Nat.le_add_right _ _
theorem in3' {n : Nat} : ∀ i ∈ [n + 16, n + 17, n + 18], n ≤ i → i = n + 16 ∨ i = n + 17 ∨ i = n + 18 := fun i hi _ =>
 (List.mem_cons.mp hi).imp id fun hi => (List.mem_cons.mp hi).imp id List.mem_singleton.mp
theorem in2' {n : Nat} : ∀ i ∈ [n + 17, n + 18], n ≤ i → i = n + 16 ∨ i = n + 17 ∨ i = n + 18 := fun i hi => in3' i (.tail _ hi)
theorem out3 {a n : Nat} (h : a < n) : a ∉ [n + 16, n + 17, n + 18] := nm3 (ne_at h _) (ne_at h _) (ne_at h _)
theorem up3 {j n : Nat} (h : n + 18 < j) : j ∉ [n + 16, n + 17, n + 18] := nm3 (Nat.ne_of_gt (lt18 (by decide) (Nat.le_of_lt h))) (Nat.ne_of_gt (lt18 (by decide) (Nat.le_of_lt h))) (Nat.ne_of_gt h)
noncomputable def Same (M : List Nat) (h h' : H) : Prop := ∀ i x, i ∉ M → h[i]? = some x → h'[i]? = some x
theorem Same.refl (M : List Nat) (h : H) : Same M h h := fun _ _ _ e => e
theorem Same.trans {M : List Nat} {a b c : H} (x : Same M a b) (y : Same M b c) : Same M a c := fun i v hi e => y i v hi (x i v hi e)
theorem Same.app (M : List Nat) (h l : H) : Same M h (h ++ l) := fun _ _ _ e => ga_ e
theorem Same.set {M : List Nat} (h : H) {i : Nat} (hi : i ∈ M) (x : LO) : Same M h (h.set i x) := fun j v hj e => gs_ e fun q => hj (q ▸ hi)
theorem Same.mono {M N : List Nat} {a b : H} (x : Same M a b) (s : ∀ i ∈ M, i ∈ N) : Same N a b := fun i v hi e => x i v (fun q => hi (s i q)) e
structure Kern (h : H) (n : Nat) (sg text : V) : Prop where
 cel : h[n]? = some (.cel (some (.ref (n + 4))))
 k : h[n + 4]? = some (.ins cThread (n + 3))
 kd : h[n + 3]? = some (.dct (kerD n))
 s : h[n + 11]? = some (.ins cThread (n + 10))
 sd : h[n + 10]? = some (.dct (stoD n sg))
 f : h[n + 15]? = some (.dct [("f1", text)])
noncomputable def cnts (k : Nat) : List V := (List.range k).map fun (i : Nat) => V.int i
theorem cnts_succ (k : Nat) : cnts (k + 1) = cnts k ++ [.int k] := by simp [cnts, List.range_succ]
theorem cnts_len (k : Nat) : (cnts k).length = k := by simp [cnts]
structure Ker (h : H) (n : Nat) (sg text : V) (k : Nat) (told : List V) : Prop where
 kern : Kern h n sg text
 told : h[n + 16]? = some (.lst told)
 lent : h[n + 17]? = some (.lst (cnts k))
 back : h[n + 18]? = some (.lst (cnts k))
section
variable {h h' : H} {n : Nat} {sg text : V} {k : Nat} {told : List V}
theorem Kern.same (x : Kern h n sg text) {M : List Nat} (s : Same M h h') (hM : ∀ i ∈ M, n ≤ i → i = n + 16 ∨ i = n + 17 ∨ i = n + 18) : Kern h' n sg text := by
 have key : ∀ k y, k < 16 → h[n + k]? = some y → h'[n + k]? = some y := fun k y hk e => s _ y (fun q => by
  rcases hM _ q (Nat.le_add_right n k) with q | q | q <;> exact absurd (Nat.add_left_cancel q) (Nat.ne_of_lt (Nat.lt_of_lt_of_le hk (by decide)))) e
 exact ⟨key 0 _ (by decide) x.cel, key _ _ (by decide) x.k, key _ _ (by decide) x.kd, key _ _ (by decide) x.s, key _ _ (by decide) x.sd, key _ _ (by decide) x.f⟩
theorem Ker.app (x : Ker h n sg text k told) (l : H) : Ker (h ++ l) n sg text k told :=
 ⟨x.kern.same (Same.app [] h l) (fun i hi => by cases hi), ga_ x.told, ga_ x.lent, ga_ x.back⟩
theorem Kern.attr (x : Kern h n sg text) (nm : Str) (v : V) (e : (kerD n).lookup nm = some v) : attV (.ref (n + 4)) nm h = .ok v h := a_get x.k x.kd e
theorem Kern.a_store (x : Kern h n sg text) : attV (.ref (n + 4)) ("store" : Str) h = .ok (.ref (n + 11)) h := x.attr _ _ rfl
theorem Kern.a_files (x : Kern h n sg text) : attV (.ref (n + 4)) ("files" : Str) h = .ok (.ref (n + 15)) h := x.attr _ _ rfl
theorem Kern.a_told (x : Kern h n sg text) : attV (.ref (n + 4)) ("told" : Str) h = .ok (.ref (n + 16)) h := x.attr _ _ rfl
theorem Kern.a_lent (x : Kern h n sg text) : attV (.ref (n + 4)) ("lent" : Str) h = .ok (.ref (n + 17)) h := x.attr _ _ rfl
theorem Kern.a_back (x : Kern h n sg text) : attV (.ref (n + 4)) ("back" : Str) h = .ok (.ref (n + 18)) h := x.attr _ _ rfl
theorem Kern.a_context (x : Kern h n sg text) : attV (.ref (n + 4)) ("context" : Str) h = .ok (.clo 0 [n]) h := x.attr _ _ rfl
theorem Kern.a_close (x : Kern h n sg text) : attV (.ref (n + 4)) ("close_context" : Str) h = .ok (.clo 1 [n]) h := x.attr _ _ rfl
theorem Kern.a_set (x : Kern h n sg text) : attV (.ref (n + 4)) ("set_word" : Str) h = .ok (.clo 2 [n]) h := x.attr _ _ rfl
theorem Kern.a_signals (x : Kern h n sg text) : attV (.ref (n + 11)) ("signals" : Str) h = .ok sg h := a_get x.s x.sd rfl
theorem Kern.ce (x : Kern h n sg text) {O : Orc} {loc : Loc} : ev O [n] (.ce 0) loc h = .ok (.ref (n + 4)) h := by simp only [ev_ce, List.getElem?_cons_zero, x.cel]
end
theorem l_last {r : Nat} {xs : List V} {v : V} {h : H} (e : h[r]? = some (.lst (xs ++ [v]))) : subV (.ref r) (.int (-1)) h = .ok v h := by
 have e2 : seqIndex? (-1 : Int) (xs ++ [v]).length = some xs.length := by
  unfold seqIndex?
  simp
  kd_p
 refine (el_l e).trans ?_
 show pickS (xs ++ [v]) (-1) h = _
 unfold pickS
 rw [e2, Option.bind_some, List.getElem?_concat_length, Option.elim_some, okP_pos (by decide)]
theorem k_ctx (O : Orc) {h : H} {n : Nat} {sg text : V} {k : Nat} {told : List V} (x : Ker h n sg text k told) (hk : k ≤ 1000) (t : V) :
  (nx O).cl 0 [n] [t] h = .ok (.int k) (h.set (n + 17) (.lst (cnts (k + 1)))) := by
 rw [rk0]
 refine Run.eq (g_end ?_)
 unfold k0
 have y : Kern (h.set (n + 17) (.lst (cnts (k + 1)))) n sg text := x.kern.same (Same.set h (M := [n + 17]) (.head _) _) fun i hi _ => by
  rcases List.mem_cons.mp hi with q | q
  ·exact .inr (.inl q)
  ·cases q
 have hl := cnts_len k
 have e1 := m_append (v := .int k) x.lent (by kd_p)
 rw [← cnts_succ] at e1
 have e2 : (h.set (n + 17) (.lst (cnts (k + 1))))[n + 17]? = some (.lst (cnts k ++ [.int k])) := by rw [← cnts_succ]; exact gs0 x.lent
 wp_walk using x.kern.cel, x.kern.a_lent, on_append x.lent, l_len x.lent (by kd_p), hl, e1
 wp_walk using y.cel, y.a_lent, l_last e2
theorem k_back (O : Orc) {h : H} {n : Nat} {sg text : V} {b : List V} (x : Kern h n sg text) (e : h[n + 18]? = some (.lst b)) (hb : b.length ≤ 1000) (t : V) :
  (nx O).cl 1 [n] [t] h = .ok .none (h.set (n + 18) (.lst (b ++ [t]))) := by
 rw [rk1]
 refine Run.eq (g_end ?_)
 unfold k1
 wp_walk using x.cel, x.a_back, on_append e, m_append e (show b.length ≤ 100000 by kd_p)
 wp_walk
theorem k_told (O : Orc) {h : H} {n : Nat} {sg text : V} {b : List V} (x : Kern h n sg text) (e : h[n + 16]? = some (.lst b)) (hb : b.length ≤ 1000) (t u v : V) :
  (nx O).cl 2 [n] [t, u, v] h = .ok .none (h.set (n + 16) (.lst (b ++ [.tup [t, u, v]]))) := by
 rw [rk2]
 refine Run.eq (g_end ?_)
 unfold k2
 wp_walk using x.cel, x.a_told, on_append e, m_append e (show b.length ≤ 100000 by kd_p)
 wp_walk
theorem f3 (O : Orc) (w a b : Int) (c : V) (h : H) : (nx O).fn 3 [.tup [.str "const", .int w, .int a, .int b], c] h = .ok (.tup [.int w, .int a, .int b]) (h ++ [.cel (some c)]) := by
 rw [r3]
 refine Run.eq (g_end ?_)
 unfold b3
 have e : ((("const" : Str)) == ("const" : Str)) = true := beq_self_eq_true _
 wp_walk
 wp_walk using e
 wp_walk
noncomputable def toI (w : Nat) (a : Int) (s : Bool) : Int := if s && a.fdiv ((2 ^ (w - 1) : Nat) : Int) == 1 then a - ((2 ^ w : Nat) : Int) else a
theorem f2 (O : Orc) (w : Nat) (a : Int) (s : Bool) (h : H) (h1 : 1 ≤ w) (hw : w ≤ 1000) : (nx O).fn 2 [.tup [.int w, .int a, .int 0], .bool s] h = .ok (.int (toI w a s)) h := by
 rw [r2]
 refine Run.eq (g_end ?_)
 unfold b2
 have e1 : ((0 : Int) == 0) = true := rfl
 have e2 : (2 : Int) ^ ((w : Int) - 1).toNat = ((2 ^ (w - 1) : Nat) : Int) := by
  rw [show ((w : Int) - 1).toNat = w - 1 from Int.toNat_sub w 1]; simp
 have e3 : (2 : Int) ^ (w : Int).toNat = ((2 ^ w : Nat) : Int) := by simp
 have q1 := shl1 hw
 wp_walk
 wp_walk using e1
 cases s with
 | false =>
  wp_walk
  wp_walk
  simp [toI]
 | true =>
  cases q : (a.fdiv ((2 ^ (w - 1) : Nat) : Int) == 1) with
  | true =>
   wp_walk using e2, q
   wp_walk using e3
   simp only [toI, Bool.true_and, q, if_true]
   simp
  | false =>
   wp_walk using e2, q
   wp_walk
   simp only [toI, Bool.true_and, q, Bool.false_eq_true, if_false]
theorem f2n (O : Orc) (w : Nat) (a : Int) (s : Bool) (h : H) : (nx O).fn 2 [.tup [.int w, .int a, .int 1], .bool s] h = .ok .none h := by
 rw [r2]
 refine Run.eq (g_end ?_)
 unfold b2
 have e1 : ((1 : Int) == 0) = false := rfl
 wp_walk
 wp_walk using e1
 wp_walk
theorem toI_8 (i : Int) (h1 : -128 ≤ i) (h2 : i < 128) : toI 8 (i.fmod 256) true = i := by
 have key : ∀ n : Nat, n < 256 → toI 8 (((n : Int) - 128).fmod 256) true = (n : Int) - 128 := by decide +kernel
 obtain ⟨n, hn⟩ := Int.eq_ofNat_of_zero_le (show (0 : Int) ≤ i + 128 from Int.add_le_add_right h1 128)
 rw [show i = (n : Int) - 128 by rw [← hn, Int.add_sub_cancel]]
 have hl : (n : Int) < ((256 : Nat) : Int) := by rw [← hn]; exact Int.add_lt_add_right h2 128
 exact key n (Int.ofNat_lt.mp hl)
theorem m_join {r : Nat} {xs : List V} {ss : List Str} {h : H} (e : h[r]? = some (.lst xs)) (es : strsV xs = some ss) (hl : ss.length ≤ 1000) (hb : ∀ z ∈ ss, z.length ≤ 10) : bmV .join (.str ("" : Str)) [.ref r] h = .ok (.str (Txt.join ("" : Str) ss)) h := by
 show ((lst? h r).bind strsV).elim Res.bad (fun ss => okP (("" : Str).length = 0 ∧ ss.length ≤ 1000 ∧ ∀ z ∈ ss, z.length ≤ 10) (Res.ok (V.str (Txt.join ("" : Str) ss)) h)) = _
 rw [lst_eq e, Option.bind_some, es, Option.elim_some]
 exact okP_pos ⟨by decide +kernel, hl, hb⟩
theorem fl_chr (a : Int) (h : H) : bfV .chr [.int a] h = okP (0 ≤ a ∧ a < 256) (.ok (.str (S [a.toNat])) h) := rfl
theorem f12 (O : Orc) (h : H) : Run ((nx (nx O)).fn 12 [.tup [.int 16, .int 26161, .int 0]] h) (fun v h' => v = .str ("f1" : Str) ∧ ∃ g, h' = h ++ g) NoX := by
 rw [r12]
 refine g_end ?_
 unfold b12
 have e1 : Builtin.bitAnd 26161 (Builtin.bitXor 0 (((2 ^ 16 - 1 : Nat)) : Int)) = 26161 := by decide +kernel
 have f16 := f0 O 16
 wp_walk using f0 O 16, e1
 have f16' : ∀ h, (nx O).fn 0 [.int 16] h = .ok (.int ((2 ^ 16 - 1 : Nat) : Int)) h := fun h => f0 O 16 h (by decide)
 row_walk with ⟨f16', e1⟩
 wp_walk using newM_eq
 have hl0 : (h ++ [LO.lst []])[h.length]? = some (.lst []) := hget0 _ _
 refine g_whl (fun m loc h' => ∃ vs l, loc = [some (.tup [.int 16, .int 26161, .int 0]), some (.int l), some (.ref h.length)] ∧ h' = h ++ [LO.lst vs] ∧ ((m = 2 ∧ vs = [] ∧ l = 26161) ∨ (m = 1 ∧ vs = [V.str (S [49])] ∧ l = 102) ∨ (m = 0 ∧ vs = [V.str (S [49]), V.str (S [102])] ∧ l = 0)))
  (fun loc h' => loc = [some (.tup [.int 16, .int 26161, .int 0]), some (.int 0), some (.ref h.length)] ∧ h' = h ++ [LO.lst [V.str (S [49]), V.str (S [102])]]) 2 (by decide) ⟨[], 26161, rfl, rfl, .inl ⟨rfl, rfl, rfl⟩⟩ ?_ ?_
 ·rintro m loc h' ⟨vs, l, rfl, rfl, hm⟩
  have hl : (h ++ [LO.lst vs])[h.length]? = some (.lst vs) := hget0 _ _
  have hs : ∀ v : V, (h ++ [LO.lst vs]).set h.length (.lst (vs ++ [v])) = h ++ [LO.lst (vs ++ [v])] := fun v => hset0 _ _ _
  rcases hm with ⟨rfl, rfl, rfl⟩ | ⟨rfl, rfl, rfl⟩ | ⟨rfl, rfl, rfl⟩
  ·row_walk
   have q1 : Builtin.bitAnd 26161 255 = 49 := by decide +kernel
   have q2 : (26161 : Int).fdiv (2 ^ (8 : Int).toNat) = 102 := by decide +kernel
   have ma := m_append (v := .str (S [49])) hl (by simp)
   rw [hs] at ma
   wp_walk using on_append hl, q1, fl_chr
   rw [show (49 : Int).toNat = 49 from rfl, ma]
   refine Run.ok (g_shr ⟨_, rfl, Run.of rfl ?_⟩)
   row_walk with ⟨q2⟩
   wp_walk
   exact ⟨1, by decide, _, _, rfl, rfl, .inr (.inl ⟨rfl, rfl, rfl⟩)⟩
  ·row_walk
   have q1 : Builtin.bitAnd 102 255 = 102 := by decide +kernel
   have q2 : (102 : Int).fdiv (2 ^ (8 : Int).toNat) = 0 := by decide +kernel
   have ma := m_append (v := .str (S [102])) hl (by simp)
   rw [hs] at ma
   wp_walk using on_append hl, q1, fl_chr
   rw [show (102 : Int).toNat = 102 from rfl, ma]
   refine Run.ok (g_shr ⟨_, rfl, Run.of rfl ?_⟩)
   row_walk with ⟨q2⟩
   wp_walk
   exact ⟨0, by decide, _, _, rfl, rfl, .inr (.inr ⟨rfl, rfl, rfl⟩)⟩
  ·row_walk
 ·rintro loc h' ⟨rfl, rfl⟩
  have hl : (h ++ [LO.lst [V.str (S [49]), V.str (S [102])]])[h.length]? = some (.lst [V.str (S [49]), V.str (S [102])]) := hget0 _ _
  have hs : (h ++ [LO.lst [V.str (S [49]), V.str (S [102])]]).set h.length (.lst [V.str (S [49]), V.str (S [102])].reverse) = h ++ [LO.lst [V.str (S [102]), V.str (S [49])]] := hset0 _ _ _
  have mr := m_rev hl (by simp)
  rw [hs] at mr
  have hl2 : (h ++ [LO.lst [V.str (S [102]), V.str (S [49])]])[h.length]? = some (.lst [V.str (S [102]), V.str (S [49])]) := hget0 _ _
  have mj := m_join hl2 (ss := [S [102], S [49]]) rfl (by simp) (by intro z hz; simp at hz; rcases hz with rfl | rfl <;> simp [S_len])
  have ej : Txt.join ("" : Str) [S [102], S [49]] = ("f1" : Str) := by decide +kernel
  rw [ej] at mj
  wp_walk using on_rev hl, mr
  wp_walk using mj
  exact ⟨_, rfl⟩
inductive ArgV : V → V → Prop
 | s (t : Str) : ArgV (.tup [.str "s", .str t]) (.str t)
 | e (w a b : Int) (sg : Bool) : ArgV (.tup [.str "e", .tup [.str "const", .int w, .int a, .int b], .bool sg]) (.tup [.tup [.int w, .int a, .int b], .bool sg])
 | n : ArgV (.tup [.str "none"]) .none
inductive ArgVs : List V → List V → Prop
 | nil : ArgVs [] []
 | one {x v : V} : ArgV x v → ArgVs [x] [v]
theorem ns1 : ((("s" : Str)) == ("s" : Str)) = true := beq_self_eq_true _
theorem ns2 : ((("e" : Str)) == ("s" : Str)) = false := by decide +kernel
theorem ns3 : ((("e" : Str)) == ("e" : Str)) = true := beq_self_eq_true _
theorem ns4 : ((("none" : Str)) == ("s" : Str)) = false := by decide +kernel
theorem ns5 : ((("none" : Str)) == ("e" : Str)) = false := by decide +kernel
theorem ns6 : ((("s" : Str)) == ("none" : Str)) = false := by decide +kernel
theorem ns7 : ((("e" : Str)) == ("none" : Str)) = false := by decide +kernel
theorem ns8 : ((("none" : Str)) == ("none" : Str)) = true := beq_self_eq_true _
theorem ns9 : ((("s" : Str)) == ("e" : Str)) = false := by decide +kernel
theorem f13 (O : Orc) {h : H} {n : Nat} {sg text : V} {k : Nat} {told : List V} (x : Ker h n sg text k told) (hk : k ≤ 900) {a : Nat} {xs vs : List V} (ea : h[a]? = some (.lst xs)) (hv : ArgVs xs vs) (hna : a ≠ n + 17 ∧ a ≠ n + 18) (t : V) :
  Run ((nx (nx O)).fn 13 [.ref (n + 4), .ref a, t] h) (fun v h' => ∃ r, v = .ref r ∧ h'[r]? = some (.lst vs) ∧ Ker h' n sg text (k + 1) told ∧ Same [n + 17, n + 18] h h') NoX := by
 rw [r13]
 refine g_end ?_
 unfold b13
 wp_walk using x.kern.a_context, k_ctx O x (by kd_p)
 generalize hH : h.set (n + 17) (.lst (cnts (k + 1))) = h1
 have s1 : Same [n + 17, n + 18] h h1 := by rw [← hH]; exact Same.set h (.head _) _
 have ha1 : h1[a]? = some (.lst xs) := s1 a _ (nm2 hna.1 hna.2) ea
 have k1 : Kern h1 n sg text := x.kern.same s1 in2'
 have t1 : h1[n + 16]? = some (.lst told) := s1 _ _ (by simp) x.told
 have l1 : h1[n + 17]? = some (.lst (cnts (k + 1))) := by rw [← hH]; exact gs0 x.lent
 have b1 : h1[n + 18]? = some (.lst (cnts k)) := by rw [← hH]; exact gs_ x.back (by kd_p)
 have hlt : n + 18 < h1.length := (List.getElem?_eq_some_iff.mp b1).1
 wp_walk using newM_eq
 have hset : ∀ (ys : List V) (g : H) (v : V), (h1 ++ (.lst ys :: g)).set h1.length (.lst (ys ++ [v])) = h1 ++ (.lst (ys ++ [v]) :: g) := fun ys g v => hset0 _ _ _
 have hget : ∀ (ys : List V) (g : H), (h1 ++ (LO.lst ys :: g))[h1.length]? = some (.lst ys) := fun ys g => hget0 _ _
 have mapid : xs.map (fun v : V => v) = xs := List.map_id' xs
 refine g_forL (f := fun v : V => v) (l := xs) (a := a) rfl (by rw [mapid]; exact ga_ ha1)
  (fun done loc h' => ∃ ys q g, ArgVs done ys ∧ loc = [some (.ref (n + 4)), some (.ref a), some t, some (.int k), some (.ref h1.length), q] ∧ h' = h1 ++ (.lst ys :: g)) ⟨[], none, [], .nil, rfl, rfl⟩ ?_ ?_
 ·rintro done v rest e loc h' ⟨ys, q, g, hd, rfl, rfl⟩
  have hdn : done = [] ∧ rest = [] := by
   cases hv with
   | nil => cases done <;> cases e
   | one _ =>
    cases done with
    | nil => cases e; exact ⟨rfl, rfl⟩
    | cons d r => cases r <;> cases e
  obtain ⟨rfl, rfl⟩ := hdn
  cases hd
  have ex : xs = [v] := e
  subst ex
  rw [mapid]
  cases hv with
  | one hv1 =>
  cases hv1 with
  | s tt =>
   have ma := m_append (v := .str tt) (hget [] g) (by simp)
   rw [hset] at ma
   wp_walk using ns1
   wp_walk using on_append (hget _ _), ma
   wp_walk
   exact ⟨ga_ ha1, _, _, g, .one (.s tt), rfl, rfl⟩
  | e w aa b s =>
   have ma := m_append (v := .tup [.tup [.int w, .int aa, .int b], .bool s]) (hget [] (g ++ [.cel (some (.int k))])) (by simp)
   rw [hset] at ma
   have happ : h1 ++ (LO.lst [] :: g) ++ [LO.cel (some (V.int k))] = h1 ++ (LO.lst [] :: (g ++ [LO.cel (some (V.int k))])) := by simp
   wp_walk using ns2
   wp_walk using ns3
   wp_walk using on_append (hget _ _), f3, happ, ma
   wp_walk
   exact ⟨ga_ ha1, _, _, _, .one (.e w aa b s), rfl, rfl⟩
  | n =>
   have ma := m_append (v := .none) (hget [] g) (by simp)
   rw [hset] at ma
   wp_walk using ns4
   wp_walk using ns5
   wp_walk using on_append (hget _ _), ma
   wp_walk
   exact ⟨ga_ ha1, _, _, g, .one .n, rfl, rfl⟩
 ·rintro loc h' ⟨ys, q, g, hd, rfl, rfl⟩
  have hy : ys = vs := by
   cases hv with
   | nil => cases hd; rfl
   | one h1 =>
    cases hd with
    | one h2 => cases h1 <;> cases h2 <;> rfl
  subst hy
  have k2 : Kern (h1 ++ (.lst ys :: g)) n sg text := k1.same (Same.app [] _ _) fun i hi => by cases hi
  have cb := k_back O k2 (ga_ b1) (by rw [cnts_len]; kd_p) (.int k)
  rw [← cnts_succ] at cb
  wp_walk using k2.a_close, cb
  wp_walk
  have s2 : Same [n + 17, n + 18] (h1 ++ (.lst ys :: g)) ((h1 ++ (.lst ys :: g)).set (n + 18) (.lst (cnts (k + 1)))) := Same.set _ (.tail _ (.head _)) _
  refine ⟨h1.length, rfl, gs_ (hget _ _) (by kd_p), ⟨k2.same s2 in2', s2 _ _ (by simp) (ga_ t1), gs_ (ga_ l1) (ne_in (by decide)), gs0 (ga_ b1)⟩, (s1.trans (Same.app _ _ _)).trans s2⟩
theorem l_len0 {r : Nat} {h : H} (e : h[r]? = some (.lst [])) : bfV .len [.ref r] h = .ok (.int 0) h := l_len e (by simp)
theorem l_len1 {r : Nat} {v : V} {h : H} (e : h[r]? = some (.lst [v])) : bfV .len [.ref r] h = .ok (.int 1) h := l_len e (by simp)
theorem z00 : ((0 : Int) == 0) = true := rfl
theorem z10 : ((1 : Int) == 0) = false := rfl
theorem l_take1 {i : Nat} {xs : List V} {h : H} (e1 : h[i]? = some (.lst xs)) (hl : xs.length ≤ 100000) : slcV (.ref i) none (some (.int 1)) h = .ok (.ref h.length) (h ++ [.lst (xs.take 1)]) := l_take (k := 1) e1 hl
theorem l_s0 {r : Nat} {v : V} {xs : List V} {h : H} (e1 : h[r]? = some (.lst (v :: xs))) : subV (.ref r) (.int 0) h = .ok v h := l_sub (i := 0) e1 rfl (by decide)
theorem l_s1 {r : Nat} {u v : V} {xs : List V} {h : H} (e1 : h[r]? = some (.lst (u :: v :: xs))) : subV (.ref r) (.int 1) h = .ok v h := l_sub (i := 1) e1 rfl (by decide)
theorem isS_str (t : Str) (h : H) : bfV .isStr [.str t] h = .ok (.bool true) h := rfl
theorem isS_tup (t : List V) (h : H) : bfV .isStr [.tup t] h = .ok (.bool false) h := rfl
inductive NameV : V → Str → Prop
 | s (t : Str) : NameV (.tup [.str "s", .str t]) t
 | e (sg : Bool) : NameV (.tup [.str "e", .tup [.str "const", .int 16, .int 26161, .int 0], .bool sg]) "f1"
theorem f14 (O : Orc) {h : H} {n : Nat} {sg text : V} {k : Nat} {told : List V} (x : Ker h n sg text k told) (hk : k ≤ 900) {a : Nat} {arg : V} {xs : List V} {fname : Str} (ea : h[a]? = some (.lst (arg :: xs))) (hxl : xs.length ≤ 100) (hv : NameV arg fname) (nm t : V) :
  Run ((nx (nx (nx O))).fn 14 [.ref (n + 4), nm, .ref a, t] h) (fun v h' => v = .str fname ∧ Ker h' n sg text (k + 1) told ∧ Same [n + 17, n + 18] h h') NoX := by
 rw [r14]
 refine g_end ?_
 unfold b14
 have hn17 : n + 18 < h.length := (List.getElem?_eq_some_iff.mp x.back).1
 have ht := l_take1 ea (by simp; kd_p)
 have hl1 : (h ++ [LO.lst ((arg :: xs).take 1)])[h.length]? = some (.lst [arg]) := hget0 _ _
 wp_walk using ht
 cases hv with
 | s =>
  refine (f13 O (x.app _) hk hl1 (.one (.s fname)) (by kd_p) t).post fun v h' z => ?_
  obtain ⟨r, e1, e2, e3, e4⟩ := z
  subst e1
  wp_walk using l_len1 e2, z10, l_s0 e2
  wp_walk using l_s0 e2, isS_str
  wp_walk using l_s0 e2
  exact ⟨e3, (Same.app _ _ _).trans e4⟩
 | e sg =>
  refine (f13 O (x.app _) hk hl1 (.one (.e 16 26161 0 sg)) (by kd_p) t).post fun v h' z => ?_
  obtain ⟨r, e1, e2, e3, e4⟩ := z
  subst e1
  wp_walk using l_len1 e2, z10, l_s0 e2
  wp_walk using l_s0 e2, isS_tup
  wp_walk using l_s0 e2
  refine (f12 O h').post fun v h'' z => ?_
  obtain ⟨e5, g, e6⟩ := z
  subst e6
  exact ⟨e5, e3.app g, ((Same.app _ _ _).trans e4).trans (Same.app _ _ _)⟩
theorem f14_bad (O : Orc) {h : H} {n : Nat} {sg text : V} {k : Nat} {told : List V} (x : Ker h n sg text k told) (hk : k ≤ 900) {a : Nat} {xs : List V} (ea : h[a]? = some (.lst xs)) (hxl : xs.length ≤ 100) (hv : xs = [] ∨ ∃ r, xs = .tup [.str "none"] :: r) (nm : Str) (t : V) :
  Run ((nx (nx (nx O))).fn 14 [.ref (n + 4), .str nm, .ref a, t] h) (fun _ _ => False) (fun C kd h' => C = eDesign ∧ kd = "wrong_arguments" ∧ Ker h' n sg text (k + 1) told ∧ Same [n + 17, n + 18] h h') := by
 rw [r14]
 refine g_end ?_
 unfold b14
 have hn17 : n + 18 < h.length := (List.getElem?_eq_some_iff.mp x.back).1
 have ht := l_take1 ea (by kd_p)
 wp_walk using ht
 rcases hv with rfl | ⟨r, rfl⟩
 ·have hl1 : (h ++ [LO.lst (([] : List V).take 1)])[h.length]? = some (.lst []) := hget0 _ _
  refine (f13 O (x.app _) hk hl1 .nil (by kd_p) t).post fun v h' z => ?_
  obtain ⟨r, e1, e2, e3, e4⟩ := z
  subst e1
  wp_walk using l_len0 e2, z00
  wp_walk
  exact ⟨_, _, _, rfl, rfl, e3, (Same.app _ _ _).trans e4⟩
 ·have hl1 : (h ++ [LO.lst ((V.tup [.str "none"] :: r).take 1)])[h.length]? = some (.lst [.tup [.str "none"]]) := hget0 _ _
  refine (f13 O (x.app _) hk hl1 (.one .n) (by kd_p) t).post fun v h' z => ?_
  obtain ⟨r, e1, e2, e3, e4⟩ := z
  subst e1
  wp_walk using l_len1 e2, z10, l_s0 e2
  wp_walk
  exact ⟨_, _, _, rfl, rfl, e3, (Same.app _ _ _).trans e4⟩
theorem f15_usual (O : Orc) {h : H} {n a p : Nat} {xs : List V} (ea : h[a]? = some (.lst xs)) (hxl : xs.length ≤ 100) (hv : xs.length ≤ p ∨ xs[p]? = some (.tup [.str "none"])) (hp : p ≤ 100) (nm usual t : V) :
  (nx O).fn 15 [.ref (n + 4), nm, .ref a, .int p, usual, t] h = .ok usual h := by
 rw [r15]
 refine Run.eq (g_end ?_)
 unfold b15
 rcases hv with hv | hv
 ·have : decide ((xs.length : Int) ≤ (p : Int)) = true := dT (by kd_p)
  wp_walk using l_len ea (show xs.length ≤ 100000 by kd_p), this
  wp_walk
 ·have hlt : p < xs.length := (List.getElem?_eq_some_iff.mp hv).1
  have : decide ((xs.length : Int) ≤ (p : Int)) = false := dF (by kd_p)
  wp_walk using l_len ea (show xs.length ≤ 100000 by kd_p), this, l_sub ea hv (show p < 2 ^ 60 by kd_p), ns8
  wp_walk
theorem f15_e (O : Orc) {h : H} {n : Nat} {sg text : V} {k : Nat} {told : List V} (x : Ker h n sg text k told) (hk : k ≤ 900) {a p : Nat} {xs : List V} {w : Nat} {aa b : Int} {s : Bool} (ea : h[a]? = some (.lst xs)) (hxl : xs.length ≤ 100) (hv : xs[p]? = some (.tup [.str "e", .tup [.str "const", .int w, .int aa, .int b], .bool s])) (hp : p ≤ 100)
  (h1 : 1 ≤ w) (hw : w ≤ 1000) (hna : a ≠ n + 17 ∧ a ≠ n + 18) (hb : b = 0 ∨ b = 1) (nm : Str) (usual t : V) :
  Run ((nx (nx O)).fn 15 [.ref (n + 4), .str nm, .ref a, .int p, usual, t] h) (fun v h' => b = 0 ∧ v = .int (toI w aa s) ∧ Ker h' n sg text (k + 1) told ∧ Same [n + 17, n + 18] h h')
   (fun C kd h' => b = 1 ∧ C = eDesign ∧ kd = "wrong_arguments" ∧ Ker h' n sg text (k + 1) told ∧ Same [n + 17, n + 18] h h') := by
 rw [r15]
 refine g_end ?_
 unfold b15
 have hlt : p < xs.length := (List.getElem?_eq_some_iff.mp hv).1
 have hle : decide ((xs.length : Int) ≤ (p : Int)) = false := dF (by kd_p)
 have hsub := fun (hh : H) (e : hh[a]? = some (.lst xs)) => l_sub e hv (show p < 2 ^ 60 by kd_p)
 wp_walk using l_len ea (show xs.length ≤ 100000 by kd_p), hle, hsub h ea, ns7
 wp_walk
 wp_walk using hsub h ea, ns3
 wp_walk using x.kern.a_context, k_ctx O x (by kd_p)
 generalize hH : h.set (n + 17) (.lst (cnts (k + 1))) = h1
 have s1 : Same [n + 17, n + 18] h h1 := by rw [← hH]; exact Same.set h (.head _) _
 have ha1 : h1[a]? = some (.lst xs) := s1 a _ (nm2 hna.1 hna.2) ea
 have k1 : Kern h1 n sg text := x.kern.same s1 in2'
 have t1 : h1[n + 16]? = some (.lst told) := s1 _ _ (by simp) x.told
 have l1 : h1[n + 17]? = some (.lst (cnts (k + 1))) := by rw [← hH]; exact gs0 x.lent
 have b1 : h1[n + 18]? = some (.lst (cnts k)) := by rw [← hH]; exact gs_ x.back (by kd_p)
 have ha2 : (h1 ++ [LO.cel (some (V.int k))])[a]? = some (.lst xs) := ga_ ha1
 have k2 : Kern (h1 ++ [LO.cel (some (V.int k))]) n sg text := k1.same (Same.app [] _ _) fun i hi => by cases hi
 have cb := k_back O k2 (ga_ b1) (by rw [cnts_len]; kd_p) (.int k)
 rw [← cnts_succ] at cb
 have s2 : Same [n + 17, n + 18] (h1 ++ [LO.cel (some (V.int k))]) ((h1 ++ [LO.cel (some (V.int k))]).set (n + 18) (.lst (cnts (k + 1)))) := Same.set _ (.tail _ (.head _)) _
 have kf : Ker ((h1 ++ [LO.cel (some (V.int k))]).set (n + 18) (.lst (cnts (k + 1)))) n sg text (k + 1) told :=
  ⟨k2.same s2 in2', s2 _ _ (by simp) (ga_ t1), gs_ (ga_ l1) (ne_in (by decide)), gs0 (ga_ b1)⟩
 have sf := (s1.trans (Same.app _ _ [LO.cel (some (V.int k))])).trans s2
 rcases hb with rfl | rfl
 ·wp_walk using hsub _ ha1, hsub _ ha2, f3, f2
  wp_walk using k2.a_close, cb
  wp_walk
  wp_walk
  exact ⟨kf, sf⟩
 ·wp_walk using hsub _ ha1, hsub _ ha2, f3, f2n
  wp_walk using k2.a_close, cb
  wp_walk
  wp_walk
  exact ⟨_, _, _, rfl, rfl, kf, sf⟩
theorem f15_s (O : Orc) {h : H} {n a p : Nat} {xs : List V} {z : Str} (ea : h[a]? = some (.lst xs)) (hxl : xs.length ≤ 100) (hv : xs[p]? = some (.tup [.str "s", .str z])) (hp : p ≤ 100) (nm : Str) (usual t : V) :
  Run ((nx (nx O)).fn 15 [.ref (n + 4), .str nm, .ref a, .int p, usual, t] h) (fun v h' => False) (fun C kd h' => C = eDesign ∧ kd = "wrong_arguments" ∧ h' = h) := by
 rw [r15]
 refine g_end ?_
 unfold b15
 have hlt : p < xs.length := (List.getElem?_eq_some_iff.mp hv).1
 have hle : decide ((xs.length : Int) ≤ (p : Int)) = false := dF (by kd_p)
 have hsub := l_sub ea hv (show p < 2 ^ 60 by kd_p)
 wp_walk using l_len ea (show xs.length ≤ 100000 by kd_p), hle, hsub, ns6
 wp_walk
 wp_walk using hsub, ns9
 wp_walk
 wp_walk
 exact ⟨_, _, _, rfl, rfl⟩
theorem slice_S (l : List Nat) (i j : Nat) (hi : i ≤ j) (hj : j ≤ l.length) : Txt.slice (S l) (some (i : Int)) (some (j : Int)) = S ((l.drop i).take (j - i)) := by
 have e := StrLaws.sliceText_nat (S l) hi (by rw [S_len]; exact hj)
 rw [S_cps] at e
 exact e
theorem slice_S_end (l : List Nat) (i : Nat) (hi : i ≤ l.length) : Txt.slice (S l) (some (i : Int)) none = S (l.drop i) := by
 have e := StrLaws.sliceText_from (x := S l) (i := (i : Int)) ⟨Int.natCast_nonneg i, by rw [S_cps]; exact Int.ofNat_le.mpr hi⟩
 rw [S_cps] at e
 have e2 : (((l.length : Nat) : Int) - (i : Int)).toNat = l.length - i := Int.toNat_sub _ _
 rw [e2, Int.toNat_natCast] at e
 have e3 : (l.drop i).take (l.length - i) = l.drop i := List.take_of_length_le (by simp)
 rw [e3] at e
 exact e
theorem slcB_nat (i : Nat) : slcB (some (.int (i : Int))) = some (some (i : Int)) := by
 show (if 0 ≤ (i : Int) then some (some (i : Int)) else none) = _
 exact if_pos (Int.natCast_nonneg i)
theorem slc_S (l : List Nat) (i j : Nat) (hi : i ≤ j) (hj : j ≤ l.length) (hl : l.length ≤ 100000) (h : H) : slcV (.str (S l)) (some (.int (i : Int))) (some (.int (j : Int))) h = .ok (.str (S ((l.drop i).take (j - i)))) h := by
 unfold slcV
 rw [slcB_nat, slcB_nat]
 show okP ((S l).length ≤ 100000) (.ok (.str (Txt.slice (S l) (some (i : Int)) (some (j : Int)))) h) = _
 rw [slice_S l i j hi hj]
 exact okP_pos (by rw [S_len]; exact hl)
theorem slc_S1 (l : List Nat) (hi : 1 ≤ l.length) (hl : l.length ≤ 100000) (h : H) : slcV (.str (S l)) (some (.int 1)) none h = .ok (.str (S (l.drop 1))) h := by
 show okP ((S l).length ≤ 100000) (.ok (.str (Txt.slice (S l) (some ((1 : Nat) : Int)) none)) h) = _
 rw [slice_S_end l 1 hi]
 exact okP_pos (by rw [S_len]; exact hl)
noncomputable def plainC (c : Nat) : Bool := (48 ≤ c && c ≤ 57) || c == 97 || c == 102 || c == 120 || c == 122 || c == 63 || c == 64
theorem plain_lt {c : Nat} (hc : plainC c = true) : c < 123 := by
 unfold plainC at hc
 simp only [Bool.or_eq_true, Bool.and_eq_true, decide_eq_true_eq, beq_iff_eq] at hc
 rcases hc with (((((h | rfl) | rfl) | rfl) | rfl) | rfl) | rfl
 ·exact Nat.lt_of_le_of_lt h.2 (by decide)
 all_goals decide
theorem low1 (c : Nat) (hc : plainC c = true) : (c == 0x3A3) = false ∧ Unicode.lowerOf c = [c] :=
 (show ∀ c, c < 123 → plainC c = true → (c == 0x3A3) = false ∧ Unicode.lowerOf c = [c] by decide +kernel) c (plain_lt hc) hc
theorem lower_S (l : List Nat) (hl : ∀ c ∈ l, plainC c = true) : Txt.lower (S l) = S l := by
 unfold Txt.lower
 have e : placed (S l) (fun i _ => Unicode.lowerAt (S l).cps i) = (S l).cps := by
  unfold placed
  apply Array.toList_inj.mp
  rw [Array.toList_flatten]
  simp only [Array.toList_mapIdx]
  rw [S_cps]
  have : ∀ (m : List Nat) (f : Nat → Nat → Array Nat), (∀ i c, m[i]? = some c → f i c = #[c]) → ((m.mapIdx f).map Array.toList).flatten = m := by
   intro m
   induction m with
   | nil => intro f _; rfl
   | cons a m ih =>
    intro f hf
    rw [List.mapIdx_cons, List.map_cons, List.flatten_cons, hf 0 a rfl, ih (fun i => f (i + 1)) fun i c e => hf (i + 1) c (by simpa using e)]
    rfl
  exact this l _ fun i c e => by
   obtain ⟨h1, h2⟩ := low1 c (hl c (List.mem_of_getElem? e))
   have e2 : (S l).cps[i]? = some c := by simp [S, e]
   unfold Unicode.lowerAt
   rw [e2]
   simp only [h1, Bool.false_and, Bool.false_eq_true, if_false, h2]
 rw [e]
theorem no_sub (l : List Nat) (c : Nat) (hc : c ∉ l) (lim : Nat) : occurrences (S l) (S [c]) 0 (S l).length lim = [] := by
 refine occ_nil_of_no _ _ lim fun i hi => ?_
 cases q : subAt (S l) (S [c]) i with
 | false => rfl
 | true =>
  have := (StrLaws.subAt_one (S l) c i).mp ⟨hi, q⟩
  rw [S_cps] at this
  exact absurd (List.mem_of_getElem? this) hc
theorem lus : ("_" : Str) = S [95] := by decide +kernel
theorem m_repl (l : List Nat) (hc : 95 ∉ l) (z : Str) (h : H) : bmV .replace (.str (S l)) [.str ("_" : Str), .str z] h = .ok (.str (S l)) h := by
 show okP ((occurrences (S l) ("_" : Str) 0 (S l).length ((S l).length + 1)).isEmpty = true) (.ok (.str (S l)) h) = _
 rw [lus, no_sub l 95 hc]
 exact okP_pos rfl
theorem inS (s : Str) (sl : List Nat) (hs : s.cps.toList = sl) (c : Nat) (h : H) : inV h (.str (S [c])) (.str s) = some (decide (c ∈ sl)) := by
 show some (!(occurrences s ⟨#[c]⟩ 0 s.length 1).isEmpty) = _
 rw [StrLaws.found_one, hs]
theorem hexs : ("0123456789abcdefxz?" : Str).cps.toList = [48, 49, 50, 51, 52, 53, 54, 55, 56, 57, 97, 98, 99, 100, 101, 102, 120, 122, 63] := by decide +kernel
theorem bins : ("01xz?" : Str).cps.toList = [48, 49, 120, 122, 63] := by decide +kernel
noncomputable def allow (hex : Bool) : Str := if hex then "0123456789abcdefxz?" else "01xz?"
theorem allow_in {hex : Bool} {c : Nat} (hc : okD hex c) (h : H) : inV h (.str (S [c])) (.str (allow hex)) = some true := by
 obtain ⟨h1, h2⟩ := hc
 unfold sgn at h1
 cases hex
 ·have := h2 rfl
  show inV h (.str (S [c])) (.str ("01xz?" : Str)) = _
  rw [inS _ _ bins]
  rcases h1 with rfl | rfl | rfl | rfl | rfl | rfl | rfl | rfl <;> first | rfl | exact absurd rfl this.1 | exact absurd rfl this.2.1 | exact absurd rfl this.2.2
 ·show inV h (.str (S [c])) (.str ("0123456789abcdefxz?" : Str)) = _
  rw [inS _ _ hexs]
  rcases h1 with rfl | rfl | rfl | rfl | rfl | rfl | rfl | rfl <;> rfl
theorem f11 (O : Orc) (hex : Bool) (ds : List Nat) (h : H) (hd : ∀ c ∈ ds, okD hex c) (h1 : 1 ≤ ds.length) : (nx O).fn 11 [.str (bas hex), .str (S ds)] h = .ok (.bool true) h := by
 obtain ⟨c, r, rfl⟩ : ∃ c r, ds = c :: r := by
  cases ds with
  | nil => cases h1
  | cons c r => exact ⟨c, r, rfl⟩
 have hbd : (bas hex == ("d" : Str)) = false := (bas_ne hex).2
 rw [r11]
 refine Run.eq (g_end ?_)
 unfold b11
 wp_walk using S_e1
 wp_walk using hbd
 wp_walk
 have key : ∀ (q : Option V), Run (xss O [] 4096 [.forL 3 (.l 1) [.ite (.cmp .NotIn (.l 3) (.l 2)) [.ret (.k (V.bool false))] []], .ret (.k (V.bool true))] [some (.str (bas hex)), some (.str (S (c :: r))), some (.str (allow hex)), q] h) (End fun b h' => b = .bool true ∧ h' = h) NoX := fun q => by
  refine g_forS rfl (fun done loc h' => h' = h ∧ ∃ q, loc = [some (.str (bas hex)), some (.str (S (c :: r))), some (.str (allow hex)), q]) ⟨rfl, q, rfl⟩ ?_ ?_
  ·rintro done v rest e loc h' ⟨rfl, q, rfl⟩
   wp_walk using allow_in (hd v (by rw [e]; simp))
   wp_walk
   exact ⟨_, rfl⟩
  ·rintro loc h' ⟨rfl, q, rfl⟩
   wp_walk
 cases hex with
 | false =>
  have e1 : (bas false == ("b" : Str)) = true := by decide +kernel
  wp_walk using e1
  wp_walk
  exact key _
 | true =>
  have e1 : (bas true == ("b" : Str)) = false := by decide +kernel
  have e2 : (bas true == ("o" : Str)) = false := by decide +kernel
  have e3 : (bas true == ("h" : Str)) = true := by decide +kernel
  wp_walk using e1
  wp_walk using e2
  wp_walk using e3
  wp_walk
  exact key _
theorem find_dec (a : Nat) (ha : a ≤ 9) : Txt.find ("0123456789abcdef" : Str) (S [48 + a]) = (a : Nat) := by
 exact (by decide +kernel : ∀ a, a < 10 → Txt.find ("0123456789abcdef" : Str) (S [48 + a]) = (a : Nat)) a (Nat.lt_succ_of_le ha)
theorem f18 (O : Orc) (a : Nat) (ha : a ≤ 9) (at_ : Int) (h : H) : (nx O).fn 18 [.str (S [64, 48 + a]), .int at_] h = .ok (.int a) h := by
 rw [r18]
 refine Run.eq (g_end ?_)
 unfold b18
 have e1 := slc_S1 [64, 48 + a] (by simp) (by simp) h
 have e2 := m_repl [48 + a] (by simp; kd_p) "" h
 have hlen : (("0123456789abcdef" : Str).length ≤ 100000) := by decide +kernel
 have h0 : decide (((a : Nat) : Int) < 0) = false := dF (Int.not_lt.mpr (Int.natCast_nonneg a))
 have hne : (S [48 + a] == ("" : Str)) = false := S_e1 _ _
 wp_walk using e1
 rw [show ([64, 48 + a] : List Nat).drop 1 = [48 + a] from rfl]
 row_walk with ⟨e2⟩
 wp_walk using hne
 wp_walk
 refine g_forS rfl (fun done loc h' => h' = h ∧ (done = [] → ∃ u v, loc = [some (.str (S [64, 48 + a])), some (.int at_), some (.str (S [48 + a])), some (.int 0), u, v]) ∧ (done = [48 + a] → ∃ u v, loc = [some (.str (S [64, 48 + a])), some (.int at_), some (.str (S [48 + a])), some (.int a), u, v])) ⟨rfl, fun _ => ⟨_, _, rfl⟩, fun e => by cases e⟩ ?_ ?_
 ·rintro done v rest e loc h' ⟨rfl, hl, _⟩
  cases done with
  | nil =>
   cases e
   obtain ⟨u, v, rfl⟩ := hl rfl
   wp_walk using okP_pos hlen, find_dec a ha
   wp_walk using h0
   wp_walk
   wp_walk
   exact ⟨some (.str (S [48 + a])), some (.int a), by simp⟩
  | cons d r => cases r <;> cases e
 ·rintro loc h' ⟨rfl, _, hl⟩
  obtain ⟨u, v, rfl⟩ := hl rfl
  wp_walk
noncomputable def wsC (c : Nat) : Bool := c == 32 || c == 9 || c == 13 || c == 10 || c == 12 || c == 11
theorem wss : (" \t\x0d\n\x0c\x0b" : Str).cps.toList = [32, 9, 13, 10, 12, 11] := by decide +kernel
theorem ws_in (c : Nat) (h : H) : inV h (.str (S [c])) (.str (" \t\x0d\n\x0c\x0b" : Str)) = some (wsC c) := by
 rw [inS _ _ wss]
 congr 1
 unfold wsC
 rw [Bool.eq_iff_iff]
 simp [or_assoc]
theorem lss : ("//" : Str) = S [47, 47] := by decide +kernel
theorem lsa : ("/*" : Str) = S [47, 42] := by decide +kernel
theorem las : ("*/" : Str) = S [42, 47] := by decide +kernel
theorem lnl : ("\n" : Str) = S [10] := by decide +kernel
theorem slc_at (t : List Nat) (i : Nat) (hi : i + 2 ≤ t.length) (hl : t.length ≤ 100000) (h : H) : slcV (.str (S t)) (some (.int (i : Int))) (some (.int ((i : Int) + 2))) h = .ok (.str (S ((t.drop i).take 2))) h := by
 have := slc_S t i (i + 2) (Nat.le_add_right i 2) hi hl h
 rw [Nat.add_sub_cancel_left] at this
 exact this
theorem G1 (O : Orc) (t : List Nat) (i c : Nat) (h : H) (e : t[i]? = some c) (hw : wsC c = true) (hl : t.length ≤ 100000) : (nx O).fn 17 [.str (S t), .int i] h = .ok (.int (i + 1)) h := by
 have hi : i < t.length := (List.getElem?_eq_some_iff.mp e).1
 rw [r17]
 refine Run.eq (g_end ?_)
 unfold b17
 wp_walk using subS e (by kd_p), ws_in, hw
 wp_walk
theorem take2 {t : List Nat} {i c : Nat} (e : t[i]? = some c) (hi : i + 2 ≤ t.length) : ∃ d, (t.drop i).take 2 = [c, d] := by
 have h1 : i < t.length := Nat.lt_of_succ_lt hi
 have h2 : i + 1 < t.length := hi
 have hc : t[i] = c := by rw [List.getElem?_eq_getElem h1] at e; exact Option.some.inj e
 refine ⟨t[i + 1], ?_⟩
 rw [List.drop_eq_getElem_cons h1, List.drop_eq_getElem_cons h2, hc]
 rfl
theorem G2 (O : Orc) (t : List Nat) (i c : Nat) (h : H) (e : t[i]? = some c) (hw : wsC c = false) (hc : c ≠ 47) (hi2 : i + 2 ≤ t.length) (hl : t.length ≤ 100000) : (nx O).fn 17 [.str (S t), .int i] h = .ok (.int i) h := by
 have hi : i < t.length := (List.getElem?_eq_some_iff.mp e).1
 obtain ⟨d, hd⟩ := take2 e hi2
 have n1 : (S [c, d] == ("//" : Str)) = false := by rw [lss, S_eq]; simp [hc]
 have n2 : (S [c, d] == ("/*" : Str)) = false := by rw [lsa, S_eq]; simp [hc]
 rw [r17]
 refine Run.eq (g_end ?_)
 unfold b17
 wp_walk using subS e (by kd_p), ws_in, hw
 wp_walk using slc_at t i hi2 hl, hd
 wp_walk
 wp_walk using n1
 wp_walk using n2
 wp_walk
theorem G3 (O : Orc) (pre bs suf : List Nat) (h : H) (hb : 10 ∉ bs) (hl : (pre ++ (47 :: 47 :: bs) ++ 10 :: suf).length ≤ 4000) :
  (nx O).fn 17 [.str (S (pre ++ (47 :: 47 :: bs) ++ 10 :: suf)), .int pre.length] h = .ok (.int ((pre.length + (47 :: 47 :: bs).length : Nat) : Int)) h := by
 have hd : ((pre ++ (47 :: 47 :: bs) ++ 10 :: suf).drop pre.length).take 2 = [47, 47] := by rw [List.append_assoc, List.drop_append_length]; rfl
 have e : (pre ++ (47 :: 47 :: bs) ++ 10 :: suf)[pre.length]? = some 47 := at_mid (w := 47 :: 47 :: bs) (j := 0) (Nat.succ_pos _)
 have e2 : (pre ++ (47 :: 47 :: bs) ++ 10 :: suf)[pre.length + 1]? = some 47 := at_mid (w := 47 :: 47 :: bs) (j := 1) (Nat.succ_lt_succ (Nat.succ_pos _))
 have hend : (pre ++ (47 :: 47 :: bs) ++ 10 :: suf)[pre.length + (47 :: 47 :: bs).length]? = some 10 := at_end
 have hw : ∀ c ∈ 47 :: 47 :: bs, c ≠ 10 := fun c hc q => by
  rcases List.mem_cons.mp (q ▸ hc) with q | q
  ·cases q
  ·rcases List.mem_cons.mp q with q | q
   ·cases q
   ·exact hb q
 have hin := fun j (hj : j < (47 :: 47 :: bs).length) => at_mid (pre := pre) (suf := 10 :: suf) hj
 generalize 47 :: 47 :: bs = w at *
 generalize pre ++ w ++ 10 :: suf = t at *
 have n1 : (S [47, 47] == ("//" : Str)) = true := by decide +kernel
 rw [r17]
 refine Run.eq (g_end ?_)
 unfold b17
 wp_walk using subS e (lt60 (ilt e) hl), ws_in, show wsC 47 = false from rfl
 wp_walk using slc_at t pre.length (ilt e2) (le5 hl), hd
 wp_walk
 wp_walk using n1
 refine g_whl (fun m loc h' => h' = h ∧ ∃ j, j + m = w.length ∧ loc = [some (.str (S t)), some (.int pre.length), some (.str (S [47, 47])), some (.int ((pre.length + j : Nat) : Int))])
  (fun loc h' => h' = h ∧ loc = [some (.str (S t)), some (.int pre.length), some (.str (S [47, 47])), some (.int ((pre.length + w.length : Nat) : Int))]) w.length (Nat.lt_of_le_of_lt (Nat.le_add_left _ _) (Nat.lt_of_lt_of_le (ilt hend) (Nat.le_trans hl (by decide)))) ⟨rfl, 0, Nat.zero_add _, rfl⟩ ?_ ?_
 ·rintro m loc h' ⟨rfl, j, hj, rfl⟩
  cases m with
  | zero =>
   obtain rfl : j = w.length := hj
   have q2 : (S [10] == ("\n" : Str)) = true := by decide +kernel
   row_walk with ⟨S_len, dTe hend, subS hend (lt60 (ilt hend) hl), q2⟩
  | succ m =>
   have hc := hin j (cd2 hj)
   have q2 : (S [w[j]] == ("\n" : Str)) = false := by rw [lnl, S_eq1]; exact dF (hw _ (List.getElem_mem _))
   row_walk with ⟨S_len, dTe hc, subS hc (lt60 (ilt hc) hl), q2⟩
   wp_walk
   wp_walk
   exact ⟨m, Nat.lt_succ_self m, j + 1, cd1 hj, rfl⟩
 ·rintro loc h' ⟨rfl, rfl⟩
  wp_walk
theorem G4 (O : Orc) (pre suf : List Nat) (h : H) (hl : (pre ++ [47, 42, 32, 97, 32, 42, 47] ++ suf).length ≤ 4000) :
  (nx O).fn 17 [.str (S (pre ++ [47, 42, 32, 97, 32, 42, 47] ++ suf)), .int pre.length] h = .ok (.int ((pre.length + 7 : Nat) : Int)) h := by
 have e : (pre ++ [47, 42, 32, 97, 32, 42, 47] ++ suf)[pre.length]? = some 47 := at_mid (j := 0) (by decide)
 have e6 : pre.length + 6 < (pre ++ [47, 42, 32, 97, 32, 42, 47] ++ suf).length := ilt (at_mid (j := 6) (by decide))
 have hdj : ∀ j, ((pre ++ [47, 42, 32, 97, 32, 42, 47] ++ suf).drop (pre.length + j)).take 2 = (([47, 42, 32, 97, 32, 42, 47] ++ suf).drop j).take 2 := fun j => by
  rw [List.append_assoc, List.drop_length_add_append]
 generalize pre ++ [47, 42, 32, 97, 32, 42, 47] ++ suf = t at *
 have n1 : (S [47, 42] == ("//" : Str)) = false := by decide +kernel
 have n2 : (S [47, 42] == ("/*" : Str)) = true := by decide +kernel
 have hsl : ∀ j, j ≤ 5 → ∀ h', slcV (.str (S t)) (some (.int ((pre.length + j : Nat) : Int))) (some (.int (((pre.length + j : Nat) : Int) + 2))) h' = .ok (.str (S ((([47, 42, 32, 97, 32, 42, 47] ++ suf).drop j).take 2))) h' := fun j hj h' => by
  rw [slc_at t (pre.length + j) (Nat.le_trans (Nat.add_le_add_left (Nat.add_le_add_right hj 2) _) e6) (le5 hl), hdj]
 rw [r17]
 refine Run.eq (g_end ?_)
 unfold b17
 wp_walk using subS e (lt60 (ilt e) hl), ws_in, show wsC 47 = false from rfl
 wp_walk using (show slcV (.str (S t)) (some (.int (pre.length : Int))) (some (.int ((pre.length : Int) + 2))) h = .ok (.str (S [47, 42])) h from hsl 0 (by decide) h)
 wp_walk
 wp_walk using n1
 wp_walk using n2
 wp_walk
 refine g_whl (fun m loc h' => h' = h ∧ ∃ j, j + m = 5 ∧ 2 ≤ j ∧ loc = [some (.str (S t)), some (.int pre.length), some (.str (S [47, 42])), some (.int ((pre.length + j : Nat) : Int))])
  (fun loc h' => h' = h ∧ loc = [some (.str (S t)), some (.int pre.length), some (.str (S [47, 42])), some (.int ((pre.length + 5 : Nat) : Int))]) 3 (by decide) ⟨rfl, 2, rfl, by decide, rfl⟩ ?_ ?_
 ·rintro m loc h' ⟨rfl, j, hj, hj2, rfl⟩
  have step : ∀ j m, 2 ≤ j → j + (m + 1) = 5 → Run (xss O [] 4096 [.ite (.cmp .GtE (.l 3) (.bf .len [(.l 0)])) [.rai eFormat [(.k (V.str ("unfinished_remark" : Str))), (.l 1)]] [], .asg 3 (.bin .Add (.l 3) (.k (V.int 1)))] [some (.str (S t)), some (.int pre.length), some (.str (S [47, 42])), some (.int ((pre.length + j : Nat) : Int))] h')
    (Nx fun loc' h'' => ∃ m', m' < m + 1 ∧ h'' = h' ∧ ∃ j, j + m' = 5 ∧ 2 ≤ j ∧ loc' = [some (.str (S t)), some (.int pre.length), some (.str (S [47, 42])), some (.int ((pre.length + j : Nat) : Int))]) NoX := fun j m hj2 hjm => by
   have q1 : decide ((t.length : Int) ≤ ((pre.length + j : Nat) : Int)) = false := dF (Int.not_le.mpr (Int.ofNat_lt.mpr (Nat.lt_trans (Nat.add_lt_add_left (Nat.lt_succ_of_lt (cd2 hjm)) _) e6)))
   wp_walk using S_len, q1
   wp_walk
   wp_walk
   exact ⟨m, Nat.lt_succ_self m, j + 1, cd1 hjm, Nat.le_succ_of_le hj2, rfl⟩
  match j, hj2, hj with
  | 2, h2, hj =>
   have q : (S [32, 97] == ("*/" : Str)) = false := by decide +kernel
   have hs : ∀ h', slcV (.str (S t)) (some (.int ((pre.length + 2 : Nat) : Int))) (some (.int (((pre.length + 2 : Nat) : Int) + 2))) h' = .ok (.str (S [32, 97])) h' := hsl 2 (by decide)
   obtain rfl : m = 3 := Nat.add_left_cancel (n := 2) hj
   row_walk with ⟨hs, q⟩
   exact step 2 2 h2 rfl
  | 3, h2, hj =>
   have q : (S [97, 32] == ("*/" : Str)) = false := by decide +kernel
   have hs : ∀ h', slcV (.str (S t)) (some (.int ((pre.length + 3 : Nat) : Int))) (some (.int (((pre.length + 3 : Nat) : Int) + 2))) h' = .ok (.str (S [97, 32])) h' := hsl 3 (by decide)
   obtain rfl : m = 2 := Nat.add_left_cancel (n := 3) hj
   row_walk with ⟨hs, q⟩
   exact step 3 1 h2 rfl
  | 4, h2, hj =>
   have q : (S [32, 42] == ("*/" : Str)) = false := by decide +kernel
   have hs : ∀ h', slcV (.str (S t)) (some (.int ((pre.length + 4 : Nat) : Int))) (some (.int (((pre.length + 4 : Nat) : Int) + 2))) h' = .ok (.str (S [32, 42])) h' := hsl 4 (by decide)
   obtain rfl : m = 1 := Nat.add_left_cancel (n := 4) hj
   row_walk with ⟨hs, q⟩
   exact step 4 0 h2 rfl
  | 5, h2, hj =>
   have q : (S [42, 47] == ("*/" : Str)) = true := by decide +kernel
   have hs : ∀ h', slcV (.str (S t)) (some (.int ((pre.length + 5 : Nat) : Int))) (some (.int (((pre.length + 5 : Nat) : Int) + 2))) h' = .ok (.str (S [42, 47])) h' := hsl 5 (by decide)
   row_walk with ⟨hs, q⟩
  | j + 6, _, hj => exact absurd (Nat.le.intro hj) (Nat.not_le.mpr (Nat.lt_of_lt_of_le (by decide : 5 < 6) (Nat.le_add_left 6 j)))
 ·rintro loc h' ⟨rfl, rfl⟩
  wp_walk
  wp_walk
  exact rfl
inductive Pc where
 | ws (c : Nat)
 | lc (bs : List Nat)
 | bc
 | ad (a : Nat)
 | dg (ds : List Nat)
noncomputable def Pc.ch : Pc → List Nat
 | .ws c => [c]
 | .lc bs => 47 :: 47 :: bs
 | .bc => [47, 42, 32, 97, 32, 42, 47]
 | .ad a => [64, 48 + a]
 | .dg ds => ds
noncomputable def flat (ps : List Pc) : List Nat := ps.flatMap Pc.ch
theorem flat_app (a b : List Pc) : flat (a ++ b) = flat a ++ flat b := by simp [flat]
theorem flat_cons (p : Pc) (b : List Pc) : flat (p :: b) = p.ch ++ flat b := by simp [flat]
noncomputable def OkPs (hex : Bool) : List Pc → Prop
 | [] => True
 | .ws c :: r => wsC c = true ∧ OkPs hex r
 | .lc bs :: r => 10 ∉ bs ∧ (∃ r', r = .ws 10 :: r') ∧ OkPs hex r
 | .bc :: r => OkPs hex r
 | .ad a :: r => a ≤ 9 ∧ (∃ c r', r = .ws c :: r') ∧ OkPs hex r
 | .dg ds :: r => (∀ c ∈ ds, okD hex c) ∧ 1 ≤ ds.length ∧ (∃ c r', r = .ws c :: r') ∧ OkPs hex r
noncomputable abbrev Row := Option Nat × List Nat
noncomputable def stp (s : List Row × Option Nat) : Pc → List Row × Option Nat
 | .ad a => (s.1, some a)
 | .dg ds => (s.1 ++ [(s.2, ds)], none)
 | _ => s
noncomputable def rd (ps : List Pc) : List Row × Option Nat := ps.foldl stp ([], none)
theorem rd_snoc (ps : List Pc) (p : Pc) : rd (ps ++ [p]) = stp (rd ps) p := by simp [rd]
noncomputable def optV : Option Nat → V
 | none => .none
 | some a => .int a
noncomputable def rowV (r : Row) : V := .tup [optV r.1, .str (S r.2)]
noncomputable def wdC (c : Nat) : Prop := wsC c = false ∧ c ≠ 47 ∧ plainC c = true ∧ c ≠ 95
theorem okD_wd {hex : Bool} {c : Nat} (h : okD hex c) : wdC c := by
 obtain ⟨h1, _⟩ := h
 unfold sgn at h1
 rcases h1 with rfl | rfl | rfl | rfl | rfl | rfl | rfl | rfl <;> exact ⟨rfl, by decide, rfl, by decide⟩
theorem ad_wd (a : Nat) (ha : a ≤ 9) : ∀ c ∈ ([64, 48 + a] : List Nat), wdC c := by
 have key : ∀ a, a < 10 → wsC (48 + a) = false ∧ 48 + a ≠ 47 ∧ plainC (48 + a) = true ∧ 48 + a ≠ 95 := by decide +kernel
 intro c hc
 rcases List.mem_cons.mp hc with rfl | hc
 ·exact ⟨rfl, by decide, rfl, by decide⟩
 ·exact List.mem_singleton.mp hc ▸ key a (Nat.lt_succ_of_le ha)
theorem word19 (O : Orc) (pre w suf : List Nat) (c : Nat) (hw : ∀ d ∈ w, wdC d) (hc : wsC c = true) (hl : (pre ++ w ++ c :: suf).length ≤ 4000) (x1 x2 x3 x4 x7 x8 : Option V) (h : H) (r : List St) (Q : Fl × Loc → H → Prop) (X : Nat → Str → H → Prop)
  (y : Run (xss (nx O) [] 4096 r [some (.str (S (pre ++ w ++ c :: suf))), x1, x2, x3, x4, some (.int pre.length), some (.int ((pre.length + w.length : Nat) : Int)), x7, x8] h) Q X) :
  Run (xss (nx O) [] 4096 (.whl (.bop .And [(.cmp .Lt (.l 6) (.bf .len [(.l 0)])), (.cmp .Eq (.call 17 [(.l 0), (.l 6)]) (.l 6))]) [.asg 6 (.bin .Add (.l 6) (.k (V.int 1)))] :: r)
   [some (.str (S (pre ++ w ++ c :: suf))), x1, x2, x3, x4, some (.int pre.length), some (.int pre.length), x7, x8] h) Q X := by
 have hat := fun j (hj : j < w.length) => at_mid (pre := pre) (suf := c :: suf) hj
 have hend : (pre ++ w ++ c :: suf)[pre.length + w.length]? = some c := at_end
 generalize pre ++ w ++ c :: suf = t at *
 refine g_whl (fun m loc h' => h' = h ∧ ∃ j, j + m = w.length ∧ loc = [some (.str (S t)), x1, x2, x3, x4, some (.int pre.length), some (.int ((pre.length + j : Nat) : Int)), x7, x8])
  (fun loc h' => h' = h ∧ loc = [some (.str (S t)), x1, x2, x3, x4, some (.int pre.length), some (.int ((pre.length + w.length : Nat) : Int)), x7, x8]) w.length (Nat.lt_of_le_of_lt (Nat.le_add_left _ _) (Nat.lt_of_lt_of_le (ilt hend) (Nat.le_trans hl (by decide)))) ⟨rfl, 0, Nat.zero_add _, rfl⟩ ?_ ?_
 ·rintro m loc h' ⟨rfl, j, hj, rfl⟩
  cases m with
  | zero =>
   obtain rfl : j = w.length := hj
   have q2 : ((((pre.length + w.length : Nat) : Int) + 1) == ((pre.length + w.length : Nat) : Int)) = false := beq_eq_false_iff_ne.mpr (Int.ne_of_gt (Int.lt_succ _))
   row_walk with ⟨S_len, dTe hend, G1 O t _ c h' hend hc (le5 hl), q2⟩
  | succ m =>
   have hjl := cd2 hj
   obtain ⟨n1, n2, _, _⟩ := hw w[j] (List.getElem_mem hjl)
   have hd := hat j hjl
   have q2 : (((pre.length + j : Nat) : Int) == ((pre.length + j : Nat) : Int)) = true := beq_self_eq_true _
   row_walk with ⟨S_len, dTe hd, G2 O t _ _ h' hd n1 n2 (Nat.lt_of_le_of_lt (Nat.add_le_add_left hjl _) (ilt hend)) (le5 hl), q2⟩
   wp_walk
   wp_walk
   exact ⟨m, Nat.lt_succ_self m, j + 1, cd1 hj, rfl⟩
 ·rintro loc h' ⟨rfl, rfl⟩
  exact y
theorem lat : ("@" : Str) = S [64] := by decide +kernel
theorem ch_pos {hex : Bool} {p : Pc} {r : List Pc} (ok : OkPs hex (p :: r)) : 1 ≤ p.ch.length := by
 cases p with
 | dg ds => exact ok.2.1
 | _ => exact Nat.succ_pos _
noncomputable def rowsV (ps : List Pc) : List V := (rd ps).1.map rowV
theorem rd_len : ∀ ps : List Pc, (rd ps).1.length ≤ ps.length := by
 intro ps
 induction ps using snoc_ind with
 | h0 => simp [rd]
 | h1 l p ih => rw [rd_snoc]; cases p <;> simp [stp] <;> kd_p
theorem turn_gap (O : Orc) (t : List Nat) (i k : Nat) (hk : 1 ≤ k) (x1 x2 x3 x4 x6 x7 x8 : Option V) (h : H) (hg : (nx O).fn 17 [.str (S t), .int i] h = .ok (.int ((i + k : Nat) : Int)) h) (b : List St) (Q : Fl × Loc → H → Prop) (X : Nat → Str → H → Prop)
  (y : Q (.next, [some (.str (S t)), x1, x2, x3, x4, some (.int ((i + k : Nat) : Int)), some (.int ((i + k : Nat) : Int)), x7, x8]) h) :
  Run (xss (nx O) [] 4096 [.asg 6 (.call 17 [(.l 0), (.l 5)]), .ite (.cmp .Eq (.l 6) (.l 5)) b [], .asg 5 (.l 6)] [some (.str (S t)), x1, x2, x3, x4, some (.int i), x6, x7, x8] h) Q X := by
 have q : (((i + k : Nat) : Int) == (i : Int)) = false := by rw [beq_eq_false_iff_ne]; kd_p
 wp_walk using hg
 wp_walk using q
 wp_walk
 refine g_nil ?_
 exact y
theorem turn_word (O : Orc) (pre w suf : List Nat) (c : Nat) (hw : ∀ d ∈ w, wdC d) (h1 : 1 ≤ w.length) (hc : wsC c = true) (hl : (pre ++ w ++ c :: suf).length ≤ 4000) (x1 x2 x3 x4 x6 x7 x8 : Option V) (h : H) (b : List St) (Q : Fl × Loc → H → Prop) (X : Nat → Str → H → Prop)
  (y : Run (xss (nx O) [] 4096 (b ++ [.asg 5 (.l 6)]) [some (.str (S (pre ++ w ++ c :: suf))), x1, x2, x3, x4, some (.int pre.length), some (.int ((pre.length + w.length : Nat) : Int)), some (.str (S w)), x8] h) Q X) :
  Run (xss (nx O) [] 4096 [.asg 6 (.call 17 [(.l 0), (.l 5)]), .ite (.cmp .Eq (.l 6) (.l 5)) (.whl (.bop .And [(.cmp .Lt (.l 6) (.bf .len [(.l 0)])), (.cmp .Eq (.call 17 [(.l 0), (.l 6)]) (.l 6))]) [.asg 6 (.bin .Add (.l 6) (.k (V.int 1)))] ::
   .asg 7 (.bm .lower (.slc (.l 0) (some (.l 5)) (some (.l 6))) []) :: b) [], .asg 5 (.l 6)] [some (.str (S (pre ++ w ++ c :: suf))), x1, x2, x3, x4, some (.int pre.length), x6, x7, x8] h) Q X := by
 obtain ⟨d, w', rfl⟩ : ∃ d w', w = d :: w' := by
  cases w with
  | nil => cases h1
  | cons d w' => exact ⟨d, w', rfl⟩
 have hd : (pre ++ (d :: w') ++ c :: suf)[pre.length]? = some d := by simp
 obtain ⟨n1, n2, _, _⟩ := hw d (.head _)
 have hlen : (pre ++ (d :: w') ++ c :: suf).length = pre.length + (d :: w').length + (1 + suf.length) := by simp; kd_p
 have hg := G2 O (pre ++ (d :: w') ++ c :: suf) pre.length d h hd n1 n2 (by simp at hlen ⊢; kd_p) (by kd_p)
 have q : (((pre.length : Nat) : Int) == ((pre.length : Nat) : Int)) = true := beq_self_eq_true _
 have hs := slc_S (pre ++ (d :: w') ++ c :: suf) pre.length (pre.length + (d :: w').length) (by kd_p) (by kd_p) (by kd_p) h
 have hx : (((pre ++ (d :: w') ++ c :: suf).drop pre.length).take (pre.length + (d :: w').length - pre.length)) = d :: w' := by
  rw [List.append_assoc, List.drop_left, Nat.add_sub_cancel_left, List.take_left']
  rfl
 rw [hx] at hs
 have hlow := lower_S (d :: w') fun e he => (hw e he).2.2.1
 have hwl : (d :: w').length ≤ 4000 := by kd_p
 refine g_asg ?_
 rw [show ev (nx O) [] (.call 17 [(.l 0), (.l 5)]) [some (.str (S (pre ++ (d :: w') ++ c :: suf))), x1, x2, x3, x4, some (.int pre.length), x6, x7, x8] h = .ok (.int pre.length) h from hg]
 refine Run.ok ?_
 refine g_ite ?_
 rw [show tr (nx O) [] (.cmp .Eq (.l 6) (.l 5)) (List.set [some (.str (S (pre ++ (d :: w') ++ c :: suf))), x1, x2, x3, x4, some (.int pre.length), x6, x7, x8] 6 (some (.int pre.length))) h = .ok true h from by
  show Res.ok (((pre.length : Nat) : Int) == ((pre.length : Nat) : Int)) h = _
  rw [q]]
 refine Run.ok ⟨fun _ => ?_, fun q => by cases q⟩
 refine word19 O pre (d :: w') suf c hw hc hl x1 x2 x3 x4 x7 x8 h _ Q X ?_
 refine g_asg ?_
 rw [show ev (nx O) [] (.bm .lower (.slc (.l 0) (some (.l 5)) (some (.l 6))) []) [some (.str (S (pre ++ (d :: w') ++ c :: suf))), x1, x2, x3, x4, some (.int pre.length), some (.int ((pre.length + (d :: w').length : Nat) : Int)), x7, x8] h = .ok (.str (S (d :: w'))) h from by
  have e1 : ev (nx O) [] (.slc (.l 0) (some (.l 5)) (some (.l 6))) [some (.str (S (pre ++ (d :: w') ++ c :: suf))), x1, x2, x3, x4, some (.int pre.length), some (.int ((pre.length + (d :: w').length : Nat) : Int)), x7, x8] h = .ok (.str (S (d :: w'))) h := hs
  rw [ev_bm, e1]
  show okP ((S (d :: w')).length ≤ 100000) (.ok (.str (Txt.lower (S (d :: w')))) h) = _
  rw [hlow]
  exact okP_pos (by rw [S_len]; kd_p)]
 exact Run.ok y
inductive F19I (hex : Bool) (ps : List Pc) (h : H) (m : Nat) (loc : Loc) (h' : H) : Prop
 | mk (done rest : List Pc) (x6 x7 x8 : Option V) (e : ps = done ++ rest) (hm : rest.length = m) (ok : OkPs hex rest) (eh : h' = h ++ [.lst (rowsV done)]) (el : loc = [some (.str (S (flat ps))), some (.bool hex), some (.str (bas hex)), some (.ref h.length), some (optV (rd done).2), some (.int (flat done).length), x6, x7, x8])
theorem sgn64 {d : Nat} (h : sgn d) : d ≠ 64 := by rcases h with rfl | rfl | rfl | rfl | rfl | rfl | rfl | rfl <;> decide
theorem f19_step {hex : Bool} {h : H} (done r : List Pc) (p : Pc) (x6 x7 x8 : Option V) (okr' : OkPs hex r) : ∃ m', m' < (p :: r).length ∧ F19I hex (done ++ p :: r) h m' [some (.str (S (flat (done ++ p :: r)))), some (.bool hex), some (.str (bas hex)), some (.ref h.length), some (optV (rd (done ++ [p])).2), some (.int ((flat done).length + p.ch.length : Nat)), x6, x7, x8] (h ++ [LO.lst (rowsV (done ++ [p]))]) :=
 ⟨r.length, Nat.lt_succ_self _, done ++ [p], r, x6, x7, x8, by simp, rfl, okr', rfl, by rw [flat_app]; simp [flat]⟩
theorem f19 (O : Orc) (hex : Bool) (ps : List Pc) (h : H) (ok : OkPs hex ps) (hl : (flat ps).length ≤ 4000) (hp : ps.length ≤ 1000) :
  (nx (nx O)).fn 19 [.str (S (flat ps)), .bool hex] h = .ok (.ref h.length) (h ++ [.lst (rowsV ps)]) := by
 rw [r19]
 refine Run.eq (g_end ?_)
 unfold b19
 have key : ∀ u, Run (xss (nx O) [] 4096 (b19.code.drop 2) [some (.str (S (flat ps))), some (.bool hex), some (.str (bas hex)), u, none, none, none, none, none] h) (End fun b h' => b = .ref h.length ∧ h' = h ++ [.lst (rowsV ps)]) NoX := fun u => by
  have hb : b19.code.drop 2 = [.asg 3 (.lst []), .asg 4 (.k V.none), .asg 5 (.k (V.int 0)), .whl (.cmp .Lt (.l 5) (.bf .len [(.l 0)])) [.asg 6 (.call 17 [(.l 0), (.l 5)]), .ite (.cmp .Eq (.l 6) (.l 5)) (.whl (.bop .And [(.cmp .Lt (.l 6) (.bf .len [(.l 0)])), (.cmp .Eq (.call 17 [(.l 0), (.l 6)]) (.l 6))]) [.asg 6 (.bin .Add (.l 6) (.k (V.int 1)))] ::
   .asg 7 (.bm .lower (.slc (.l 0) (some (.l 5)) (some (.l 6))) []) :: [.ite (.cmp .Eq (.sub (.l 7) (.k (V.int 0))) (.k (V.str ("@" : Str)))) [
    .asg 4 (.call 18 [(.l 7), (.l 5)])] [
    .asg 8 (.bm .replace (.l 7) [(.k (V.str ("_" : Str))), (.k (V.str ("" : Str)))]),
    .ite (.nt (.call 11 [(.l 2), (.l 8)])) [
     .rai eFormat [(.k (V.str ("bad_word" : Str))), (.l 5), (.l 7)]] [],
    .ex (.bm .append (.l 3) [(.tup [(.l 4), (.l 8)])]),
    .asg 4 (.k V.none)]]) [], .asg 5 (.l 6)], .ret (.l 3)] := rfl
  rw [hb]
  wp_walk using newM_eq
  wp_walk
  wp_walk
  refine g_whl (F19I hex ps h)
   (fun loc h' => h' = h ++ [.lst (rowsV ps)] ∧ loc[3]? = some (some (.ref h.length))) ps.length (by kd_p) ⟨[], ps, none, none, none, rfl, rfl, ok, rfl, rfl⟩ ?_ ?_
  ·rintro m loc h' ⟨done, rest, x6, x7, x8, rfl, rfl, okr, rfl, rfl⟩
   cases rest with
   | nil =>
    have q1 : decide (((flat (done ++ [])).length : Int) < ((flat (done ++ [])).length : Int)) = false := dF (by kd_p)
    rw [List.append_nil] at *
    row_walk with ⟨S_len, q1⟩
   | cons p r =>
    have hcp := ch_pos okr
    have hfl : (flat (done ++ p :: r)).length = (flat done).length + (p.ch.length + (flat r).length) := by rw [flat_app, flat_cons]; simp
    have q1 : decide (((flat done).length : Int) < ((flat (done ++ p :: r)).length : Int)) = true := dT (Int.ofNat_lt.mpr (by rw [hfl]; exact Nat.lt_add_of_pos_right (Nat.lt_of_lt_of_le hcp (Nat.le_add_right _ _))))
    have hdl : (rowsV done).length ≤ 1000 := by
     rw [show (rowsV done).length = (rd done).1.length from List.length_map _]
     exact Nat.le_trans (rd_len done) (Nat.le_trans (by rw [List.length_append]; exact Nat.le_add_right _ _) hp)
    have hrow : (h ++ [LO.lst (rowsV done)])[h.length]? = some (.lst (rowsV done)) := hget0 _ _
    have hset : ∀ v, (h ++ [LO.lst (rowsV done)]).set h.length (.lst (rowsV done ++ [v])) = h ++ [LO.lst (rowsV done ++ [v])] := fun v => hset0 _ _ _
    have step := fun x6 x7 x8 (_ : p.ch.length = p.ch.length) okr' => f19_step (hex := hex) (h := h) done r p x6 x7 x8 okr'
    row_walk with ⟨S_len, q1⟩
    cases p with
    | ws c =>
     obtain ⟨hw, okr'⟩ := okr
     have hc : (flat (done ++ .ws c :: r))[(flat done).length]? = some c := by rw [flat_app, flat_cons]; simp [Pc.ch]
     refine turn_gap O _ _ 1 (by kd_p) _ _ _ _ _ _ _ _ (G1 O _ _ c _ hc hw (by kd_p)) _ _ _ ?_
     exact ⟨_, rfl, by
      have e : rowsV (done ++ [.ws c]) = rowsV done := by unfold rowsV; rw [rd_snoc]; rfl
      have e2 : (rd (done ++ [.ws c])).2 = (rd done).2 := by rw [rd_snoc]; rfl
      have := step (some (.int (((flat done).length + 1 : Nat) : Int))) x7 x8 rfl okr'
      rw [e, e2] at this
      exact this⟩
    | lc bs =>
     obtain ⟨hb1, ⟨r', rfl⟩, okr'⟩ := okr
     have ht : flat (done ++ .lc bs :: .ws 10 :: r') = flat done ++ (47 :: 47 :: bs) ++ 10 :: flat r' := by rw [flat_app, flat_cons, flat_cons]; simp [Pc.ch]
     have hg := G3 O (flat done) bs (flat r') (h ++ [LO.lst (rowsV done)]) hb1 (by rw [← ht]; exact hl)
     rw [← ht] at hg
     refine turn_gap O _ _ (47 :: 47 :: bs).length (Nat.succ_pos _) _ _ _ _ _ _ _ _ hg _ _ _ ?_
     exact ⟨_, rfl, by
      have e : rowsV (done ++ [.lc bs]) = rowsV done := by unfold rowsV; rw [rd_snoc]; rfl
      have e2 : (rd (done ++ [.lc bs])).2 = (rd done).2 := by rw [rd_snoc]; rfl
      have := step (some (.int (((flat done).length + (47 :: 47 :: bs).length : Nat) : Int))) x7 x8 rfl okr'
      rw [e, e2] at this
      exact this⟩
    | bc =>
     have okr' : OkPs hex r := okr
     have ht : flat (done ++ .bc :: r) = flat done ++ [47, 42, 32, 97, 32, 42, 47] ++ flat r := by rw [flat_app, flat_cons]; simp [Pc.ch]
     have hg := G4 O (flat done) (flat r) (h ++ [LO.lst (rowsV done)]) (by rw [← ht]; exact hl)
     rw [← ht] at hg
     refine turn_gap O _ _ 7 (by kd_p) _ _ _ _ _ _ _ _ hg _ _ _ ?_
     exact ⟨_, rfl, by
      have e : rowsV (done ++ [.bc]) = rowsV done := by unfold rowsV; rw [rd_snoc]; rfl
      have e2 : (rd (done ++ [.bc])).2 = (rd done).2 := by rw [rd_snoc]; rfl
      have := step (some (.int (((flat done).length + 7 : Nat) : Int))) x7 x8 rfl okr'
      rw [e, e2] at this
      exact this⟩
    | ad a =>
     obtain ⟨ha, ⟨c, r', rfl⟩, okr'⟩ := okr
     have hc : wsC c = true := okr'.1
     have ht : flat (done ++ .ad a :: .ws c :: r') = flat done ++ [64, 48 + a] ++ c :: flat r' := by rw [flat_app, flat_cons, flat_cons]; simp [Pc.ch]
     have e : rowsV (done ++ [.ad a]) = rowsV done := by unfold rowsV; rw [rd_snoc]; rfl
     have e2 : optV (rd (done ++ [.ad a])).2 = .int a := by rw [rd_snoc]; rfl
     have st := step (some (.int (((flat done).length + 2 : Nat) : Int))) (some (.str (S [64, 48 + a]))) x8 rfl okr'
     rw [e, e2] at st
     rw [ht] at st ⊢
     refine turn_word O (flat done) [64, 48 + a] (flat r') c (ad_wd a ha) (by simp) hc (by rw [← ht]; exact hl) _ _ _ _ _ _ _ _ _ _ _ ?_
     have q : (S [64] == ("@" : Str)) = true := by decide +kernel
     simp only [List.cons_append, List.nil_append]
     wp_walk using subS0, q
     wp_walk using f18 O a ha
     wp_walk
     refine g_nil ?_
     exact ⟨_, rfl, st⟩
    | dg ds =>
     obtain ⟨hd, h1, ⟨c, r', rfl⟩, okr'⟩ := okr
     have hc : wsC c = true := okr'.1
     have ht : flat (done ++ .dg ds :: .ws c :: r') = flat done ++ ds ++ c :: flat r' := by rw [flat_app, flat_cons, flat_cons]; simp [Pc.ch]
     have e : rowsV (done ++ [.dg ds]) = rowsV done ++ [.tup [optV (rd done).2, .str (S ds)]] := by unfold rowsV; rw [rd_snoc]; simp [stp, rowV]
     have e2 : optV (rd (done ++ [.dg ds])).2 = .none := by rw [rd_snoc]; rfl
     have st := step (some (.int (((flat done).length + ds.length : Nat) : Int))) (some (.str (S ds))) (some (.str (S ds))) rfl okr'
     rw [e, e2] at st
     rw [ht] at st ⊢
     refine turn_word O (flat done) ds (flat r') c (fun d hd' => okD_wd (hd d hd')) h1 hc (by rw [← ht]; exact hl) _ _ _ _ _ _ _ _ _ _ _ ?_
     obtain ⟨d, ds', rfl⟩ : ∃ d ds', ds = d :: ds' := by
      cases ds with
      | nil => cases h1
      | cons d ds' => exact ⟨d, ds', rfl⟩
     have q : (S [d] == ("@" : Str)) = false := by rw [lat, S_eq1]; exact dF (sgn64 (hd d (.head _)).1)
     have hus : 95 ∉ (d :: ds') := fun q => (okD_wd (hd 95 q)).2.2.2 rfl
     have ma := m_append (v := .tup [optV (rd done).2, .str (S (d :: ds'))]) hrow (by kd_p)
     rw [hset] at ma
     simp only [List.cons_append, List.nil_append]
     wp_walk using subS0, q
     wp_walk using m_repl _ hus
     wp_walk using f11 O hex (d :: ds') _ hd h1
     wp_walk using on_append hrow, ma
     wp_walk
     wp_walk
     refine g_nil ?_
     exact ⟨_, rfl, st⟩
  ·rintro loc h' ⟨rfl, hl3⟩
   refine g_ret ?_
   simp only [ev_l, hl3]
   exact Run.ok ⟨rfl, rfl⟩
 cases hex with
 | false =>
  wp_walk
  wp_walk
  exact key none
 | true =>
  wp_walk
  wp_walk
  wp_walk
  exact key none
theorem mm_le (a b : Int) : min a b ≤ max a b := Int.le_trans (Int.min_le_left a b) (Int.le_max_left a b)
noncomputable def adOf (r : Row) (a : Int) : Int := match r.1 with
 | none => a
 | some g => (g : Int)
noncomputable def pst (low high step : Int) (s : List (Int × List Nat) × Int) (r : Row) : List (Int × List Nat) × Int :=
 (if low ≤ adOf r s.2 ∧ adOf r s.2 ≤ high then s.1 ++ [(adOf r s.2, r.2)] else s.1, adOf r s.2 + step)
noncomputable def plc (low high step start : Int) (rows : List Row) : List (Int × List Nat) × Int := rows.foldl (pst low high step) ([], start)
theorem plc_snoc (low high step start : Int) (rows : List Row) (r : Row) : plc low high step start (rows ++ [r]) = pst low high step (plc low high step start rows) r := by simp [plc]
noncomputable def plV (p : Int × List Nat) : V := .tup [.int p.1, .str (S p.2)]
theorem plc_len (low high step start : Int) : ∀ rows : List Row, (plc low high step start rows).1.length ≤ rows.length := by
 intro rows
 induction rows using snoc_ind with
 | h0 => simp [plc]
 | h1 l p ih =>
  rw [plc_snoc]
  unfold pst
  dsimp only
  split <;> simp <;> kd_p
noncomputable def stepOf (start finish : Int) : Int := if finish < start then -1 else 1
set_option tactic.hygienic true in
theorem plc_in (low high step start : Int) : ∀ (rows : List Row), ∀ p ∈ (plc low high step start rows).1, low ≤ p.1 ∧ p.1 ≤ high ∧ ∃ r ∈ rows, r.2 = p.2 := by
 intro rows
 induction rows using snoc_ind with
 | h0 => simp [plc]
 | h1 l r ih =>
  intro p hp
  rw [plc_snoc] at hp
  unfold pst at hp
  dsimp only at hp
  split at hp
  ·rename_i hc
   rcases List.mem_append.mp hp with hp | hp
   ·obtain ⟨a, b, q, c, d⟩ := ih p hp
    exact ⟨a, b, q, List.mem_append_left _ c, d⟩
   ·rw [List.mem_singleton.mp hp]
    exact ⟨hc.1, hc.2, r, by simp, rfl⟩
  ·obtain ⟨a, b, q, c, d⟩ := ih p hp
   exact ⟨a, b, q, List.mem_append_left _ c, d⟩
theorem f16 (O : Orc) {h : H} {a : Nat} {rows : List Row} (ea : h[a]? = some (.lst (rows.map rowV))) (hl : rows.length ≤ 1000) (start finish : Int)
  (hg : ∀ r ∈ rows, ∀ g, r.1 = some g → min start finish ≤ (g : Int) ∧ (g : Int) ≤ max start finish) :
  (nx O).fn 16 [.ref a, .int start, .int finish] h = .ok (.ref h.length) (h ++ [.lst ((plc (min start finish) (max start finish) (stepOf start finish) start rows).1.map plV)]) := by
 rw [r16]
 refine Run.eq (g_end ?_)
 unfold b16
 wp_walk
 wp_walk
 wp_walk
 have key : ∀ (q : Option V), Run (xss O [] 4096 (b16.code.drop 4) [some (.ref a), some (.int start), some (.int finish), some (.int (min start finish)), some (.int (max start finish)), some (.int (stepOf start finish)), none, none, none, none] h)
   (End fun b h' => b = .ref h.length ∧ h' = h ++ [.lst ((plc (min start finish) (max start finish) (stepOf start finish) start rows).1.map plV)]) NoX := fun q => by
  have hb : b16.code.drop 4 = [.asg 6 (.lst []), .asg 7 (.l 1), .forT [8, 9] (.l 0) [
  .ite (.cmp .IsNot (.l 8) (.k V.none)) [
   .asg 7 (.l 8),
   .ite (.bop .Or [(.cmp .Lt (.l 7) (.l 3)), (.cmp .Gt (.l 7) (.l 4))]) [
    .rai eFormat [(.k (V.str ("address_out_of_range" : Str))), (.neg (.k (V.int 1))), (.l 9)]] []] [],
  .ite (.bop .And [(.cmp .LtE (.l 3) (.l 7)), (.cmp .LtE (.l 7) (.l 4))]) [
   .ex (.bm .append (.l 6) [(.tup [(.l 7), (.l 9)])])] [],
  .asg 7 (.bin .Add (.l 7) (.l 5))],
 .ret (.l 6)] := rfl
  rw [hb]
  wp_walk using newM_eq
  wp_walk
  refine g_forT (f := rowV) (l := rows) (a := a) rfl (ga_ ea) (fun done loc h' => h' = h ++ [.lst ((plc (min start finish) (max start finish) (stepOf start finish) start done).1.map plV)] ∧ ∃ q r,
   loc = [some (.ref a), some (.int start), some (.int finish), some (.int (min start finish)), some (.int (max start finish)), some (.int (stepOf start finish)), some (.ref h.length), some (.int (plc (min start finish) (max start finish) (stepOf start finish) start done).2), q, r]) ⟨rfl, none, none, rfl⟩ ?_ ?_
  ·rintro done r rest e loc h' ⟨rfl, q, q', rfl⟩
   have hm : r ∈ rows := by rw [e]; simp
   generalize hp : plc (min start finish) (max start finish) (stepOf start finish) start done = s
   have hsl : s.1.length ≤ 1000 := Nat.le_trans (hp ▸ plc_len (min start finish) (max start finish) (stepOf start finish) start done) (Nat.le_trans (app_le e) hl)
   have hrow : (h ++ [LO.lst (s.1.map plV)])[h.length]? = some (.lst (s.1.map plV)) := hget0 _ _
   have hset : ∀ v, (h ++ [LO.lst (s.1.map plV)]).set h.length (.lst (s.1.map plV ++ [v])) = h ++ [LO.lst (s.1.map plV ++ [v])] := fun v => hset0 _ _ _
   have tail : ∀ (q q' : Option V) (l8 : V), l8 = optV r.1 → Run (xss O [] 4096 [.ite (.bop .And [(.cmp .LtE (.l 3) (.l 7)), (.cmp .LtE (.l 7) (.l 4))]) [
   .ex (.bm .append (.l 6) [(.tup [(.l 7), (.l 9)])])] [],
  .asg 7 (.bin .Add (.l 7) (.l 5))] [some (.ref a), some (.int start), some (.int finish), some (.int (min start finish)), some (.int (max start finish)), some (.int (stepOf start finish)), some (.ref h.length), some (.int (adOf r s.2)), some l8, some (.str (S r.2))] (h ++ [LO.lst (s.1.map plV)]))
     (Nx fun loc' h' => h'[a]? = some (.lst (rows.map rowV)) ∧ (h' = h ++ [.lst ((plc (min start finish) (max start finish) (stepOf start finish) start (done ++ [r])).1.map plV)] ∧ ∃ q r', loc' = [some (.ref a), some (.int start), some (.int finish), some (.int (min start finish)), some (.int (max start finish)), some (.int (stepOf start finish)), some (.ref h.length), some (.int (plc (min start finish) (max start finish) (stepOf start finish) start (done ++ [r])).2), q, r'])) NoX := fun q q' l8 hl8 => by
    have ma := m_append (v := .tup [.int (adOf r s.2), .str (S r.2)]) hrow (by rw [List.length_map]; exact Nat.le_trans hsl (by decide))
    rw [hset] at ma
    have hps : plc (min start finish) (max start finish) (stepOf start finish) start (done ++ [r]) = pst (min start finish) (max start finish) (stepOf start finish) s r := by rw [plc_snoc, hp]
    rw [hps]
    refine g_ite ?_
    by_cases c1 : min start finish ≤ adOf r s.2
    ·by_cases c2 : adOf r s.2 ≤ max start finish
     ·row_walk with ⟨dT c1, dT c2⟩
      wp_walk using on_append hrow, ma
      wp_walk
      wp_walk
      refine ⟨ga_ ea, ?_, some l8, some (.str (S r.2)), ?_⟩
      ·unfold pst; rw [if_pos ⟨c1, c2⟩]; simp [plV]
      ·rfl
     ·row_walk with ⟨dT c1, dF c2⟩
      wp_walk
      wp_walk
      refine ⟨ga_ ea, ?_, some l8, some (.str (S r.2)), ?_⟩
      ·unfold pst; rw [if_neg (fun q => c2 q.2)]
      ·rfl
    ·have c2 : adOf r s.2 ≤ max start finish := Int.le_trans (Int.le_of_lt (Int.not_le.mp c1)) (mm_le start finish)
     row_walk with ⟨dF c1⟩
     wp_walk
     wp_walk
     refine ⟨ga_ ea, ?_, some l8, some (.str (S r.2)), ?_⟩
     ·unfold pst; rw [if_neg (fun q => c1 q.1)]
     ·rfl
   obtain ⟨g, ds⟩ := r
   refine ⟨_, rfl, ?_⟩
   cases g with
   | none =>
    wp_walk using optV
    exact tail none none .none rfl
   | some g =>
    have h1 := hg _ hm g rfl
    have d1 : decide ((g : Int) < min start finish) = false := dF (Int.not_lt.mpr h1.1)
    have d2 : decide (max start finish < (g : Int)) = false := dF (Int.not_lt.mpr h1.2)
    wp_walk using optV
    wp_walk using optV
    wp_walk using optV, d1, d2
    exact tail none none (.int g) rfl
  ·rintro loc h' ⟨rfl, q, q', rfl⟩
   wp_walk
 refine g_ite ?_
 by_cases c : finish < start
 ·have hs : stepOf start finish = -1 := if_pos c
  row_walk with ⟨dT c⟩
  refine g_asg ?_
  rw [neg1]
  refine Run.ok ?_
  have := key none
  rw [hs] at this ⊢
  exact this
 ·have hs : stepOf start finish = 1 := if_neg c
  row_walk with ⟨dF c⟩
  have := key none
  rw [hs] at this ⊢
  exact this
theorem f16_bad (O : Orc) {h : H} {a : Nat} {g : Nat} {ds : List Nat} {rows : List Row} (ea : h[a]? = some (.lst (((some g, ds) :: rows).map rowV))) (start finish : Int) (hg : max start finish < (g : Int)) :
  Run ((nx O).fn 16 [.ref a, .int start, .int finish] h) (fun _ _ => False) (fun C kd h' => C = eFormat ∧ kd = "address_out_of_range" ∧ h' = h ++ [.lst []]) := by
 rw [r16]
 refine g_end ?_
 unfold b16
 wp_walk
 wp_walk
 wp_walk
 have key : ∀ (q : V), Run (xss O [] 4096 (b16.code.drop 4) [some (.ref a), some (.int start), some (.int finish), some (.int (min start finish)), some (.int (max start finish)), some q, none, none, none, none] h)
   (End fun _ _ => False) (fun C kd h' => C = eFormat ∧ kd = "address_out_of_range" ∧ h' = h ++ [.lst []]) := fun q => by
  have hb : b16.code.drop 4 = [.asg 6 (.lst []), .asg 7 (.l 1), .forT [8, 9] (.l 0) [
  .ite (.cmp .IsNot (.l 8) (.k V.none)) [
   .asg 7 (.l 8),
   .ite (.bop .Or [(.cmp .Lt (.l 7) (.l 3)), (.cmp .Gt (.l 7) (.l 4))]) [
    .rai eFormat [(.k (V.str ("address_out_of_range" : Str))), (.neg (.k (V.int 1))), (.l 9)]] []] [],
  .ite (.bop .And [(.cmp .LtE (.l 3) (.l 7)), (.cmp .LtE (.l 7) (.l 4))]) [
   .ex (.bm .append (.l 6) [(.tup [(.l 7), (.l 9)])])] [],
  .asg 7 (.bin .Add (.l 7) (.l 5))],
 .ret (.l 6)] := rfl
  rw [hb]
  wp_walk using newM_eq
  wp_walk
  refine g_forT (f := rowV) (l := (some g, ds) :: rows) (a := a) rfl (ga_ ea) (fun done loc h' => done = [] ∧ h' = h ++ [.lst []] ∧ loc = [some (.ref a), some (.int start), some (.int finish), some (.int (min start finish)), some (.int (max start finish)), some q, some (.ref h.length), some (.int start), none, none]) ⟨rfl, rfl, rfl⟩ ?_ ?_
  ·rintro done r rest e loc h' ⟨rfl, rfl, rfl⟩
   cases e
   have d0 : ¬ (g : Int) < min start finish := Int.not_lt.mpr (Int.le_trans (mm_le start finish) (Int.le_of_lt hg))
   have d1 : decide ((g : Int) < min start finish) = false := dF d0
   have d2 : decide (max start finish < (g : Int)) = true := dT hg
   refine ⟨_, rfl, ?_⟩
   wp_walk using optV
   wp_walk using optV
   wp_walk using optV, d1, d2
   wp_walk
   exact ⟨_, _, _, rfl, rfl⟩
  ·rintro loc h' ⟨e, _⟩
   cases e
 refine g_ite ?_
 by_cases c : finish < start
 ·row_walk with ⟨dT c⟩
  refine g_asg ?_
  rw [neg1]
  exact Run.ok (key _)
 ·row_walk with ⟨dF c⟩
  exact key _
structure Wor (h : H) (n SG M mD N nD : Nat) (w : Nat) (low high : Int) (up : Bool) : Prop where
 sg : ∃ A, h[SG]? = some (.lst [.ref A, .ref M, .ref N])
 m : SigAt h M mD 1 "top.m" "reg" w (.int (if up then low else high)) (.int (if up then high else low))
 nn : SigAt h N nD 2 "top.n" "wire" w (.int low) (.int high)
 lt : SG < n ∧ M < n ∧ mD < n ∧ N < n ∧ nD < n
theorem Wor.same {h h' : H} {n SG M mD N nD w : Nat} {low high : Int} {up : Bool} (x : Wor h n SG M mD N nD w low high up) {L : List Nat} (s : Same L h h') (hL : ∀ i ∈ L, n ≤ i) : Wor h' n SG M mD N nD w low high up := by
 have key : ∀ j y, j < n → h[j]? = some y → h'[j]? = some y := fun j y hj e => s j y (fun q => absurd (hL j q) (Nat.not_le.mpr hj)) e
 obtain ⟨l1, l2, l3, l4, l5⟩ := x.lt
 obtain ⟨A, hA⟩ := x.sg
 exact ⟨⟨A, key _ _ l1 hA⟩, ⟨key _ _ l2 x.m.i, key _ _ l3 x.m.d⟩, ⟨key _ _ l4 x.nn.i, key _ _ l5 x.nn.d⟩, x.lt⟩
noncomputable def ArgW (xs : List V) (p : Nat) (usual v : Int) : Prop := ((xs.length ≤ p ∨ xs[p]? = some (.tup [.str "none"])) ∧ v = usual) ∨
 ∃ (wd : Nat) (aa : Int) (s : Bool), 1 ≤ wd ∧ wd ≤ 1000 ∧ xs[p]? = some (.tup [.str "e", .tup [.str "const", .int wd, .int aa, .int 0], .bool s]) ∧ v = toI wd aa s
theorem f15_w (O : Orc) {h : H} {n : Nat} {sg text : V} {k : Nat} {told : List V} (x : Ker h n sg text k told) (hk : k ≤ 900) {a p : Nat} {xs : List V} {usual v0 : Int} (ea : h[a]? = some (.lst xs)) (hxl : xs.length ≤ 100) (hv : ArgW xs p usual v0) (hp : p ≤ 100)
  (hna : a ≠ n + 17 ∧ a ≠ n + 18) (nm : Str) (t : V) :
  Run ((nx (nx O)).fn 15 [.ref (n + 4), .str nm, .ref a, .int p, .int usual, t] h) (fun v h' => v = .int v0 ∧ ∃ k', k' ≤ k + 1 ∧ Ker h' n sg text k' told ∧ Same [n + 17, n + 18] h h') NoX := by
 rcases hv with ⟨h1, rfl⟩ | ⟨wd, aa, s, h1, h2, h3, rfl⟩
 ·rw [f15_usual (nx O) ea hxl h1 hp]
  exact Run.ok ⟨rfl, k, Nat.le_succ k, x, Same.refl _ _⟩
 ·refine (f15_e O x hk ea hxl h3 hp h1 h2 hna (.inl rfl) nm (.int usual) t).mono (fun v h' ⟨_, e, kk, ss⟩ => ⟨e, k + 1, Nat.le_refl _, kk, ss⟩) fun _ _ _ ⟨q, _⟩ => by cases q
theorem in_files {h : H} {n : Nat} {sg text : V} (x : Kern h n sg text) : inV h (.str ("f1" : Str)) (.ref (n + 15)) = some true := by
 show (dct? h (n + 15)).map (fun es => (es.lookup ("f1" : Str)).isSome) = _
 rw [dct_eq x.f]; rfl
theorem in_files2 {h : H} {n : Nat} {sg text : V} (x : Kern h n sg text) : inV h (.str ("f2" : Str)) (.ref (n + 15)) = some false := by
 show (dct? h (n + 15)).map (fun es => (es.lookup ("f2" : Str)).isSome) = _
 rw [dct_eq x.f]
 show some _ = _
 congr 1
theorem d_files {h : H} {n : Nat} {sg text : V} (x : Kern h n sg text) : subV (.ref (n + 15)) (.str ("f1" : Str)) h = .ok text h := by
 show ((dct? h (n + 15)).bind (·.lookup ("f1" : Str))).elim Res.bad (fun v => Res.ok v h) = _
 rw [dct_eq x.f]; rfl
theorem bas_h (hex : Bool) : (bas hex == ("h" : Str)) = hex := by cases hex <;> decide +kernel
theorem isNet_reg : isNet ("reg" : Str) = false := by decide +kernel
theorem isNet_wire : isNet ("wire" : Str) = true := by decide +kernel
theorem memmem : ((("mem" : Str)) == ("mem" : Str)) = true := beq_self_eq_true _
theorem nemem : ((("e" : Str)) == ("mem" : Str)) = false := by decide +kernel
theorem fl_sz (w : Nat) (h : H) (hw : w ≤ 9) : bfV .str [.int w] h = .ok (.str (sz w)) h := by
 rw [fl_str1]; exact okP_pos (by kd_p)
noncomputable def toldV (hex : Bool) (w : Nat) (low high : Int) (up : Bool) (p : Int × List Nat) : V := .tup [.int 1, .int (if up then p.1 - low else high - p.1), .tup [.int w, .int (va hex w p.2), .int (vb hex w p.2)]]
noncomputable def cLoad1 : List St := [.asg 10 (.call 15 [(.l 0), (.l 1), (.l 3), (.k (V.int 2)), (.l 8), (.l 4)]),
 .asg 11 (.call 15 [(.l 0), (.l 1), (.l 3), (.k (V.int 3)), (.l 9), (.l 4)]),
 .ite (.bop .Or [(.cmp .Lt (.bf .min [(.l 10), (.l 11)]) (.l 8)), (.cmp .Gt (.bf .max [(.l 10), (.l 11)]) (.l 9))]) [
  .rai eFormat [(.k (V.str ("address_out_of_range" : Str))), (.neg (.k (V.int 1))), (.l 5)]] [],
 .asg 12 (.call 19 [(.sub (.att (.l 0) ("files" : Str)) (.l 5)), (.cmp .Eq (.l 2) (.k (V.str ("h" : Str))))]),
 .forT [13, 14] (.call 16 [(.l 12), (.l 10), (.l 11)]) [
  .asg 15 (.sub (.call 10 [(.tup [(.bf .str [(.att (.l 7) ("width" : Str))]), (.l 2), (.k (V.bool false)), (.l 14)]), (.neg (.k (V.int 1)))]) (.k (V.int 0))),
  .ex (.mi ("set_word" : Str) (.l 0) [(.l 6), (.mc cSignal 24 ("place" : Str) (.l 7) [(.l 13)]), (.l 15)])]]
section
variable {h : H} {n SG M mD N nD w k a : Nat} {low high : Int} {up hex : Bool} {text : V} {told : List V} {xs : List V}
theorem f28_head (O : Orc) (x : Ker h n (.ref SG) text k told) (W : Wor h n SG M mD N nD w low high up) (hlh : low ≤ high) (hk : k ≤ 800) {arg : V} {r : List V} (ea : h[a]? = some (.lst (arg :: .tup [.str "mem", .int 1] :: r))) (han : a < n) (hr : r.length ≤ 2) (hv : NameV arg ("f1" : Str)) (task : Str)
  (Q : V → H → Prop) (X : Nat → Str → H → Prop)
  (y : ∀ h', Ker h' n (.ref SG) text (k + 1) told → Wor h' n SG M mD N nD w low high up → h'[a]? = some (.lst (arg :: .tup [.str "mem", .int 1] :: r)) → Same [n + 16, n + 17, n + 18] h h' →
   Run (xss (nx (nx (nx (nx O)))) [] 4096 cLoad1 [some (.ref (n + 4)), some (.str task), some (.str (bas hex)), some (.ref a), some (.ref (n + 4)), some (.str "f1"), some (.int 1), some (.ref M), some (.int low), some (.int high), none, none, none, none, none, none] h') (End Q) X) :
  Run ((nx (nx (nx (nx (nx O))))).fn 28 [.ref (n + 4), .str task, .str (bas hex), .ref a, .ref (n + 4)] h) Q X := by
 rw [r28]
 refine g_end ?_
 show Run (xss _ [] 4096 ([.asg 5 (.call 14 [(.l 0), (.l 1), (.l 3), (.l 4)]),
 .ite (.bop .Or [(.cmp .Lt (.bf .len [(.l 3)]) (.k (V.int 2))), (.cmp .Gt (.bf .len [(.l 3)]) (.k (V.int 4))), (.cmp .NotEq (.sub (.sub (.l 3) (.k (V.int 1))) (.k (V.int 0))) (.k (V.str ("mem" : Str))))]) [
  .rai eDesign [(.k (V.str ("wrong_arguments" : Str))), (.neg (.k (V.int 1))), (.l 1)]] [],
 .ite (.cmp .NotIn (.l 5) (.att (.l 0) ("files" : Str))) [
  .rai eFormat [(.k (V.str ("unknown_file" : Str))), (.neg (.k (V.int 1))), (.l 5)]] [],
 .asg 6 (.sub (.sub (.l 3) (.k (V.int 1))) (.k (V.int 1))),
 .asg 7 (.sub (.att (.att (.l 0) ("store" : Str)) ("signals" : Str)) (.l 6)),
 .ite (.mc cSignal 22 ("is_net" : Str) (.l 7) []) [
  .rai eDesign [(.k (V.str ("assign_to_net" : Str))), (.neg (.k (V.int 1))), (.l 1)]] [],
 .asg 8 (.bf .min [(.att (.l 7) ("first" : Str)), (.att (.l 7) ("last" : Str))]),
 .asg 9 (.bf .max [(.att (.l 7) ("first" : Str)), (.att (.l 7) ("last" : Str))])] ++ cLoad1) _ _) _ _
 simp only [List.cons_append, List.nil_append]
 wp_walk
 refine (f14 (nx O) x (by kd_p) ea (by simp; kd_p) hv (.str task) (.ref (n + 4))).post fun v h1 z => ?_
 obtain ⟨e1, x1, s1⟩ := z
 subst e1
 have S1 : Same [n + 16, n + 17, n + 18] h h1 := s1.mono fun i hi => .tail _ hi
 have ea1 := S1 a _ (out3 han) ea
 have W1 := W.same S1 in3
 obtain ⟨A, hA⟩ := W1.sg
 have c1 : decide ((((arg :: V.tup [.str "mem", .int 1] :: r).length : Nat) : Int) < 2) = false := dF (by simp; kd_p)
 have c2 : decide (4 < (((arg :: V.tup [.str "mem", .int 1] :: r).length : Nat) : Int)) = false := dF (by simp; kd_p)
 have hll : (arg :: V.tup [.str "mem", .int 1] :: r).length ≤ 100000 := by simp; kd_p
 have hlen := l_len ea1 hll
 have hmin : min (if up then low else high) (if up then high else low) = low := by cases up <;> simp <;> kd_p
 have hmax : max (if up then low else high) (if up then high else low) = high := by cases up <;> simp <;> kd_p
 have hnet := isNet_reg
 refine g_ite ?_
 rw [show tr (nx (nx (nx (nx O)))) [] (.bop .Or [(.cmp .Lt (.bf .len [(.l 3)]) (.k (V.int 2))), (.cmp .Gt (.bf .len [(.l 3)]) (.k (V.int 4))), (.cmp .NotEq (.sub (.sub (.l 3) (.k (V.int 1))) (.k (V.int 0))) (.k (V.str ("mem" : Str))))])
   [some (.ref (n + 4)), some (.str task), some (.str (bas hex)), some (.ref a), some (.ref (n + 4)), some (.str "f1"), none, none, none, none, none, none, none, none, none, none] h1 = .ok false h1 from by
  row_walk with ⟨hlen, c1, c2, l_s1 ea1, memmem⟩]
 refine Run.ok ⟨fun q => (by cases q), fun _ => ?_⟩
 simp only [List.nil_append]
 wp_walk using x1.kern.a_files, in_files x1.kern
 wp_walk using l_s1 ea1
 wp_walk using x1.kern.a_store, x1.kern.a_signals, l_s1 hA
 wp_walk using W1.m.g_net, f22 (nx (nx O)) W1.m, hnet
 wp_walk using W1.m.g_first, W1.m.g_last, hmin
 wp_walk using W1.m.g_first, W1.m.g_last, hmax
 exact y h1 x1 W1 ea1 S1
end
section
variable {h : H} {n SG M mD N nD w k a : Nat} {low high : Int} {up hex : Bool} {text : V} {told : List V} {xs : List V}
theorem f28_sf (O : Orc) (x : Ker h n (.ref SG) text k told) (W : Wor h n SG M mD N nD w low high up) (hk : k ≤ 810) (ea : h[a]? = some (.lst xs)) (han : a < n) (hr : xs.length ≤ 100) (start finish : Int) (hs : ArgW xs 2 low start) (hf : ArgW xs 3 high finish)
  (task : Str) (Q : V → H → Prop) (X : Nat → Str → H → Prop)
  (y : ∀ h' k', k' ≤ 812 → Ker h' n (.ref SG) text k' told → Wor h' n SG M mD N nD w low high up → h'[a]? = some (.lst xs) → Same [n + 16, n + 17, n + 18] h h' →
   Run (xss (nx (nx (nx (nx O)))) [] 4096 (cLoad1.drop 2) [some (.ref (n + 4)), some (.str task), some (.str (bas hex)), some (.ref a), some (.ref (n + 4)), some (.str "f1"), some (.int 1), some (.ref M), some (.int low), some (.int high), some (.int start), some (.int finish), none, none, none, none] h') (End Q) X) :
  Run (xss (nx (nx (nx (nx O)))) [] 4096 cLoad1 [some (.ref (n + 4)), some (.str task), some (.str (bas hex)), some (.ref a), some (.ref (n + 4)), some (.str "f1"), some (.int 1), some (.ref M), some (.int low), some (.int high), none, none, none, none, none, none] h) (End Q) X := by
 show Run (xss _ [] 4096 (.asg 10 (.call 15 [(.l 0), (.l 1), (.l 3), (.k (V.int 2)), (.l 8), (.l 4)]) :: .asg 11 (.call 15 [(.l 0), (.l 1), (.l 3), (.k (V.int 3)), (.l 9), (.l 4)]) :: cLoad1.drop 2) _ _) _ _
 wp_walk
 refine (f15_w (nx (nx O)) (p := 2) x (Nat.le_trans hk (by decide)) ea hr hs (by decide) ⟨ne_at han _, ne_at han _⟩ task (.ref (n + 4))).post fun v h1 z => ?_
 obtain ⟨e1, k1, hk1, x1, s1⟩ := z
 subst e1
 have S1 : Same [n + 16, n + 17, n + 18] h h1 := s1.mono fun i hi => .tail _ hi
 have ea1 := S1 a _ (out3 han) ea
 have W1 := W.same S1 in3
 wp_walk
 refine (f15_w (nx (nx O)) (p := 3) x1 (Nat.le_trans (Nat.le_trans hk1 (Nat.succ_le_succ hk)) (by decide)) ea1 hr hf (by decide) ⟨ne_at han _, ne_at han _⟩ task (.ref (n + 4))).post fun v h2 z => ?_
 obtain ⟨e2, k2, hk2, x2, s2⟩ := z
 subst e2
 have S2 : Same [n + 16, n + 17, n + 18] h1 h2 := s2.mono fun i hi => .tail _ hi
 exact y h2 k2 (Nat.le_trans hk2 (Nat.succ_le_succ (Nat.le_trans hk1 (Nat.succ_le_succ hk)))) x2 (W1.same S2 in3) (S2 a _ (out3 han) ea1) (S1.trans S2)
theorem f28_set (O : Orc) (ps : List Pc) (ok : OkPs hex ps) (hfl : (flat ps).length ≤ 4000) (hpl : ps.length ≤ 500) (hw1 : 1 ≤ w) (hw9 : w ≤ 9) (hds : ∀ r ∈ (rd ps).1, (∀ c ∈ r.2, okD hex c) ∧ 1 ≤ r.2.length ∧ r.2.length ≤ 8)
  (x : Ker h n (.ref SG) (.str (S (flat ps))) k told) (W : Wor h n SG M mD N nD w low high up) (htl : told.length ≤ 100) (start finish : Int) (hs1 : low ≤ start) (hs2 : start ≤ high) (hf1 : low ≤ finish) (hf2 : finish ≤ high)
  (hg : ∀ r ∈ (rd ps).1, ∀ g, r.1 = some g → min start finish ≤ (g : Int) ∧ (g : Int) ≤ max start finish) (task : Str) :
  Run (xss (nx (nx (nx (nx O)))) [] 4096 (cLoad1.drop 2) [some (.ref (n + 4)), some (.str task), some (.str (bas hex)), some (.ref a), some (.ref (n + 4)), some (.str "f1"), some (.int 1), some (.ref M), some (.int low), some (.int high), some (.int start), some (.int finish), none, none, none, none] h)
   (End fun v h' => v = .none ∧ Ker h' n (.ref SG) (.str (S (flat ps))) k (told ++ (plc (min start finish) (max start finish) (stepOf start finish) start (rd ps).1).1.map (toldV hex w low high up)) ∧ Same [n + 16, n + 17, n + 18] h h') NoX := by
 show Run (xss _ [] 4096 [.ite (.bop .Or [(.cmp .Lt (.bf .min [(.l 10), (.l 11)]) (.l 8)), (.cmp .Gt (.bf .max [(.l 10), (.l 11)]) (.l 9))]) [
  .rai eFormat [(.k (V.str ("address_out_of_range" : Str))), (.neg (.k (V.int 1))), (.l 5)]] [],
 .asg 12 (.call 19 [(.sub (.att (.l 0) ("files" : Str)) (.l 5)), (.cmp .Eq (.l 2) (.k (V.str ("h" : Str))))]),
 .forT [13, 14] (.call 16 [(.l 12), (.l 10), (.l 11)]) [
  .asg 15 (.sub (.call 10 [(.tup [(.bf .str [(.att (.l 7) ("width" : Str))]), (.l 2), (.k (V.bool false)), (.l 14)]), (.neg (.k (V.int 1)))]) (.k (V.int 0))),
  .ex (.mi ("set_word" : Str) (.l 0) [(.l 6), (.mc cSignal 24 ("place" : Str) (.l 7) [(.l 13)]), (.l 15)])]] _ _) _ _
 have d1 : decide (min start finish < low) = false := dF (Int.not_lt.mpr (Int.le_min.mpr ⟨hs1, hf1⟩))
 have d2 : decide (high < max start finish) = false := dF (Int.not_lt.mpr (Int.max_le.mpr ⟨hs2, hf2⟩))
 wp_walk using d1, d2
 wp_walk using x.kern.a_files, d_files x.kern, bas_h, f19 (nx (nx O)) hex ps _ ok hfl (Nat.le_trans hpl (by decide))
 have hrl := rd_len ps
 have hrw : (h ++ [LO.lst (rowsV ps)])[h.length]? = some (.lst ((rd ps).1.map rowV)) := hget0 _ _
 have e16 := f16 (nx (nx (nx O))) hrw (Nat.le_trans hrl (Nat.le_trans hpl (by decide))) start finish hg
 generalize hP : (plc (min start finish) (max start finish) (stepOf start finish) start (rd ps).1).1 = P at e16
 have hPin : ∀ p ∈ P, low ≤ p.1 ∧ p.1 ≤ high ∧ (∀ c ∈ p.2, okD hex c) ∧ 1 ≤ p.2.length ∧ p.2.length ≤ 8 := fun p hp => by
  rw [← hP] at hp
  obtain ⟨a1, a2, r, hr, e⟩ := plc_in _ _ _ _ _ p hp
  obtain ⟨b1, b2, b3⟩ := hds r hr
  rw [e] at b1 b2 b3
  exact ⟨Int.le_trans (Int.le_min.mpr ⟨hs1, hf1⟩) a1, Int.le_trans a2 (Int.max_le.mpr ⟨hs2, hf2⟩), b1, b2, b3⟩
 have hPl : P.length ≤ 500 := Nat.le_trans (hP ▸ plc_len (min start finish) (max start finish) (stepOf start finish) start (rd ps).1) (Nat.le_trans hrl hpl)
 have hl1 : (h ++ [LO.lst (rowsV ps)]).length = h.length + 1 := by simp
 rw [hl1] at e16
 generalize hH : h ++ [LO.lst (rowsV ps)] ++ [LO.lst (P.map plV)] = h1 at e16
 have S1 : Same [n + 16, n + 17, n + 18] h h1 := by rw [← hH, List.append_assoc]; exact Same.app _ _ _
 have x1 : Ker h1 n (.ref SG) (.str (S (flat ps))) k told := by rw [← hH]; exact (x.app _).app _
 have W1 := W.same S1 in3
 have hPg : h1[h.length + 1]? = some (.lst (P.map plV)) := by rw [← hH, ← hl1]; exact hget0 _ _
 have hn18 : n + 18 < h.length := (List.getElem?_eq_some_iff.mp x.back).1
 refine g_forT (f := plV) (l := P) (a := h.length + 1) (h1 := h1) ?_ hPg (fun done loc h' => Ker h' n (.ref SG) (.str (S (flat ps))) k (told ++ done.map (toldV hex w low high up)) ∧ Same [n + 16, n + 17, n + 18] h1 h' ∧ ∃ u13 u14 u15,
  loc = [some (.ref (n + 4)), some (.str task), some (.str (bas hex)), some (.ref a), some (.ref (n + 4)), some (.str "f1"), some (.int 1), some (.ref M), some (.int low), some (.int high), some (.int start), some (.int finish), some (.ref h.length), u13, u14, u15]) ⟨by simpa using x1, Same.refl _ _, none, none, none, rfl⟩ ?_ ?_
 ·row_walk
  exact e16
 ·rintro done p rest e loc h' ⟨xk, ss, u13, u14, u15, rfl⟩
  obtain ⟨b1, b2, b3, b4, b5⟩ := hPin p (by rw [e]; simp)
  have Wk := W1.same ss in3
  have hdone : (told ++ done.map (toldV hex w low high up)).length ≤ 1000 := by
   rw [List.length_append, List.length_map]
   exact Nat.le_trans (Nat.add_le_add htl (Nat.le_trans (app_le e) hPl)) (by decide)
  have hPg' : h'[h.length + 1]? = some (.lst (P.map plV)) := ss _ _ (up3 (Nat.lt_succ_of_lt hn18)) hPg
  have e10 := f10 O hex w p.2 h' hw1 hw9 b3 b4 b5
  have e24 := f24 (nx (nx O)) Wk.m p.1 b1 b2
  have eset := k_told (nx (nx (nx O))) xk.kern xk.told hdone (.int 1) (.int (if up then p.1 - low else high - p.1)) (.tup [.int w, .int (va hex w p.2), .int (vb hex w p.2)])
  refine ⟨_, rfl, ?_⟩
  wp_walk using Wk.m.g_width, fl_sz w _ hw9, e10
  wp_walk using xk.kern.a_set, Wk.m.g_place, e24, eset
  wp_walk
  have s3 : Same [n + 16, n + 17, n + 18] h' (h'.set (n + 16) (.lst (told ++ done.map (toldV hex w low high up) ++ [.tup [.int 1, .int (if up then p.1 - low else high - p.1), .tup [.int w, .int (va hex w p.2), .int (vb hex w p.2)]]]))) := Same.set _ (.head _) _
  refine ⟨s3 _ _ (up3 (Nat.lt_succ_of_lt hn18)) hPg', ?_, ss.trans s3, _, _, _, rfl⟩
  have e3 : told ++ (done ++ [p]).map (toldV hex w low high up) = told ++ done.map (toldV hex w low high up) ++ [.tup [.int 1, .int (if up then p.1 - low else high - p.1), .tup [.int w, .int (va hex w p.2), .int (vb hex w p.2)]]] := by simp [toldV]
  rw [e3]
  exact ⟨xk.kern.same s3 in3', gs0 xk.told, gs_ xk.lent (ne_in (by decide)), gs_ xk.back (ne_in (by decide))⟩
 ·rintro loc h' ⟨xk, ss, u13, u14, u15, rfl⟩
  wp_walk
  exact ⟨xk, S1.trans ss⟩
end
section
variable {h : H} {n SG M mD N nD w k a : Nat} {low high : Int} {up hex : Bool} {text : V} {told : List V} {xs : List V}
theorem f28_ok (O : Orc) (ps : List Pc) (ok : OkPs hex ps) (hfl : (flat ps).length ≤ 4000) (hpl : ps.length ≤ 500) (hw1 : 1 ≤ w) (hw9 : w ≤ 9) (hds : ∀ r ∈ (rd ps).1, (∀ c ∈ r.2, okD hex c) ∧ 1 ≤ r.2.length ∧ r.2.length ≤ 8)
  (x : Ker h n (.ref SG) (.str (S (flat ps))) k told) (W : Wor h n SG M mD N nD w low high up) (hk : k ≤ 800) (htl : told.length ≤ 100) {arg : V} {r : List V} (ea : h[a]? = some (.lst (arg :: .tup [.str "mem", .int 1] :: r))) (han : a < n) (hr : r.length ≤ 2) (hv : NameV arg ("f1" : Str))
  (start finish : Int) (hs : ArgW (arg :: .tup [.str "mem", .int 1] :: r) 2 low start) (hf : ArgW (arg :: .tup [.str "mem", .int 1] :: r) 3 high finish) (hs1 : low ≤ start) (hs2 : start ≤ high) (hf1 : low ≤ finish) (hf2 : finish ≤ high)
  (hg : ∀ r ∈ (rd ps).1, ∀ g, r.1 = some g → min start finish ≤ (g : Int) ∧ (g : Int) ≤ max start finish) (task : Str) :
  Run ((nx (nx (nx (nx (nx O))))).fn 28 [.ref (n + 4), .str task, .str (bas hex), .ref a, .ref (n + 4)] h)
   (fun v h' => v = .none ∧ ∃ k', Ker h' n (.ref SG) (.str (S (flat ps))) k' (told ++ (plc (min start finish) (max start finish) (stepOf start finish) start (rd ps).1).1.map (toldV hex w low high up)) ∧ Same [n + 16, n + 17, n + 18] h h') NoX := by
 refine f28_head O x W (by kd_p) hk ea han hr hv task _ _ fun h1 x1 W1 ea1 S1 => ?_
 refine f28_sf O x1 W1 (by kd_p) ea1 han (by simp; kd_p) start finish hs hf task _ _ fun h2 k2 hk2 x2 W2 ea2 S2 => ?_
 refine (f28_set O ps ok hfl hpl hw1 hw9 hds x2 W2 htl start finish hs1 hs2 hf1 hf2 hg task).post fun q h3 z => ?_
 obtain ⟨q, l⟩ := q
 cases q with
 | next =>
  obtain ⟨e, xk, ss⟩ := z
  exact ⟨e, k2, xk, (S1.trans S2).trans ss⟩
 | ret v =>
  obtain ⟨e, xk, ss⟩ := z
  exact ⟨e, k2, xk, (S1.trans S2).trans ss⟩
noncomputable def Ref (h : H) (n : Nat) (sg text : V) (told : List V) (C0 : Nat) (kd0 : Str) (C : Nat) (kd : Str) (h' : H) : Prop := C = C0 ∧ kd = kd0 ∧ ∃ k', Ker h' n sg text k' told ∧ Same [n + 16, n + 17, n + 18] h h'
theorem f28_b0 (O : Orc) {sg : V} (x : Ker h n sg text k told) (hk : k ≤ 800) (ea : h[a]? = some (.lst xs)) (hxl : xs.length ≤ 100) (hv : xs = [] ∨ ∃ r, xs = .tup [.str "none"] :: r) (task : Str) (b : V) :
  Run ((nx (nx (nx (nx (nx O))))).fn 28 [.ref (n + 4), .str task, b, .ref a, .ref (n + 4)] h) (fun _ _ => False) (Ref h n sg text told eDesign "wrong_arguments") := by
 rw [r28]
 refine g_end ?_
 unfold b28
 wp_walk
 exact (f14_bad (nx O) x (by kd_p) ea hxl hv task (.ref (n + 4))).mono (fun _ _ f => f.elim) fun C kd h' ⟨e1, e2, e3, e4⟩ => ⟨e1, e2, k + 1, e3, e4.mono fun i hi => .tail _ hi⟩
theorem f28_b2 (O : Orc) {sg : V} (x : Ker h n sg text k told) (hk : k ≤ 800) {arg : V} {r : List V} (ea : h[a]? = some (.lst (arg :: r))) (han : a < n) (hr : r.length ≤ 10) (hv : NameV arg ("f1" : Str)) (hbad : r = [] ∨ r.length = 4 ∨ ∃ y r', r = .tup (.str "e" :: y) :: r') (task : Str) (b : V) :
  Run ((nx (nx (nx (nx (nx O))))).fn 28 [.ref (n + 4), .str task, b, .ref a, .ref (n + 4)] h) (fun _ _ => False) (Ref h n sg text told eDesign "wrong_arguments") := by
 rw [r28]
 refine g_end ?_
 unfold b28
 wp_walk
 refine (f14 (nx O) x (by kd_p) ea (by kd_p) hv (.str task) (.ref (n + 4))).post fun v h1 z => ?_
 obtain ⟨e1, x1, s1⟩ := z
 subst e1
 have S1 : Same [n + 16, n + 17, n + 18] h h1 := s1.mono fun i hi => .tail _ hi
 have ea1 := S1 a _ (out3 han) ea
 have hlen := l_len ea1 (by simp; kd_p)
 refine g_ite ?_
 have ht : tr (nx (nx (nx (nx O)))) [] (.bop .Or [(.cmp .Lt (.bf .len [(.l 3)]) (.k (V.int 2))), (.cmp .Gt (.bf .len [(.l 3)]) (.k (V.int 4))), (.cmp .NotEq (.sub (.sub (.l 3) (.k (V.int 1))) (.k (V.int 0))) (.k (V.str ("mem" : Str))))])
   [some (.ref (n + 4)), some (.str task), some b, some (.ref a), some (.ref (n + 4)), some (.str "f1"), none, none, none, none, none, none, none, none, none, none] h1 = .ok true h1 := by
  rcases hbad with rfl | h4 | ⟨y, r', rfl⟩
  ·have c1 : decide ((([arg].length : Nat) : Int) < 2) = true := rfl
   row_walk with ⟨hlen, c1⟩
  ·have c1 : decide ((((arg :: r).length : Nat) : Int) < 2) = false := dF (by simp; kd_p)
   have c2 : decide (4 < (((arg :: r).length : Nat) : Int)) = true := dT (by simp; kd_p)
   row_walk with ⟨hlen, c1, c2⟩
  ·by_cases h4 : 4 < (((arg :: .tup (.str "e" :: y) :: r').length : Nat) : Int)
   ·have c1 : decide ((((arg :: .tup (.str "e" :: y) :: r').length : Nat) : Int) < 2) = false := dF (by kd_p)
    row_walk with ⟨hlen, c1, dT h4⟩
   ·have c1 : decide ((((arg :: .tup (.str "e" :: y) :: r').length : Nat) : Int) < 2) = false := dF (by simp; kd_p)
    row_walk with ⟨hlen, c1, dF h4, l_s1 ea1, nemem⟩
 rw [ht]
 refine Run.ok ⟨fun _ => ?_, fun q => (by cases q)⟩
 simp only [List.cons_append, List.nil_append]
 wp_walk
 exact ⟨_, _, _, rfl, rfl, rfl, k + 1, x1, S1⟩
theorem f28_args (O : Orc) {sg : V} (x : Ker h n sg text k told) (hk : k ≤ 800) {arg : V} {key : Int} {r : List V} {fname : Str} (ea : h[a]? = some (.lst (arg :: .tup [.str "mem", .int key] :: r))) (han : a < n) (hr : r.length ≤ 2) (hv : NameV arg fname) (task : Str) (b : V) (Q : V → H → Prop) (X : Nat → Str → H → Prop)
  (y : ∀ h', Ker h' n sg text (k + 1) told → h'[a]? = some (.lst (arg :: .tup [.str "mem", .int key] :: r)) → Same [n + 16, n + 17, n + 18] h h' →
   Run (xss (nx (nx (nx (nx O)))) [] 4096 (b28.code.drop 2) [some (.ref (n + 4)), some (.str task), some b, some (.ref a), some (.ref (n + 4)), some (.str fname), none, none, none, none, none, none, none, none, none, none] h') (End Q) X) :
  Run ((nx (nx (nx (nx (nx O))))).fn 28 [.ref (n + 4), .str task, b, .ref a, .ref (n + 4)] h) Q X := by
 rw [r28]
 refine g_end ?_
 show Run (xss _ [] 4096 (.asg 5 (.call 14 [(.l 0), (.l 1), (.l 3), (.l 4)]) ::
 .ite (.bop .Or [(.cmp .Lt (.bf .len [(.l 3)]) (.k (V.int 2))), (.cmp .Gt (.bf .len [(.l 3)]) (.k (V.int 4))), (.cmp .NotEq (.sub (.sub (.l 3) (.k (V.int 1))) (.k (V.int 0))) (.k (V.str ("mem" : Str))))]) [
  .rai eDesign [(.k (V.str ("wrong_arguments" : Str))), (.neg (.k (V.int 1))), (.l 1)]] [] :: b28.code.drop 2) _ _) _ _
 wp_walk
 refine (f14 (nx O) x (by kd_p) ea (by simp; kd_p) hv (.str task) (.ref (n + 4))).post fun v h1 z => ?_
 obtain ⟨e1, x1, s1⟩ := z
 subst e1
 have S1 : Same [n + 16, n + 17, n + 18] h h1 := s1.mono fun i hi => .tail _ hi
 have ea1 := S1 a _ (out3 han) ea
 have c1 : decide ((((arg :: V.tup [.str "mem", .int key] :: r).length : Nat) : Int) < 2) = false := dF (by simp; kd_p)
 have c2 : decide (4 < (((arg :: V.tup [.str "mem", .int key] :: r).length : Nat) : Int)) = false := dF (by simp; kd_p)
 have hlen := l_len ea1 (by simp; kd_p)
 refine g_ite ?_
 have ht : tr (nx (nx (nx (nx O)))) [] (.bop .Or [(.cmp .Lt (.bf .len [(.l 3)]) (.k (V.int 2))), (.cmp .Gt (.bf .len [(.l 3)]) (.k (V.int 4))), (.cmp .NotEq (.sub (.sub (.l 3) (.k (V.int 1))) (.k (V.int 0))) (.k (V.str ("mem" : Str))))])
   [some (.ref (n + 4)), some (.str task), some b, some (.ref a), some (.ref (n + 4)), some (.str fname), none, none, none, none, none, none, none, none, none, none] h1 = .ok false h1 := by
  row_walk with ⟨hlen, c1, c2, l_s1 ea1, memmem⟩
 rw [ht]
 refine Run.ok ⟨fun q => (by cases q), fun _ => ?_⟩
 simp only [List.nil_append]
 exact y h1 x1 ea1 S1
noncomputable def cArgs : List St := [.ite (.cmp .NotIn (.l 5) (.att (.l 0) ("files" : Str))) [
  .rai eFormat [(.k (V.str ("unknown_file" : Str))), (.neg (.k (V.int 1))), (.l 5)]] [],
 .asg 6 (.sub (.sub (.l 3) (.k (V.int 1))) (.k (V.int 1))),
 .asg 7 (.sub (.att (.att (.l 0) ("store" : Str)) ("signals" : Str)) (.l 6)),
 .ite (.mc cSignal 22 ("is_net" : Str) (.l 7) []) [
  .rai eDesign [(.k (V.str ("assign_to_net" : Str))), (.neg (.k (V.int 1))), (.l 1)]] []]
theorem f28_b8 (O : Orc) {sg : V} (x : Ker h n sg text k told) (hk : k ≤ 800) {r : List V} {key : Int} (ea : h[a]? = some (.lst (.tup [.str "s", .str "f2"] :: .tup [.str "mem", .int key] :: r))) (han : a < n) (hr : r.length ≤ 2) (task : Str) (b : V) :
  Run ((nx (nx (nx (nx (nx O))))).fn 28 [.ref (n + 4), .str task, b, .ref a, .ref (n + 4)] h) (fun _ _ => False) (Ref h n sg text told eFormat "unknown_file") := by
 refine f28_args O x hk ea han hr (.s "f2") task b _ _ fun h1 x1 ea1 S1 => ?_
 show Run (xss _ [] 4096 (.ite (.cmp .NotIn (.l 5) (.att (.l 0) ("files" : Str))) [
  .rai eFormat [(.k (V.str ("unknown_file" : Str))), (.neg (.k (V.int 1))), (.l 5)]] [] :: b28.code.drop 3) _ _) _ _
 wp_walk using x1.kern.a_files, in_files2 x1.kern
 wp_walk
 exact ⟨_, _, _, rfl, rfl, rfl, k + 1, x1, S1⟩
theorem l_s2 {r : Nat} {u v q : V} {xs : List V} {h : H} (e1 : h[r]? = some (.lst (u :: v :: q :: xs))) : subV (.ref r) (.int 2) h = .ok q h := l_sub (i := 2) e1 rfl (by decide)
theorem f28_b9 (O : Orc) (x : Ker h n (.ref SG) text k told) (W : Wor h n SG M mD N nD w low high up) (hk : k ≤ 800) {arg : V} {r : List V} (ea : h[a]? = some (.lst (arg :: .tup [.str "mem", .int 2] :: r))) (han : a < n) (hr : r.length ≤ 2) (hv : NameV arg ("f1" : Str)) (task : Str) (b : V) :
  Run ((nx (nx (nx (nx (nx O))))).fn 28 [.ref (n + 4), .str task, b, .ref a, .ref (n + 4)] h) (fun _ _ => False) (Ref h n (.ref SG) text told eDesign "assign_to_net") := by
 refine f28_args O x hk ea han hr hv task b _ _ fun h1 x1 ea1 S1 => ?_
 have W1 := W.same S1 in3
 obtain ⟨A, hA⟩ := W1.sg
 have hnet := isNet_wire
 show Run (xss _ [] 4096 (cArgs ++ b28.code.drop 6) _ _) _ _
 unfold cArgs
 simp only [List.cons_append, List.nil_append]
 wp_walk using x1.kern.a_files, in_files x1.kern
 wp_walk using l_s1 ea1
 wp_walk using x1.kern.a_store, x1.kern.a_signals, l_s2 hA
 wp_walk using W1.nn.g_net, f22 (nx (nx O)) W1.nn, hnet
 wp_walk
 exact ⟨_, _, _, rfl, rfl, rfl, k + 1, x1, S1⟩
end
section
variable {h : H} {n SG M mD N nD w k a : Nat} {low high : Int} {up hex : Bool} {text : V} {told : List V} {xs : List V}
theorem s3to (h h1 : H) (s : Same [n + 17, n + 18] h h1) : Same [n + 16, n + 17, n + 18] h h1 := s.mono fun i hi => .tail _ hi
theorem f28_b5 (O : Orc) (x : Ker h n (.ref SG) text k told) (W : Wor h n SG M mD N nD w low high up) (hlh : low ≤ high) (hk : k ≤ 800) {arg q : V} (ea : h[a]? = some (.lst [arg, .tup [.str "mem", .int 1], q])) (han : a < n) (hv : NameV arg ("f1" : Str)) (task : Str)
  (hq : q = .tup [.str "e", .tup [.str "const", .int 8, .int 0, .int 1], .bool true] ∨ q = .tup [.str "s", .str "0"]) :
  Run ((nx (nx (nx (nx (nx O))))).fn 28 [.ref (n + 4), .str task, .str (bas hex), .ref a, .ref (n + 4)] h) (fun _ _ => False) (Ref h n (.ref SG) text told eDesign "wrong_arguments") := by
 refine f28_head O x W hlh hk ea han (by simp) hv task _ _ fun h1 x1 W1 ea1 S1 => ?_
 show Run (xss _ [] 4096 (.asg 10 (.call 15 [(.l 0), (.l 1), (.l 3), (.k (V.int 2)), (.l 8), (.l 4)]) :: cLoad1.drop 1) _ _) _ _
 wp_walk
 rcases hq with rfl | rfl
 ·refine (f15_e (nx (nx O)) (p := 2) (w := 8) (aa := 0) (b := 1) (s := true) x1 (by kd_p) ea1 (by simp) rfl (by decide) (by decide) (by decide) (by kd_p) (.inr rfl) task (.int low) (.ref (n + 4))).mono (fun v h2 ⟨q, _⟩ => by cases q) fun C kd h2 ⟨_, e1, e2, x2, s2⟩ => ⟨e1, e2, k + 1 + 1, x2, S1.trans (s3to _ _ s2)⟩
 ·refine (f15_s (nx (nx O)) (p := 2) ea1 (by simp) rfl (by decide) task (.int low) (.ref (n + 4))).mono (fun v h2 f => f.elim) fun C kd h2 ⟨e1, e2, e3⟩ => ⟨e1, e2, k + 1, by rw [e3]; exact x1, by rw [e3]; exact S1⟩
theorem f28_b7 (O : Orc) (x : Ker h n (.ref SG) text k told) (W : Wor h n SG M mD N nD w low high up) (hlh : low ≤ high) (hk : k ≤ 800) {arg : V} (ea : h[a]? = some (.lst [arg, .tup [.str "mem", .int 1], .tup [.str "none"], .tup [.str "e", .tup [.str "const", .int 8, .int 0, .int 1], .bool true]])) (han : a < n) (hv : NameV arg ("f1" : Str)) (task : Str) :
  Run ((nx (nx (nx (nx (nx O))))).fn 28 [.ref (n + 4), .str task, .str (bas hex), .ref a, .ref (n + 4)] h) (fun _ _ => False) (Ref h n (.ref SG) text told eDesign "wrong_arguments") := by
 refine f28_head O x W hlh hk ea han (by simp) hv task _ _ fun h1 x1 W1 ea1 S1 => ?_
 show Run (xss _ [] 4096 (.asg 10 (.call 15 [(.l 0), (.l 1), (.l 3), (.k (V.int 2)), (.l 8), (.l 4)]) :: .asg 11 (.call 15 [(.l 0), (.l 1), (.l 3), (.k (V.int 3)), (.l 9), (.l 4)]) :: cLoad1.drop 2) _ _) _ _
 wp_walk
 rw [show (nx (nx (nx (nx O)))).fn 15 [.ref (n + 4), .str task, .ref a, .int 2, .int low, .ref (n + 4)] h1 = .ok (.int low) h1 from f15_usual (nx (nx (nx O))) (p := 2) ea1 (by simp) (.inr rfl) (by decide) _ _ _]
 refine Run.ok (g_asg ?_)
 row_walk
 exact (f15_e (nx (nx O)) (p := 3) (w := 8) (aa := 0) (b := 1) (s := true) x1 (by kd_p) ea1 (by simp) rfl (by decide) (by decide) (by decide) (by kd_p) (.inr rfl) task (.int high) (.ref (n + 4))).mono (fun v h2 ⟨q, _⟩ => by cases q) fun C kd h2 ⟨_, e1, e2, x2, s2⟩ => ⟨e1, e2, k + 1 + 1, x2, S1.trans (s3to _ _ s2)⟩
theorem f28_b10 (O : Orc) (x : Ker h n (.ref SG) text k told) (W : Wor h n SG M mD N nD w low high up) (hlh : low ≤ high) (hk : k ≤ 800) {arg : V} {r : List V} (ea : h[a]? = some (.lst (arg :: .tup [.str "mem", .int 1] :: r))) (han : a < n) (hr : r.length ≤ 2) (hv : NameV arg ("f1" : Str)) (task : Str) (start finish : Int)
  (hs : ArgW (arg :: .tup [.str "mem", .int 1] :: r) 2 low start) (hf : ArgW (arg :: .tup [.str "mem", .int 1] :: r) 3 high finish) (hout : min start finish < low ∨ high < max start finish) :
  Run ((nx (nx (nx (nx (nx O))))).fn 28 [.ref (n + 4), .str task, .str (bas hex), .ref a, .ref (n + 4)] h) (fun _ _ => False) (Ref h n (.ref SG) text told eFormat "address_out_of_range") := by
 refine f28_head O x W hlh hk ea han hr hv task _ _ fun h1 x1 W1 ea1 S1 => ?_
 refine f28_sf O x1 W1 (by kd_p) ea1 han (by simp; kd_p) start finish hs hf task _ _ fun h2 k2 hk2 x2 W2 ea2 S2 => ?_
 show Run (xss _ [] 4096 (.ite (.bop .Or [(.cmp .Lt (.bf .min [(.l 10), (.l 11)]) (.l 8)), (.cmp .Gt (.bf .max [(.l 10), (.l 11)]) (.l 9))]) [
  .rai eFormat [(.k (V.str ("address_out_of_range" : Str))), (.neg (.k (V.int 1))), (.l 5)]] [] :: cLoad1.drop 3) _ _) _ _
 refine g_ite ?_
 by_cases c1 : min start finish < low
 ·row_walk with ⟨dT c1⟩
  wp_walk
  exact ⟨_, _, _, rfl, rfl, rfl, k2, x2, S1.trans S2⟩
 ·have c2 : high < max start finish := hout.resolve_left c1
  row_walk with ⟨dF c1, dT c2⟩
  wp_walk
  exact ⟨_, _, _, rfl, rfl, rfl, k2, x2, S1.trans S2⟩
theorem f28_b12 (O : Orc) (ps : List Pc) (ok : OkPs hex ps) (hfl : (flat ps).length ≤ 4000) (hpl : ps.length ≤ 500) (x : Ker h n (.ref SG) (.str (S (flat ps))) k told) (W : Wor h n SG M mD N nD w low high up) (hlh : low ≤ high) (hk : k ≤ 800) {arg : V} {r : List V} (ea : h[a]? = some (.lst (arg :: .tup [.str "mem", .int 1] :: r))) (han : a < n) (hr : r.length ≤ 2) (hv : NameV arg ("f1" : Str)) (task : Str) (start finish : Int)
  (hs : ArgW (arg :: .tup [.str "mem", .int 1] :: r) 2 low start) (hf : ArgW (arg :: .tup [.str "mem", .int 1] :: r) 3 high finish) (hs1 : low ≤ start) (hs2 : start ≤ high) (hf1 : low ≤ finish) (hf2 : finish ≤ high)
  {g : Nat} {ds : List Nat} {rows : List Row} (hrd : (rd ps).1 = (some g, ds) :: rows) (hg : high < (g : Int)) :
  Run ((nx (nx (nx (nx (nx O))))).fn 28 [.ref (n + 4), .str task, .str (bas hex), .ref a, .ref (n + 4)] h) (fun _ _ => False) (Ref h n (.ref SG) (.str (S (flat ps))) told eFormat "address_out_of_range") := by
 refine f28_head O x W hlh hk ea han hr hv task _ _ fun h1 x1 W1 ea1 S1 => ?_
 refine f28_sf O x1 W1 (by kd_p) ea1 han (by simp; kd_p) start finish hs hf task _ _ fun h2 k2 hk2 x2 W2 ea2 S2 => ?_
 show Run (xss _ [] 4096 (.ite (.bop .Or [(.cmp .Lt (.bf .min [(.l 10), (.l 11)]) (.l 8)), (.cmp .Gt (.bf .max [(.l 10), (.l 11)]) (.l 9))]) [
  .rai eFormat [(.k (V.str ("address_out_of_range" : Str))), (.neg (.k (V.int 1))), (.l 5)]] [] :: .asg 12 (.call 19 [(.sub (.att (.l 0) ("files" : Str)) (.l 5)), (.cmp .Eq (.l 2) (.k (V.str ("h" : Str))))]) :: cLoad1.drop 4) _ _) _ _
 have d1 : decide (min start finish < low) = false := dF (by kd_p)
 have d2 : decide (high < max start finish) = false := dF (by kd_p)
 wp_walk using d1, d2
 wp_walk using x2.kern.a_files, d_files x2.kern, bas_h, f19 (nx (nx O)) hex ps _ ok hfl (by kd_p)
 have hrw : (h2 ++ [LO.lst (rowsV ps)])[h2.length]? = some (.lst ((rd ps).1.map rowV)) := hget0 _ _
 rw [hrd] at hrw
 have e16 := f16_bad (nx (nx (nx O))) hrw start finish (by kd_p)
 show Run (xss _ [] 4096 [.forT [13, 14] (.call 16 [(.l 12), (.l 10), (.l 11)]) [
  .asg 15 (.sub (.call 10 [(.tup [(.bf .str [(.att (.l 7) ("width" : Str))]), (.l 2), (.k (V.bool false)), (.l 14)]), (.neg (.k (V.int 1)))]) (.k (V.int 0))),
  .ex (.mi ("set_word" : Str) (.l 0) [(.l 6), (.mc cSignal 24 ("place" : Str) (.l 7) [(.l 13)]), (.l 15)])]] _ _) _ _
 refine g_seq (P := fun _ _ => False) ?_ fun _ _ f => f.elim
 refine Run.bind ?_
 row_walk
 refine e16.mono (fun v h3 f => f.elim) fun C kd h3 ⟨e1, e2, e3⟩ => ⟨e1, e2, k2, ?_, ?_⟩
 ·rw [e3]; exact (x2.app _).app _
 ·rw [e3, List.append_assoc]; exact (S1.trans S2).trans (Same.app _ _ _)
end
theorem eqv_self {xs : List V} (hp : plainL xs = true) : PyData.eqvAll (V.pys xs) (V.pys xs) = true :=
 SeqAt.eqvAll_refl _ (canLays_of xs (Bool.and_eq_true_iff.mp hp).1).1
theorem e_lst {i j : Nat} {xs : List V} {h : H} (e1 : h[i]? = some (.lst xs)) (e2 : h[j]? = some (.lst xs)) (hp : plainL xs = true) : eqV h (.ref i) (.ref j) = some true := by
 show (lst? h i).bind (fun xs => (lst? h j).bind fun ys => if plainL xs && plainL ys then some (PyData.eqv (.list (V.pys xs)) (.list (V.pys ys))) else none) = _
 rw [lst_eq e1, lst_eq e2, Option.bind_some, Option.bind_some, hp, if_pos (show (true && true) = true from rfl)]
 exact congrArg some (eqv_self hp)
theorem e_tup {xs : List V} {h : H} (hp : plainL xs = true) : eqV h (.tup xs) (.tup xs) = some true := by
 show (if plainL xs && plainL xs then some (PyData.eqv (.tuple (V.pys xs)) (.tuple (V.pys xs))) else none) = _
 rw [hp, if_pos (show (true && true) = true from rfl)]
 exact congrArg some (eqv_self hp)
theorem plain_all {xs : List V} (d : Nat) (hd : d ≤ 20) (h : ∀ x ∈ xs, x.plain = true ∧ x.dep ≤ d) : plainL xs = true := by
 unfold plainL
 rw [Bool.and_eq_true]
 have key : ∀ ys : List V, (∀ x ∈ ys, x.plain = true ∧ x.dep ≤ d) → V.plains ys = true ∧ V.deps ys ≤ d := by
  intro ys
  induction ys with
  | nil => intro _; exact ⟨rfl, Nat.zero_le _⟩
  | cons y ys ih =>
   intro hy
   obtain ⟨a, b⟩ := hy y (.head _)
   obtain ⟨c, e⟩ := ih fun x hx => hy x (.tail _ hx)
   exact ⟨Bool.and_eq_true_iff.mpr ⟨a, c⟩, Nat.max_le.mpr ⟨b, e⟩⟩
 obtain ⟨a, b⟩ := key xs h
 exact ⟨a, decide_eq_true (by kd_p)⟩
theorem plain_cnts (k : Nat) : plainL (cnts k) = true := plain_all 0 (by decide) fun x hx => by
 unfold cnts at hx
 obtain ⟨i, _, rfl⟩ := List.mem_map.mp hx
 exact ⟨rfl, Nat.le_refl _⟩
theorem plain_told (hex : Bool) (w : Nat) (low high : Int) (up : Bool) (ps : List (Int × List Nat)) : plainL (ps.map (toldV hex w low high up)) = true := plain_all 2 (by decide) fun x hx => by
 obtain ⟨p, _, rfl⟩ := List.mem_map.mp hx
 exact ⟨rfl, Nat.le_of_ble_eq_true rfl⟩
theorem g_try {O : Orc} {cs : List Nat} {N : Nat} {loc : Loc} {h : H} {Q : Fl × Loc → H → Prop} {X : Nat → Str → H → Prop} {r : List St} {e : Ex} {x i : Nat} {hs : List (Nat × Str)}
  (z : Run (ev O cs e loc h) (fun _ h => Run (xss O cs N r loc h) Q X) (fun C k h => ∃ s, hs.lookup C = some s ∧ Run (xss O cs N r ((loc.set i (some (.tup [.str s, .str k]))).set x none) h) Q X)) : Run (xss O cs N (.tryE e x i hs :: r) loc h) Q X := by
 rw [xss_cons, show xs1 O cs N (.tryE e x i hs) loc h = (match ev O cs e loc h with
  | .ok _ h => .ok (.next, loc) h
  | .bad => .bad
  | .exc C k h => (hs.lookup C).elim .bad fun s => .ok (.next, (loc.set i (some (.tup [.str s, .str k]))).set x none) h) from rfl]
 rcases z with ⟨v, h', e1, q⟩ | ⟨C, k, h', e1, s, e2, q⟩
 ·rw [e1]; exact q
 ·rw [e1]
  dsimp only
  rw [e2]
  exact q
theorem kern_new (g : H) (n : Nat) (hn : g.length = n) (sg text : V) : Ker (g ++ kL n sg text) n sg text 0 [] :=
 ⟨⟨hg0 hn _, hgn hn 4 _, hgn hn 3 _, hgn hn 11 _, hgn hn 10 _, hgn hn 15 _⟩, hgn hn 16 _, hgn hn 17 _, hgn hn 18 _⟩
theorem f34 (O : Orc) {h : H} {m n : Nat} (e0 : h[0]? = some (.tab m)) (hn : h.length = n) (sg text task base handed : V) (C0 : Nat) (kd0 cls : Str) (hcls : ([(eDesign, ("design" : Str)), (eFormat, ("format" : Str))] : List (Nat × Str)).lookup C0 = some cls) (hkd : PyData.strOk kd0 = true) (hc : PyData.strOk cls = true)
  (hload : ∀ g, Ker g n sg text 0 [] → Same [0] h g → Run ((nx (nx (nx (nx (nx O))))).fn 28 [.ref (n + 4), task, base, handed, .ref (n + 4)] g) (fun _ _ => False) (Ref g n sg text [] C0 kd0)) :
  Run ((nx (nx (nx (nx (nx (nx O)))))).fn 34 [sg, text, task, base, handed] h) (fun v h' => v = .tup [.str cls, .str kd0] ∧ Same [0, n + 16, n + 17, n + 18] h h' ∧ ∃ m', h'[0]? = some (.tab m')) NoX := by
 rw [r34]
 refine g_end ?_
 unfold b34
 have e33 := f33 (nx (nx (nx O))) e0 sg text n hn
 wp_walk using e33
 have hx : h.set 0 (.tab (Nat.max m 3)) ++ kL n sg text = h.set 0 (.tab (Nat.max m 3)) ++ kL n sg text := rfl
 have ker := kern_new (h.set 0 (.tab (Nat.max m 3))) n (by simpa using hn) sg text
 have hs : Same [0] h (h.set 0 (.tab (Nat.max m 3)) ++ kL n sg text) := (Same.set h (.head _) _).trans (Same.app _ _ _)
 have ht : (h.set 0 (.tab (Nat.max m 3)) ++ kL n sg text)[0]? = some (.tab (Nat.max m 3)) := ga_ (gs0 e0)
 generalize h.set 0 (.tab (Nat.max m 3)) ++ kL n sg text = g at ker hs ht
 wp_walk
 refine g_try ?_
 row_walk
 refine (hload g ker hs).mono (fun _ _ f => f.elim) fun C kd h1 z => ?_
 obtain ⟨rfl, rfl, k', xk, ss⟩ := z
 refine ⟨cls, hcls, ?_⟩
 have hn18 : n + 18 < h1.length := (List.getElem?_eq_some_iff.mp xk.back).1
 have hnew : (h1 ++ [LO.lst []])[h1.length]? = some (.lst []) := hget0 _ _
 have q1 : eqV (h1 ++ [LO.lst []]) (.ref (n + 16)) (.ref h1.length) = some true := e_lst (ga_ xk.told) hnew rfl
 have xk2 := (xk.app [LO.lst []])
 have q2 : eqV (h1 ++ [LO.lst []]) (.ref (n + 17)) (.ref (n + 18)) = some true := e_lst xk2.lent xk2.back (plain_cnts k')
 wp_walk using xk.kern.a_told, newM_eq, q1, xk2.kern.a_lent, xk2.kern.a_back, q2
 refine ⟨?_, _, ga_ (ss _ _ (by simp) ht)⟩
 exact ((hs.mono fun i hi => List.mem_singleton.mp hi ▸ .head _).trans (ss.mono fun i hi => .tail _ hi)).trans (Same.app _ _ _)
theorem Run.get {α : Type} {r : Res α} {Q : α → H → Prop} (x : Run r Q NoX) : ∃ a h, r = .ok a h ∧ Q a h := by
 rcases x with x | ⟨_, _, _, _, f⟩
 ·exact x
 ·exact f.elim
noncomputable def Pool (h : H) (p : Nat) : Prop := ∃ p0 rest, h[p]? = some (.lst (plL p0 rest)) ∧ 0 ≤ p0 ∧ p0 < 65537 ∧ rest.length ≤ 60
theorem draw (O : Orc) {h : H} {p : Nat} (x : Pool h p) (n : Int) (n1 : 1 ≤ n) (n2 : n ≤ 1000) :
  ∃ d h', (nx O).fn 30 [.ref p, .int n] h = .ok (.int d) h' ∧ 0 ≤ d ∧ d < n ∧ Pool h' p ∧ Same [p] h h' ∧ h'.length = h.length := by
 obtain ⟨p0, rest, e, a, b, c⟩ := x
 obtain ⟨v, h', e1, d, p0', rest', rfl, d1, d2, a', b', c', rfl⟩ := (f30 O n e a b c n1 n2).get
 exact ⟨d, _, e1, d1, d2, ⟨p0', rest', gs0 e, a', b', c'⟩, Same.set h (.head _) _, by simp⟩
theorem Pool.same {h h' : H} {p : Nat} (x : Pool h p) {L : List Nat} (s : Same L h h') (hp : p ∉ L) : Pool h' p := by
 obtain ⟨p0, rest, e, r⟩ := x
 exact ⟨p0, rest, s _ _ hp e, r⟩
structure LawW (h : H) (p n m w : Nat) (low high : Int) (up : Bool) : Prop where
 tab : h[0]? = some (.tab m)
 pool : Pool h p
 lt : 0 < p ∧ p < n
 d : h[n + 1]? = some (.ins cDesign n)
 dd : h[n]? = some (.dct (desD (n + 2)))
 sg : h[n + 2]? = some (.lst [.ref (n + 13), .ref (n + 15), .ref (n + 17)])
 m : SigAt h (n + 15) (n + 14) 1 "top.m" "reg" w (.int (if up then low else high)) (.int (if up then high else low))
 nn : SigAt h (n + 17) (n + 16) 2 "top.n" "wire" w (.int low) (.int high)
section
variable {h h' : H} {p n m w : Nat} {low high : Int} {up : Bool}
theorem LawW.same (x : LawW h p n m w low high up) {L : List Nat} (s : Same L h h') (hp : Pool h' p) (hL : ∀ i ∈ L, i = p ∨ n + 18 ≤ i) : LawW h' p n m w low high up := by
 obtain ⟨l1, l2⟩ := x.lt
 have key : ∀ k y, k < 18 → h[n + k]? = some y → h'[n + k]? = some y := fun k y hk e => s _ y (fun q => (hL _ q).elim (fun e => absurd e.symm (ne_at l2 k)) fun e => absurd (Nat.le_of_add_le_add_left e) (Nat.not_le.mpr hk)) e
 exact ⟨s 0 _ (fun q => (hL 0 q).elim (Nat.ne_of_lt l1) fun e => absurd e (Nat.not_succ_le_zero _)) x.tab, hp, x.lt, key _ _ (by decide) x.d, key 0 _ (by decide) x.dd, key _ _ (by decide) x.sg,
  ⟨key _ _ (by decide) x.m.i, key _ _ (by decide) x.m.d⟩, ⟨key _ _ (by decide) x.nn.i, key _ _ (by decide) x.nn.d⟩⟩
theorem LawW.dr (x : LawW h p n m w low high up) (s : Same [p] h h') (hp : Pool h' p) : LawW h' p n m w low high up := x.same s hp fun i hi => .inl (List.mem_singleton.mp hi)
theorem LawW.oth (x : LawW h p n m w low high up) {L : List Nat} (s : Same L h h') (hL : ∀ i ∈ L, n + 18 ≤ i) : LawW h' p n m w low high up :=
 x.same s (x.pool.same s fun q => absurd (hL p q) (Nat.not_le.mpr (lt_at x.lt.2 18))) fun i hi => .inr (hL i hi)
theorem LawW.tab' (x : LawW h p n m w low high up) (m' : Nat) (s : Same [0] h h') (e : h'[0]? = some (.tab m')) : LawW h' p n m' w low high up := by
 obtain ⟨l1, l2⟩ := x.lt
 have key : ∀ k y, h[n + k]? = some y → h'[n + k]? = some y := fun k y e => s _ y (nm1 (Nat.ne_of_gt (lt_at (Nat.lt_trans l1 l2) k))) e
 exact ⟨e, x.pool.same s (nm1 (Nat.ne_of_gt l1)), x.lt, key _ _ x.d, key 0 _ x.dd, key _ _ x.sg,
  ⟨key _ _ x.m.i, key _ _ x.m.d⟩, ⟨key _ _ x.nn.i, key _ _ x.nn.d⟩⟩
theorem LawW.sigs (x : LawW h p n m w low high up) : attV (.ref (n + 1)) ("signals" : Str) h = .ok (.ref (n + 2)) h := a_get x.d x.dd rfl
theorem LawW.wor (x : LawW h p n m w low high up) (k : Nat) (hk : n + 18 ≤ k) : Wor h k (n + 2) (n + 15) (n + 14) (n + 17) (n + 16) w low high up :=
 ⟨⟨_, x.sg⟩, x.m, x.nn, five hk⟩
end
noncomputable def cA : List St := [.asg 1 (.call 29 [(.l 0)]),
 .asg 2 (.bin .Add (.k (V.int 1)) (.call 30 [(.l 1), (.k (V.int 5))])),
 .asg 3 (.bin .Sub (.call 30 [(.l 1), (.k (V.int 4))]) (.k (V.int 1))),
 .asg 4 (.cmp .Eq (.call 30 [(.l 1), (.k (V.int 2))]) (.k (V.int 1))),
 .asg 5 (.cmp .Eq (.call 30 [(.l 1), (.k (V.int 2))]) (.k (V.int 1))),
 .asg 6 (.bin .Add (.k (V.int 1)) (.call 30 [(.l 1), (.k (V.int 9))])),
 .asg 7 (.call 30 [(.l 1), (.k (V.int 8))]),
 .asg 8 (.bin .Sub (.bin .Add (.l 3) (.l 2)) (.k (V.int 1)))]
theorem d1_ge {d : Int} {k : Nat} (a : 0 ≤ d) (e : 1 + d = (k : Int)) : 1 ≤ k := Int.ofNat_le.mp (by rw [← e]; exact Int.le_add_of_nonneg_right a)
theorem d1_le {d : Int} {k m : Nat} (b : d < (m : Int)) (e : 1 + d = (k : Int)) : k ≤ m := Int.ofNat_le.mp (by rw [← e, Int.add_comm]; exact b)
theorem lawA (O : Orc) {h : H} {m : Nat} {ns : List Int} (e0 : h[0]? = some (.tab m)) (hl : ns.length ≤ 63) (Q : Fl × Loc → H → Prop) (X : Nat → Str → H → Prop) (r : List St)
  (y : ∀ (h' : H) (p n many w cnt : Nat) (low high : Int) (up hex : Bool), LawW h' p n m w low high up → n + 18 ≤ h'.length → 1 ≤ many → many ≤ 5 → -1 ≤ low → low ≤ 2 → high = low + many - 1 → 1 ≤ w → w ≤ 9 → cnt ≤ 7 →
   Run (xss (nx (nx O)) [] 4096 r (some (.sc ns) :: some (.ref p) :: some (.int many) :: some (.int low) :: some (.bool up) :: some (.bool hex) :: some (.int w) :: some (.int cnt) :: some (.int high) :: some (.ref (n + 1)) :: some (.ref (n + 15)) :: some (.ref (n + 17)) :: none :: none :: none :: none :: none :: none :: none :: none :: none :: none :: none :: none :: none :: none :: none :: none :: none :: none :: none :: none :: none :: none :: none :: none :: none :: none :: []) h') Q X) :
  Run (xss (nx (nx O)) [] 4096 (cA ++ (cDes ++ r)) (some (.sc ns) :: none :: none :: none :: none :: none :: none :: none :: none :: none :: none :: none :: none :: none :: none :: none :: none :: none :: none :: none :: none :: none :: none :: none :: none :: none :: none :: none :: none :: none :: none :: none :: none :: none :: none :: none :: none :: none :: []) h) Q X := by
 obtain ⟨g, e29, hg, hg4⟩ := f29 (nx O) (h := h) (ns := ns) (Nat.le_trans hl (by decide))
 have h0 : 0 < h.length := (List.getElem?_eq_some_iff.mp e0).1
 unfold cA
 simp only [List.cons_append, List.nil_append]
 wp_walk using e29
 have t0 : (h ++ g)[0]? = some (.tab m) := ga_ e0
 have P0 : Pool (h ++ g) (h.length + 4) := ⟨5, (ns.take 40).reverse, (hget h g 4).trans hg4, by decide, by decide, by rw [List.length_reverse]; exact Nat.le_trans (List.length_take_le _ _) (by decide)⟩
 have hlen : (h ++ g).length = h.length + 5 := by simp [hg]
 generalize hH : h ++ g = h1 at t0 P0 hlen
 generalize hp : h.length + 4 = p at P0
 have tk : ∀ {a b : H}, Same [p] a b → a[0]? = some (.tab m) → b[0]? = some (.tab m) := fun s e => s 0 _ (nm1 (hp ▸ Nat.ne_of_lt (Nat.succ_pos _))) e
 obtain ⟨d1, h2, e1, a1, b1, P1, s1, l1⟩ := draw (nx O) P0 5 (by decide) (by decide)
 have t1 := tk s1 t0
 wp_walk using e1
 obtain ⟨d2, h3, e2, a2, b2, P2, s2, l2⟩ := draw (nx O) P1 4 (by decide) (by decide)
 have t2 := tk s2 t1
 wp_walk using e2
 obtain ⟨d3, h4, e3, a3, b3, P3, s3, l3⟩ := draw (nx O) P2 2 (by decide) (by decide)
 have t3 := tk s3 t2
 wp_walk using e3
 obtain ⟨d4, h5, e4, a4, b4, P4, s4, l4⟩ := draw (nx O) P3 2 (by decide) (by decide)
 have t4 := tk s4 t3
 wp_walk using e4
 obtain ⟨d5, h6, e5, a5, b5, P5, s5, l5⟩ := draw (nx O) P4 9 (by decide) (by decide)
 have t5 := tk s5 t4
 wp_walk using e5
 obtain ⟨d6, h7, e6, a6, b6, P6, s6, l6⟩ := draw (nx O) P5 8 (by decide) (by decide)
 have t6 := tk s6 t5
 wp_walk using e6
 wp_walk
 obtain ⟨many, hm⟩ := Int.eq_ofNat_of_zero_le (Int.add_nonneg (by decide : (0 : Int) ≤ 1) a1)
 obtain ⟨w, hw⟩ := Int.eq_ofNat_of_zero_le (Int.add_nonneg (by decide : (0 : Int) ≤ 1) a5)
 obtain ⟨cnt, rfl⟩ := Int.eq_ofNat_of_zero_le a6
 rw [hm, hw]
 have hl7 : h7.length = h.length + 5 := l6.trans (l5.trans (l4.trans (l3.trans (l2.trans (l1.trans hlen)))))
 refine des_run O h7 _ _ _ _ _ (w : Int) (d2 - 1) (d2 - 1 + many - 1) (d3 == 1) Q X r ?_
 have D := fun k => hget h7 (dEnd h7.length w (d2 - 1) (d2 - 1 + many - 1) (d3 == 1)) k
 refine y (h7 ++ dEnd h7.length w (d2 - 1) (d2 - 1 + many - 1) (d3 == 1)) p h7.length many w cnt (d2 - 1) (d2 - 1 + many - 1) (d3 == 1) (d4 == 1) ⟨ga_ t6, P6.same (Same.app [] _ _) (by simp), ⟨hp ▸ Nat.succ_pos _, by rw [hl7, ← hp]; exact Nat.lt_succ_self _⟩, D 1, hget0 _ _, D 2, ⟨D 15, D 14⟩, ⟨D 17, D 16⟩⟩ (by simp [dEnd, dL]) (d1_ge a1 hm) (d1_le (m := 5) b1 hm) (Int.sub_le_sub_right a2 1) (show d2 - 1 ≤ 3 - 1 from Int.sub_le_sub_right (Int.le_of_lt_add_one (b := 3) b2) 1) rfl (d1_ge a5 hw) (d1_le (m := 9) b5 hw) (Nat.le_of_lt_succ (Int.ofNat_lt.mp b6))
noncomputable def argS : V := .tup [.str "s", .str "f1"]
noncomputable def argE : V := .tup [.str "e", .tup [.str "const", .int 16, .int 26161, .int 0], .bool false]
noncomputable def memV : V := .tup [.str "mem", .int 1]
noncomputable def nonV : V := .tup [.str "none"]
noncomputable def wA (i : Int) : V := .tup [.str "e", .tup [.str "const", .int 8, .int (i.fmod 256), .int 0], .bool true]
noncomputable def eC : V := .tup [.str "e", .tup [.str "const", .int 1, .int 1, .int 0], .bool true]
theorem oth1 {b m : Nat} (h : m ≤ b) : ∀ i ∈ [b], m ≤ i := fun i hi => List.mem_singleton.mp hi ▸ h
theorem f31 (O : Orc) (i : Int) (h : H) : (nx O).fn 31 [.int i] h = .ok (wA i) h := by
 rw [r31]
 refine Run.eq (g_end ?_)
 unfold b31
 wp_walk
 exact rfl
noncomputable def Pl (x : V) : Prop := x.plain = true ∧ x.dep ≤ 2
theorem pl_wA (i : Int) : Pl (wA i) := ⟨by kernel_rfl, Nat.le_of_ble_eq_true (by kernel_rfl)⟩
theorem pl_eC : Pl eC := ⟨by kernel_rfl, Nat.le_of_ble_eq_true (by kernel_rfl)⟩
theorem pl_non : Pl nonV := ⟨by kernel_rfl, Nat.le_of_ble_eq_true (by kernel_rfl)⟩
theorem pl_mem : Pl memV := ⟨by kernel_rfl, Nat.le_of_ble_eq_true (by kernel_rfl)⟩
theorem pl_S : Pl argS := ⟨by kernel_rfl, Nat.le_of_ble_eq_true (by kernel_rfl)⟩
theorem pl_E : Pl argE := ⟨by kernel_rfl, Nat.le_of_ble_eq_true (by kernel_rfl)⟩
theorem ss_ {a k : Nat} {xs : List V} {v : V} {h : H} (e : h[a]? = some (.lst xs)) (hk : k < xs.length) (hl : k < 2 ^ 60) : setSubV (.ref a) (.int (k : Int)) v h = .ok () (h.set a (.lst (xs.set k v))) := s_put e hk hl
structure Hand (h : H) (a : Nat) (low high start last : Int) (arg : V) (r : List V) : Prop where
 e : h[a]? = some (.lst (arg :: memV :: r))
 ar : arg = argS ∨ arg = argE
 rl : r.length ≤ 2
 rp : ∀ x ∈ r, Pl x
 s : ArgW (arg :: memV :: r) 2 low start
 f : ArgW (arg :: memV :: r) 3 high last
 s1 : low ≤ start
 s2 : start ≤ high
 f1 : low ≤ last
 f2 : last ≤ high
theorem Hand.nm {h : H} {a : Nat} {low high start last : Int} {arg : V} {r : List V} (x : Hand h a low high start last arg r) : NameV arg "f1" := by
 rcases x.ar with rfl | rfl
 ·exact .s _
 ·exact .e false
theorem Hand.pl {h : H} {a : Nat} {low high start last : Int} {arg : V} {r : List V} (x : Hand h a low high start last arg r) : plainL (arg :: memV :: r) = true := by
 refine plain_all 2 (by decide) fun y hy => ?_
 rcases List.mem_cons.mp hy with rfl | hy
 ·rcases x.ar with rfl | rfl
  ·exact pl_S
  ·exact pl_E
 ·rcases List.mem_cons.mp hy with rfl | hy
  ·exact pl_mem
  ·exact x.rp y hy
theorem Hand.to {h h' : H} {a : Nat} {low high start last : Int} {arg : V} {r : List V} (x : Hand h a low high start last arg r) (e : h'[a]? = some (.lst (arg :: memV :: r))) : Hand h' a low high start last arg r :=
 ⟨e, x.ar, x.rl, x.rp, x.s, x.f, x.s1, x.s2, x.f1, x.f2⟩
theorem aw_w {xs : List V} {p : Nat} {usual i : Int} (e : xs[p]? = some (wA i)) (h1 : -128 ≤ i) (h2 : i < 128) : ArgW xs p usual i :=
 .inr ⟨8, i.fmod 256, true, by decide, by decide, e, (toI_8 i h1 h2).symm⟩
theorem aw_c {xs : List V} {p : Nat} {usual : Int} (e : xs[p]? = some eC) : ArgW xs p usual (-1) :=
 .inr ⟨1, 1, true, by decide, by decide, e, by decide⟩
theorem aw_u {xs : List V} {p : Nat} {usual : Int} (e : xs.length ≤ p) : ArgW xs p usual usual := .inl ⟨.inl e, rfl⟩
theorem aw_n {xs : List V} {p : Nat} {usual : Int} (e : xs[p]? = some nonV) : ArgW xs p usual usual := .inl ⟨.inr e, rfl⟩
noncomputable def LH (s : V) (p n : Nat) (many : Int) (low high : Int) (up hex : Bool) (w cnt : Int) (T : Loc) : Loc :=
 some s :: some (.ref p) :: some (.int many) :: some (.int low) :: some (.bool up) :: some (.bool hex) :: some (.int w) :: some (.int cnt) :: some (.int high) :: some (.ref (n + 1)) :: some (.ref (n + 15)) :: some (.ref (n + 17)) :: T
noncomputable def cH1 : List St := [.asg 12 (.l 3),
 .asg 13 (.l 8),
 .asg 14 (.lst [(.tup [(.k (V.str ("s" : Str))), (.k (V.str ("f1" : Str)))]), (.tup [(.k (V.str ("mem" : Str))), (.k (V.int 1))])]),
 .ite (.cmp .Eq (.call 30 [(.l 1), (.k (V.int 2))]) (.k (V.int 1))) [
  .asgS (.l 14) (.k (V.int 0)) (.tup [(.k (V.str ("e" : Str))), (.tup [(.k (V.str ("const" : Str))), (.k (V.int 16)), (.bin .Add (.bin .Mult (.k (V.int 102)) (.k (V.int 256))) (.k (V.int 49))), (.k (V.int 0))]), (.k (V.bool false))])] []]
noncomputable def cH2 : List St := [.asg 15 (.call 30 [(.l 1), (.k (V.int 4))]),
 .ite (.cmp .Eq (.l 15) (.k (V.int 1))) [
  .asg 12 (.bin .Add (.l 3) (.call 30 [(.l 1), (.l 2)])),
  .ex (.bm .append (.l 14) [(.call 31 [(.l 12)])])] [],
 .ite (.cmp .Gt (.l 15) (.k (V.int 1))) [
  .asg 12 (.bin .Add (.l 3) (.call 30 [(.l 1), (.l 2)])),
  .asg 13 (.bin .Add (.l 3) (.call 30 [(.l 1), (.l 2)])),
  .asg 14 (.bin .Add (.l 14) (.lst [(.call 31 [(.l 12)]), (.call 31 [(.l 13)])])),
  .ite (.bop .And [(.cmp .Eq (.l 15) (.k (V.int 3))), (.cmp .Eq (.l 13) (.l 8))]) [
   .asgS (.l 14) (.k (V.int 3)) (.tup [(.k (V.str ("none" : Str)))])] []] []]
noncomputable def cH3 : List St := [.ite (.bop .And [(.cmp .Eq (.l 3) (.neg (.k (V.int 1)))), (.cmp .Eq (.l 12) (.neg (.k (V.int 1)))), (.cmp .Gt (.bf .len [(.l 14)]) (.k (V.int 2)))]) [
  .asgS (.l 14) (.k (V.int 2)) (.tup [(.k (V.str ("e" : Str))), (.tup [(.k (V.str ("const" : Str))), (.k (V.int 1)), (.k (V.int 1)), (.k (V.int 0))]), (.k (V.bool true))])] []]
section
variable {h : H} {s : V} {m p n w cnt many : Nat} {low high : Int} {up hex : Bool} {T : Loc} {rest : List St} {Q : Fl × Loc → H → Prop} {X : Nat → Str → H → Prop}
theorem lawH1 (O : Orc) (x : LawW h p n m w low high up) (hn : n + 18 ≤ h.length) {t12 t13 t14 : Option V}
  (y : ∀ h' a arg, LawW h' p n m w low high up → n + 18 ≤ a → h'[a]? = some (.lst [arg, memV]) → (arg = argS ∨ arg = argE) →
   Run (xss (nx O) [] 4096 rest (LH s p n many low high up hex w cnt (some (.int low) :: some (.int high) :: some (.ref a) :: T)) h') Q X) :
  Run (xss (nx O) [] 4096 (cH1 ++ rest) (LH s p n many low high up hex w cnt (t12 :: t13 :: t14 :: T)) h) Q X := by
 unfold LH cH1
 unfold LH at y
 simp only [List.cons_append, List.nil_append]
 wp_walk
 wp_walk
 wp_walk using newM_eq
 have x1 : LawW (h ++ [LO.lst [argS, memV]]) p n m w low high up := x.oth (Same.app [] _ _) (by simp)
 have ea : (h ++ [LO.lst [argS, memV]])[h.length]? = some (.lst [argS, memV]) := hget0 _ _
 obtain ⟨d, h2, e1, a1, b1, P1, s1, l1⟩ := draw O x1.pool 2 (by decide) (by decide)
 have x2 := x1.dr s1 P1
 have lt := x.lt
 have ea2 := s1 _ _ (nm1 (Nat.ne_of_gt (Nat.lt_of_lt_of_le (lt_at lt.2 18) hn))) ea
 unfold argS memV at e1 ea2
 wp_walk using e1
 refine ⟨fun c => ?_, fun c => ?_⟩
 ·have e2 := ss_ (k := 0) (v := argE) ea2 (by simp) (by decide)
  have e26 : (102 : Int) * 256 + 49 = 26161 := rfl
  have s2 : Same [h.length] h2 (h2.set h.length (.lst ([argS, memV].set 0 argE))) := Same.set h2 (.head _) _
  unfold argE at e2
  wp_walk using e26, show setSubV (.ref h.length) (.int 0) _ h2 = _ from e2
  exact y _ _ argE (x2.oth s2 (oth1 hn)) hn (gs0 ea2) (.inr rfl)
 ·exact y _ _ argS x2 hn ea2 (.inl rfl)
theorem lawH3 (O : Orc) (x : LawW h p n m w low high up) {a : Nat} {start last : Int} {arg : V} {r : List V} (ha : n + 18 ≤ a) (hd : Hand h a low high start last arg r)
  (y : ∀ h' r, LawW h' p n m w low high up → Hand h' a low high start last arg r →
   Run (xss (nx O) [] 4096 rest (LH s p n many low high up hex w cnt (some (.int start) :: some (.int last) :: some (.ref a) :: T)) h') Q X) :
  Run (xss (nx O) [] 4096 (cH3 ++ rest) (LH s p n many low high up hex w cnt (some (.int start) :: some (.int last) :: some (.ref a) :: T)) h) Q X := by
 unfold LH cH3
 unfold LH at y
 simp only [List.cons_append, List.nil_append]
 have hl : (arg :: memV :: r).length ≤ 100000 := by exact Nat.le_trans (Nat.succ_le_succ (Nat.succ_le_succ hd.rl)) (by decide)
 have e1 := l_len hd.e hl
 refine g_ite ?_
 by_cases c1 : low = -1
 ·have d1 : (low == -1) = true := by simp [c1]
  by_cases c2 : start = -1
  ·have d2 : (start == -1) = true := by simp [c2]
   cases r with
   | nil =>
    have d3 : decide ((2 : Int) < ((0 + 1 + 1 : Nat) : Int)) = false := by decide
    row_walk with ⟨neg1, d1, d2, e1, d3⟩
    exact y _ _ x hd
   | cons v r =>
    have d3 : decide ((2 : Int) < ((r.length + 1 + 1 + 1 : Nat) : Int)) = true := dT (Int.ofNat_lt.mpr (Nat.lt_of_lt_of_le (by decide : 2 < 3) (Nat.le_add_left 3 _)))
    row_walk with ⟨neg1, d1, d2, e1, d3⟩
    have e2 := ss_ (k := 2) (v := eC) hd.e (by simp) (by decide)
    have s2 : Same [a] h (h.set a (.lst ((arg :: memV :: v :: r).set 2 eC))) := Same.set h (.head _) _
    unfold eC at e2
    wp_walk using show setSubV (.ref a) (.int 2) _ h = _ from e2
    refine y _ (eC :: r) (x.oth s2 (oth1 ha)) ⟨gs0 hd.e, hd.ar, hd.rl, fun z hz => ?_, ?_, hd.f, hd.s1, hd.s2, hd.f1, hd.f2⟩
    ·rcases List.mem_cons.mp hz with rfl | hz
     ·exact pl_eC
     ·exact hd.rp z (.tail _ hz)
    ·rw [c2]; exact aw_c rfl
  ·have d2 : (start == -1) = false := by simp [c2]
   row_walk with ⟨neg1, d1, d2⟩
   exact y _ _ x hd
 ·have d1 : (low == -1) = false := by simp [c1]
  row_walk with ⟨neg1, d1⟩
  exact y _ _ x hd
theorem dr_in {many : Nat} {low high : Int} (hhi : high = low + many - 1) (m5 : many ≤ 5) (lo1 : -1 ≤ low) (lo2 : low ≤ 2) {d : Int} (a : 0 ≤ d) (b : d < many) : low ≤ low + d ∧ low + d ≤ high ∧ -128 ≤ low + d ∧ low + d < 128 :=
 ⟨Int.le_add_of_nonneg_right a, hhi ▸ Int.le_sub_one_of_lt (Int.add_lt_add_left b low), Int.le_trans (by decide : (-128 : Int) ≤ -1) (Int.le_trans lo1 (Int.le_add_of_nonneg_right a)),
  Int.lt_of_lt_of_le (Int.add_lt_add_of_le_of_lt lo2 (Int.lt_of_lt_of_le b (Int.ofNat_le.mpr m5))) (by decide)⟩
theorem j2 {d : Int} (a : 0 ≤ d) (b : d < 2) : d = 0 ∨ d = 1 := by
 obtain ⟨k, rfl⟩ := Int.eq_ofNat_of_zero_le a
 exact (by decide : ∀ k : Nat, k < 2 → (k : Int) = 0 ∨ (k : Int) = 1) k (Int.ofNat_lt.mp b)
theorem j4 {d : Int} (a : 0 ≤ d) (b : d < 4) : d = 0 ∨ d = 1 ∨ d = 2 ∨ d = 3 := by
 obtain ⟨k, rfl⟩ := Int.eq_ofNat_of_zero_le a
 exact (by decide : ∀ k : Nat, k < 4 → (k : Int) = 0 ∨ (k : Int) = 1 ∨ (k : Int) = 2 ∨ (k : Int) = 3) k (Int.ofNat_lt.mp b)
theorem lawH2 (O : Orc) (x : LawW h p n m w low high up) (hn : n + 18 ≤ h.length) (m1 : 1 ≤ many) (m5 : many ≤ 5) (lo1 : -1 ≤ low) (lo2 : low ≤ 2) (hhi : high = low + many - 1) {a : Nat} {arg : V} {t15 : Option V} (ha : n + 18 ≤ a) (ea : h[a]? = some (.lst [arg, memV])) (harg : arg = argS ∨ arg = argE)
  (y : ∀ h' a start last arg r way, LawW h' p n m w low high up → n + 18 ≤ a → Hand h' a low high start last arg r →
   Run (xss (nx O) [] 4096 rest (LH s p n many low high up hex w cnt (some (.int start) :: some (.int last) :: some (.ref a) :: some (.int way) :: T)) h') Q X) :
  Run (xss (nx O) [] 4096 (cH2 ++ rest) (LH s p n many low high up hex w cnt (some (.int low) :: some (.int high) :: some (.ref a) :: t15 :: T)) h) Q X := by
 unfold LH cH2
 unfold LH at y
 simp only [List.cons_append, List.nil_append]
 have lt := x.lt
 obtain ⟨d, h1, e1, a1, b1, P1, s1, l1⟩ := draw O x.pool 4 (by decide) (by decide)
 have x1 := x.dr s1 P1
 have pa : p < a := Nat.lt_of_lt_of_le (lt_at lt.2 18) ha
 have mI : (1 : Int) ≤ many := Int.ofNat_le.mpr m1
 have mJ : (many : Int) ≤ 1000 := Int.ofNat_le.mpr (Nat.le_trans m5 (by decide))
 have K := fun {d : Int} => dr_in hhi m5 lo1 lo2 (d := d)
 have lh : low ≤ high := by have := K (Int.le_refl 0) mI; rw [Int.add_zero] at this; exact this.2.1
 have ea1 := s1 _ _ (nm1 (Nat.ne_of_gt pa)) ea
 wp_walk using e1
 have hd := j4 a1 b1
 have hand0 : ∀ {h' : H} {b : Nat}, h'[b]? = some (.lst [arg, memV]) → Hand h' b low high low high arg [] := fun e => ⟨e, harg, by simp, fun z hz => (by cases hz), aw_u (by simp), aw_u (by simp), Int.le_refl _, lh, lh, Int.le_refl _⟩
 have two : ∀ d : Int, 1 < d → d < 4 → (d == 1) = false → Run (xss (nx O) [] 4096 (.ite (.cmp .Gt (.l 15) (.k (V.int 1))) [
  .asg 12 (.bin .Add (.l 3) (.call 30 [(.l 1), (.l 2)])),
  .asg 13 (.bin .Add (.l 3) (.call 30 [(.l 1), (.l 2)])),
  .asg 14 (.bin .Add (.l 14) (.lst [(.call 31 [(.l 12)]), (.call 31 [(.l 13)])])),
  .ite (.bop .And [(.cmp .Eq (.l 15) (.k (V.int 3))), (.cmp .Eq (.l 13) (.l 8))]) [
   .asgS (.l 14) (.k (V.int 3)) (.tup [(.k (V.str ("none" : Str)))])] []] [] :: rest) (some s :: some (.ref p) :: some (.int many) :: some (.int low) :: some (.bool up) :: some (.bool hex) :: some (.int w) :: some (.int cnt) :: some (.int high) :: some (.ref (n + 1)) :: some (.ref (n + 15)) :: some (.ref (n + 17)) :: some (.int low) :: some (.int high) :: some (.ref a) :: some (.int d) :: T) h1) Q X := by
  intro d hd1 hd4 _
  have q1 : decide (1 < d) = true := by simpa using hd1
  wp_walk using q1
  obtain ⟨d2, h2, e2, a2, b2, P2, s2, l2⟩ := draw O x1.pool many mI mJ
  have x2 := x1.dr s2 P2
  have ea2 := s2 _ _ (nm1 (Nat.ne_of_gt pa)) ea1
  wp_walk using e2
  obtain ⟨d3, h3, e3, a3, b3, P3, s3, l3⟩ := draw O x2.pool many mI mJ
  have x3 := x2.dr s3 P3
  have ea3 := s3 _ _ (nm1 (Nat.ne_of_gt pa)) ea2
  wp_walk using e3
  have ea4 : (h3 ++ [LO.lst [wA (low + d2), wA (low + d3)]])[a]? = some (.lst [arg, memV]) := ga_ ea3
  have en4 : (h3 ++ [LO.lst [wA (low + d2), wA (low + d3)]])[h3.length]? = some (.lst [wA (low + d2), wA (low + d3)]) := hget0 _ _
  have eq4 := l_add ea4 en4 (by simp)
  wp_walk using f31, newM_eq, eq4
  have k2 := K a2 b2
  have k3 := K a3 b3
  have hl3 : h3.length = h.length := l3.trans (l2.trans l1)
  have x4 : LawW (h3 ++ [LO.lst [wA (low + d2), wA (low + d3)]] ++ [LO.lst [arg, memV, wA (low + d2), wA (low + d3)]]) p n m w low high up := (x3.oth (Same.app [] _ _) (by simp)).oth (Same.app [] _ _) (by simp)
  have ea5 : (h3 ++ [LO.lst [wA (low + d2), wA (low + d3)]] ++ [LO.lst [arg, memV, wA (low + d2), wA (low + d3)]])[(h3 ++ [LO.lst [wA (low + d2), wA (low + d3)]]).length]? = some (.lst [arg, memV, wA (low + d2), wA (low + d3)]) := hget0 _ _
  have hb : n + 18 ≤ (h3 ++ [LO.lst [wA (low + d2), wA (low + d3)]]).length := by rw [List.length_append, hl3]; exact Nat.le_trans hn (Nat.le_add_right _ _)
  generalize (h3 ++ [LO.lst [wA (low + d2), wA (low + d3)]]).length = b at ea5 hb ⊢
  generalize h3 ++ [LO.lst [wA (low + d2), wA (low + d3)]] ++ [LO.lst [arg, memV, wA (low + d2), wA (low + d3)]] = h5 at x4 ea5 ⊢
  have hand1 : Hand h5 b low high (low + d2) (low + d3) arg [wA (low + d2), wA (low + d3)] := ⟨ea5, harg, by simp, (by
   intro z hz
   simp at hz
   rcases hz with rfl | rfl <;> exact pl_wA _), aw_w rfl k2.2.2.1 k2.2.2.2, aw_w rfl k3.2.2.1 k3.2.2.2, k2.1, k2.2.1, k3.1, k3.2.1⟩
  refine g_ite ?_
  by_cases c3 : d = 3
  ·have g3 : (d == 3) = true := by simp [c3]
   by_cases ch : low + d3 = high
   ·have gh : (low + d3 == high) = true := by simp [ch]
    row_walk with ⟨g3, gh⟩
    have e6 := ss_ (k := 3) (v := nonV) ea5 (by simp) (by decide)
    have s6 : Same [b] h5 (h5.set b (.lst ([arg, memV, wA (low + d2), wA (low + d3)].set 3 nonV))) := Same.set h5 (.head _) _
    unfold nonV at e6
    wp_walk using show setSubV (.ref b) (.int 3) _ h5 = _ from e6
    refine y _ b (low + d2) (low + d3) arg [wA (low + d2), nonV] d (x4.oth s6 (oth1 hb)) hb ⟨gs0 ea5, harg, by simp, fun z hz => ?_, aw_w rfl k2.2.2.1 k2.2.2.2, by rw [ch]; exact aw_n rfl, k2.1, k2.2.1, k3.1, k3.2.1⟩
    simp at hz
    rcases hz with rfl | rfl
    ·exact pl_wA _
    ·exact pl_non
   ·have gh : (low + d3 == high) = false := by simp [ch]
    row_walk with ⟨g3, gh⟩
    exact y _ b _ _ arg _ d x4 hb hand1
  ·have g3 : (d == 3) = false := by simp [c3]
   row_walk with ⟨g3⟩
   exact y _ b _ _ arg _ d x4 hb hand1
 rcases hd with rfl | rfl | rfl | rfl
 ·have z1 : ((0 : Int) == 1) = false := rfl
  have z2 : decide ((1 : Int) < 0) = false := rfl
  wp_walk using z1
  wp_walk using z2
  exact y _ a _ _ arg [] 0 x1 ha (hand0 ea1)
 ·have z1 : ((1 : Int) == 1) = true := rfl
  have z2 : decide ((1 : Int) < 1) = false := rfl
  wp_walk using z1
  obtain ⟨d2, h2, e2, a2, b2, P2, s2, l2⟩ := draw O x1.pool many mI mJ
  have x2 := x1.dr s2 P2
  have ea2 := s2 _ _ (nm1 (Nat.ne_of_gt pa)) ea1
  wp_walk using e2
  have e3 := m_append (v := wA (low + d2)) ea2 (by simp)
  have s3 : Same [a] h2 (h2.set a (.lst ([arg, memV] ++ [wA (low + d2)]))) := Same.set h2 (.head _) _
  wp_walk using f31, on_append ea2, e3
  wp_walk using z2
  have k2 := K a2 b2
  refine y _ a _ _ arg [wA (low + d2)] 1 (x2.oth s3 (oth1 ha)) ha ⟨gs0 ea2, harg, by simp, fun z hz => ?_, aw_w rfl k2.2.2.1 k2.2.2.2, aw_u (by simp), k2.1, k2.2.1, lh, Int.le_refl _⟩
  simp at hz
  subst hz
  exact pl_wA _
 ·have z1 : ((2 : Int) == 1) = false := rfl
  wp_walk using z1
  exact two 2 (by decide) (by decide) rfl
 ·have z1 : ((3 : Int) == 1) = false := rfl
  wp_walk using z1
  exact two 3 (by decide) (by decide) rfl
end
theorem num1 (g : Nat) (hg : g ≤ 9) : partV (.int (g : Int)) = some (S [48 + g]) := by
 exact (by decide +kernel : ∀ g : Nat, g < 10 → partV (.int (g : Int)) = some (S [48 + g])) g (Nat.lt_succ_of_le hg)
theorem js3 {O : Orc} {cs : List Nat} {e : Ex} {loc : Loc} {h : H} {g : Nat} {x y : List Nat} (he : ev O cs e loc h = .ok (.int (g : Int)) h) (hg : g ≤ 9) (hx : x.length ≤ 100) (hy : y.length ≤ 100) :
  ev O cs (.js [.k (.str (S x)), .fmt e, .k (.str (S y))]) loc h = .ok (.str (S (x ++ [48 + g] ++ y))) h := by
 have e0 : Str.empty = S [] := rfl
 have ps : ∀ z : List Nat, z.length ≤ 100 → partV (.str (S z)) = some (S z) := fun z hz => by
  show (if (S z).length ≤ 100000 then some (S z) else none) = _
  rw [if_pos (by rw [S_len]; exact Nat.le_trans hz (by decide))]
 simp only [ev_js, jss_nil, jss_cons, evp_k, evp_fmt, bok, he, ps x hx, ps y hy, num1 g hg, e0, S_app, S_len, List.nil_append, List.length_nil, List.length_append, List.length_cons]
 rw [if_pos (by kd_p), if_pos (by kd_p), if_pos (by kd_p)]
theorem okPs_app {hex : Bool} {b : List Pc} (hb : OkPs hex b) (a : List Pc) (x : OkPs hex a) : OkPs hex (a ++ b) := by
 induction a with
 | nil => exact hb
 | cons p r ih =>
  cases p with
  | ws c => exact ⟨x.1, ih x.2⟩
  | lc bs => exact ⟨x.1, x.2.1.elim fun r' e => ⟨r' ++ b, by rw [e]; rfl⟩, ih x.2.2⟩
  | bc => exact ih x
  | ad a => exact ⟨x.1, x.2.1.elim fun c z => z.elim fun r' e => ⟨c, r' ++ b, by rw [e]; rfl⟩, ih x.2.2⟩
  | dg ds => exact ⟨x.1, x.2.1, x.2.2.1.elim fun c z => z.elim fun r' e => ⟨c, r' ++ b, by rw [e]; rfl⟩, ih x.2.2.2⟩
structure Tx (hex : Bool) (lo hi : Int) (ps : List Pc) (g : Option Nat) (A B R : Nat) : Prop where
 ok : OkPs hex ps
 fl : (flat ps).length ≤ A
 pl : ps.length ≤ B
 rl : (rd ps).1.length ≤ R
 ds : ∀ r ∈ (rd ps).1, (∀ c ∈ r.2, okD hex c) ∧ 1 ≤ r.2.length ∧ r.2.length ≤ 4
 gv : ∀ r ∈ (rd ps).1, ∀ g, r.1 = some g → lo ≤ (g : Int) ∧ (g : Int) ≤ hi
 g2 : (rd ps).2 = g
 gg : ∀ x, g = some x → lo ≤ (x : Int) ∧ (x : Int) ≤ hi
section
variable {hex : Bool} {lo hi : Int} {ps : List Pc} {g : Option Nat} {A B R : Nat}
theorem rd_ad (ps : List Pc) (a : Nat) : rd (ps ++ [.ad a, .ws 32]) = ((rd ps).1, some a) := by simp [rd, stp, List.foldl_append]
theorem rd_dn (ps : List Pc) (ds : List Nat) : rd (ps ++ [.dg ds, .ws 10]) = ((rd ps).1 ++ [((rd ps).2, ds)], none) := by simp [rd, stp, List.foldl_append]
theorem rd_dc (ps : List Pc) (ds : List Nat) : rd (ps ++ [.dg ds, .ws 32, .bc, .ws 32]) = ((rd ps).1 ++ [((rd ps).2, ds)], none) := by simp [rd, stp, List.foldl_append]
theorem Tx.ad (x : Tx hex lo hi ps none A B R) {a : Nat} (h1 : lo ≤ (a : Int)) (h2 : (a : Int) ≤ hi) (h9 : a ≤ 9) : Tx hex lo hi (ps ++ [.ad a, .ws 32]) (some a) (A + 3) (B + 2) R := by
 refine ⟨okPs_app (b := [.ad a, .ws 32]) ⟨h9, ⟨32, [], rfl⟩, rfl, trivial⟩ ps x.ok, ?_, ?_, ?_, ?_, ?_, ?_, ?_⟩
 ·rw [flat_app, List.length_append]; exact Nat.add_le_add_right x.fl 3
 ·rw [List.length_append]; exact Nat.add_le_add_right x.pl 2
 ·rw [rd_ad]; exact x.rl
 ·rw [rd_ad]; exact x.ds
 ·rw [rd_ad]; exact x.gv
 ·rw [rd_ad]
 ·intro z e; cases e; exact ⟨h1, h2⟩
theorem Tx.row (x : Tx hex lo hi ps g A B R) {q : List Pc} {ds : List Nat} {a b : Nat} (hq : OkPs hex q) (hr : rd (ps ++ q) = ((rd ps).1 ++ [((rd ps).2, ds)], none)) (fl : (flat q).length ≤ a) (pl : q.length ≤ b) (hd : ∀ c ∈ ds, okD hex c) (d1 : 1 ≤ ds.length) (d4 : ds.length ≤ 4) : Tx hex lo hi (ps ++ q) none (A + a) (B + b) (R + 1) := by
 refine ⟨okPs_app hq ps x.ok, ?_, ?_, ?_, ?_, ?_, ?_, ?_⟩
 ·rw [flat_app, List.length_append]; exact Nat.add_le_add x.fl fl
 ·rw [List.length_append]; exact Nat.add_le_add x.pl pl
 ·rw [hr, show ((rd ps).1 ++ [((rd ps).2, ds)], (none : Option Nat)).1.length = (rd ps).1.length + 1 from List.length_append]; exact Nat.succ_le_succ x.rl
 ·rw [hr]
  intro r hr
  rcases List.mem_append.mp hr with hr | hr
  ·exact x.ds r hr
  ·rw [List.mem_singleton.mp hr]; exact ⟨hd, d1, d4⟩
 ·rw [hr]
  intro r hr
  rcases List.mem_append.mp hr with hr | hr
  ·exact x.gv r hr
  ·rw [List.mem_singleton.mp hr, x.g2]; exact x.gg
 ·rw [hr]
 ·intro z e; cases e
theorem Tx.dn (x : Tx hex lo hi ps g A B R) {ds : List Nat} (hd : ∀ c ∈ ds, okD hex c) (d1 : 1 ≤ ds.length) (d4 : ds.length ≤ 4) : Tx hex lo hi (ps ++ [.dg ds, .ws 10]) none (A + 13) (B + 4) (R + 1) :=
 x.row ⟨hd, d1, ⟨10, [], rfl⟩, rfl, trivial⟩ (rd_dn ps ds) (by simp [flat, Pc.ch]; kd_p) (by simp) hd d1 d4
theorem Tx.dc (x : Tx hex lo hi ps g A B R) {ds : List Nat} (hd : ∀ c ∈ ds, okD hex c) (d1 : 1 ≤ ds.length) (d4 : ds.length ≤ 4) : Tx hex lo hi (ps ++ [.dg ds, .ws 32, .bc, .ws 32]) none (A + 13) (B + 4) (R + 1) :=
 x.row ⟨hd, d1, ⟨32, _, rfl⟩, rfl, rfl, trivial⟩ (rd_dc ps ds) (by simp [flat, Pc.ch]; kd_p) (by simp) hd d1 d4
end
theorem LawW.np {h : H} {p n m w k : Nat} {low high : Int} {up : Bool} (x : LawW h p n m w low high up) (hk : n + 18 ≤ k) : k ∉ [p] := nm1 (Nat.ne_of_gt (Nat.lt_of_lt_of_le (lt_at x.lt.2 18) hk))
structure HS (h : H) (p n m w : Nat) (low high : Int) (up : Bool) (a : Nat) (start last : Int) (arg : V) (r : List V) (dq : Nat) (D : List V) : Prop where
 w : LawW h p n m w low high up
 ai : n + 18 ≤ a
 di : n + 18 ≤ dq
 ne : a ≠ dq
 hd : Hand h a low high start last arg r
 d : h[dq]? = some (.lst D)
section
variable {h h' : H} {p n m w : Nat} {low high : Int} {up : Bool} {a : Nat} {start last : Int} {arg : V} {r : List V} {dq : Nat} {D : List V}
theorem HS.dr (x : HS h p n m w low high up a start last arg r dq D) (P : Pool h' p) (s : Same [p] h h') : HS h' p n m w low high up a start last arg r dq D := by
 exact ⟨x.w.dr s P, x.ai, x.di, x.ne, x.hd.to (s _ _ (x.w.np x.ai) x.hd.e), s _ _ (x.w.np x.di) x.d⟩
theorem HS.app (x : HS h p n m w low high up a start last arg r dq D) (l : H) : HS (h ++ l) p n m w low high up a start last arg r dq D :=
 ⟨x.w.oth (Same.app [] _ _) (by simp), x.ai, x.di, x.ne, x.hd.to (ga_ x.hd.e), ga_ x.d⟩
theorem HS.put (x : HS h p n m w low high up a start last arg r dq D) (D' : List V) : HS (h.set dq (.lst D')) p n m w low high up a start last arg r dq D' := by
 have s : Same [dq] h (h.set dq (.lst D')) := Same.set h (.head _) _
 exact ⟨x.w.oth s (oth1 x.di), x.ai, x.di, x.ne, x.hd.to (s _ _ (nm1 x.ne) x.hd.e), gs0 x.d⟩
end
noncomputable def LT (s : V) (p n : Nat) (many low high : Int) (up hex : Bool) (w cnt start last : Int) (a : Nat) (way lo hi st : Int) (text : Str) (dq : Nat) (addr : Int) (T : Loc) : Loc :=
 LH s p n many low high up hex w cnt (some (.int start) :: some (.int last) :: some (.ref a) :: some (.int way) :: some (.int lo) :: some (.int hi) :: some (.int st) :: some (.str text) :: some (.ref dq) :: some (.int addr) :: T)
noncomputable def cT1 : St := .ite (.bop .And [(.cmp .Eq (.call 30 [(.l 1), (.k (V.int 3))]) (.k (V.int 2))), (.cmp .GtE (.l 17) (.k (V.int 0)))]) [
   .asg 21 (.bin .Add (.bf .max [(.l 16), (.k (V.int 0))]) (.call 30 [(.l 1), (.bin .Add (.bin .Sub (.l 17) (.bf .max [(.l 16), (.k (V.int 0))])) (.k (V.int 1)))])),
   .asg 19 (.bin .Add (.l 19) (.js [(.k (V.str ("@" : Str))), (.fmt (.l 21)), (.k (V.str (" " : Str)))]))] []
noncomputable def cT2 : List St := [.asg 23 (.k (V.str ("" : Str))),
  .forR 24 (.bin .Add (.k (V.int 1)) (.call 30 [(.l 1), (.k (V.int 4))])) [
   .asg 25 (.ite (.l 5) (.k (V.str ("01xz?9af" : Str))) (.k (V.str ("01xz?011" : Str)))),
   .asg 23 (.bin .Add (.l 23) (.sub (.l 25) (.call 30 [(.l 1), (.k (V.int 8))])))]]
noncomputable def cT3 : List St := [.asg 19 (.bin .Add (.bin .Add (.l 19) (.l 23)) (.sub (.lst [(.k (V.str ("\n" : Str))), (.k (V.str (" /* a */ " : Str)))]) (.call 30 [(.l 1), (.k (V.int 2))]))),
  .ite (.cmp2 .LtE .LtE (.l 16) (.l 21) (.l 17)) [
   .asg 24 (.ite (.l 4) (.bin .Sub (.l 21) (.l 3)) (.bin .Sub (.l 8) (.l 21))),
   .ex (.bm .append (.l 20) [(.tup [(.k (V.int 1)), (.l 24), (.call 32 [(.l 23), (.l 5), (.l 6)])])])] [],
  .asg 21 (.bin .Add (.l 21) (.l 18))]
section
variable {h : H} {s : V} {m p n w many cnt a dq : Nat} {low high start last way lo hi st addr : Int} {up hex : Bool} {T : Loc} {rest : List St} {Q : Fl × Loc → H → Prop} {X : Nat → Str → H → Prop} {arg : V} {r D : List V} {ps : List Pc} {g : Option Nat} {A B R : Nat}
theorem lawT1 (O : Orc) (x : HS h p n m w low high up a start last arg r dq D) (t : Tx hex lo hi ps none A B R) (hA : A ≤ 1000) (hh : hi ≤ 6) (hlh : lo ≤ hi)
  (y : ∀ h' ps' g, HS h' p n m w low high up a start last arg r dq D → Tx hex lo hi ps' g (A + 3) (B + 2) R → (rd ps').1 = (rd ps).1 →
   Run (xss (nx O) [] 4096 rest (LT s p n many low high up hex w cnt start last a way lo hi st (S (flat ps')) dq (adOf (g, []) addr) T) h') Q X) :
  Run (xss (nx O) [] 4096 (cT1 :: rest) (LT s p n many low high up hex w cnt start last a way lo hi st (S (flat ps)) dq addr T) h) Q X := by
 have base : ∀ {h'}, HS h' p n m w low high up a start last arg r dq D → Run (xss (nx O) [] 4096 rest (LT s p n many low high up hex w cnt start last a way lo hi st (S (flat ps)) dq addr T) h') Q X := fun x' =>
  y _ ps none x' ⟨t.ok, Nat.le_trans t.fl (Nat.le_add_right _ _), Nat.le_trans t.pl (Nat.le_add_right _ _), t.rl, t.ds, t.gv, t.g2, t.gg⟩ rfl
 unfold LT LH cT1
 unfold LT LH at y base
 obtain ⟨d, h1, e1, a1, b1, P1, s1, l1⟩ := draw O x.w.pool 3 (by decide) (by decide)
 have x1 := x.dr P1 s1
 refine g_ite ?_
 by_cases c1 : d = 2
 ·have d1 : (d == 2) = true := by simp [c1]
  by_cases c2 : 0 ≤ hi
  ·have d2 : decide (0 ≤ hi) = true := by simp [c2]
   row_walk with ⟨e1, d1, d2⟩
   have hmx : max lo 0 ≤ hi := Int.max_le.mpr ⟨hlh, c2⟩
   obtain ⟨d', h2, e2, a2, b2, P2, s2, l2⟩ := draw O x1.w.pool (hi - max lo 0 + 1) (Int.le_add_of_nonneg_left (Int.sub_nonneg.mpr hmx)) (Int.le_trans (Int.add_le_add_right (Int.sub_le_sub hh (Int.le_max_right lo 0)) 1) (by decide))
   have x2 := x1.dr P2 s2
   wp_walk using e2
   obtain ⟨k, hk⟩ := Int.eq_ofNat_of_zero_le (Int.add_nonneg (Int.le_max_right lo 0) a2)
   rw [hk]
   have hk1 : lo ≤ (k : Int) := hk ▸ Int.le_trans (Int.le_max_left lo 0) (Int.le_add_of_nonneg_right a2)
   have hk2 : (k : Int) ≤ hi := hk ▸ Int.add_le_of_le_sub_left (Int.le_of_lt_add_one b2)
   have hk9 : k ≤ 9 := Int.ofNat_le.mp (Int.le_trans hk2 (Int.le_trans hh (by decide)))
   have q1 : ("@" : Str) = S [64] := by decide +kernel
   have q2 : (" " : Str) = S [32] := by decide +kernel
   have ej : ∀ L : Loc, L[21]? = some (some (.int (k : Int))) → jss (nx O) [] Str.empty [.k (.str (S [64])), .fmt (.l 21), .k (.str (S [32]))] L h2 = .ok (.str (S ([64] ++ [48 + k] ++ [32]))) h2 := fun L e => by
    have := js3 (O := nx O) (cs := []) (e := .l 21) (loc := L) (h := h2) (g := k) (x := [64]) (y := [32]) (by simp only [ev_l, e]) hk9 (by decide) (by decide)
    simpa only [ev_js] using this
   have fl := t.fl
   have hl1 : (flat ps).length + 3 ≤ 100000 := Nat.le_trans (Nat.add_le_add_right (Nat.le_trans t.fl hA) 3) (by decide)
   rw [q1, q2]
   refine g_asg ?_
   simp only [ev_bin, ev_l, ev_js]
   simp only [List.getElem?_cons_zero, List.getElem?_cons_succ, List.set_cons_zero, List.set_cons_succ, bok]
   simp only [ej, List.getElem?_cons_zero, List.getElem?_cons_succ, bok]
   row_walk with ⟨S_len, S_app⟩
   have t' := t.ad hk1 hk2 hk9
   have ef : flat (ps ++ [.ad k, .ws 32]) = flat ps ++ [64, 48 + k, 32] := by rw [flat_app]; rfl
   have := y h2 _ _ x2 t' (by rw [rd_ad])
   rw [ef] at this
   exact this
  ·have d2 : decide (0 ≤ hi) = false := by simp [c2]
   row_walk with ⟨e1, d1, d2⟩
   exact base x1
 ·have d1 : (d == 2) = false := by simp [c1]
  row_walk with ⟨e1, d1⟩
  exact base x1
end
theorem sign_at (hex : Bool) (d : Int) (h0 : 0 ≤ d) (h8 : d < 8) (h : H) : ∃ c, okD hex c ∧ subV (.str (if hex then ("01xz?9af" : Str) else ("01xz?011" : Str))) (.int d) h = .ok (.str (S [c])) h := by
 have q1 : ("01xz?9af" : Str) = S [48, 49, 120, 122, 63, 57, 97, 102] := by decide +kernel
 have q2 : ("01xz?011" : Str) = S [48, 49, 120, 122, 63, 48, 49, 49] := by decide +kernel
 obtain ⟨k, rfl⟩ := Int.eq_ofNat_of_zero_le h0
 have hk : k < 8 := Int.ofNat_lt.mp h8
 have a1 : ∀ k, k < 8 → okD true ([48, 49, 120, 122, 63, 57, 97, 102].getD k 0) ∧ [48, 49, 120, 122, 63, 57, 97, 102][k]? = some ([48, 49, 120, 122, 63, 57, 97, 102].getD k 0) := by unfold okD sgn; decide
 have a2 : ∀ k, k < 8 → okD false ([48, 49, 120, 122, 63, 48, 49, 49].getD k 0) ∧ [48, 49, 120, 122, 63, 48, 49, 49][k]? = some ([48, 49, 120, 122, 63, 48, 49, 49].getD k 0) := by unfold okD sgn; decide
 cases hex
 ·rw [if_neg Bool.false_ne_true, q2]
  exact ⟨_, (a2 k hk).1, subS (a2 k hk).2 (Nat.lt_trans hk (by decide)) h⟩
 ·rw [if_pos rfl, q1]
  exact ⟨_, (a1 k hk).1, subS (a1 k hk).2 (Nat.lt_trans hk (by decide)) h⟩
section
variable {h : H} {s : V} {m p n w many cnt a dq : Nat} {low high start last way lo hi st addr : Int} {up hex : Bool} {T : Loc} {rest : List St} {Q : Fl × Loc → H → Prop} {X : Nat → Str → H → Prop} {arg : V} {r D : List V} {ps : List Pc} {g : Option Nat} {A B R : Nat} {text : Str}
theorem lawT2 (O : Orc) (x : HS h p n m w low high up a start last arg r dq D) {t22 t23 t24 t25 : Option V}
  (y : ∀ h' ds t24 t25, HS h' p n m w low high up a start last arg r dq D → (∀ c ∈ ds, okD hex c) → 1 ≤ ds.length → ds.length ≤ 4 →
   Run (xss (nx O) [] 4096 rest (LT s p n many low high up hex w cnt start last a way lo hi st text dq addr (t22 :: some (.str (S ds)) :: t24 :: t25 :: T)) h') Q X) :
  Run (xss (nx O) [] 4096 (cT2 ++ rest) (LT s p n many low high up hex w cnt start last a way lo hi st text dq addr (t22 :: t23 :: t24 :: t25 :: T)) h) Q X := by
 unfold LT LH cT2
 unfold LT LH at y
 simp only [List.cons_append, List.nil_append]
 wp_walk
 simp only [List.set_cons_zero, List.set_cons_succ]
 obtain ⟨d, h1, e1, a1, b1, P1, s1, l1⟩ := draw O x.w.pool 4 (by decide) (by decide)
 have x1 := x.dr P1 s1
 obtain ⟨k, hk⟩ := Int.eq_ofNat_of_zero_le (Int.add_nonneg (by decide : (0 : Int) ≤ 1) a1)
 have k4 := d1_le (m := 4) b1 hk
 refine g_forR (n := k) (h1 := h1) (by row_walk with ⟨e1, hk⟩) (Nat.le_trans k4 (by decide))
  (fun j loc h => ∃ ds t24 t25, loc = (LT s p n many low high up hex w cnt start last a way lo hi st text dq addr (t22 :: some (.str (S ds)) :: t24 :: t25 :: T)) ∧ HS h p n m w low high up a start last arg r dq D ∧ (∀ c ∈ ds, okD hex c) ∧ ds.length = j)
  ⟨[], t24, t25, by unfold LT LH; rw [S_nil], x1, by simp, rfl⟩ ?_ ?_
 ·rintro j loc h hj ⟨ds, t24, t25, rfl, x2, ok, hl⟩
  unfold LT LH
  refine g_asg (Run.of (a := V.str (if hex then ("01xz?9af" : Str) else ("01xz?011" : Str))) (h := h) (by cases hex <;> rfl) ?_)
  simp only [List.set_cons_zero, List.set_cons_succ]
  obtain ⟨d2, h2, e2, a2, b2, P2, s2, l2⟩ := draw O x2.w.pool 8 (by decide) (by decide)
  have x3 := x2.dr P2 s2
  obtain ⟨c, hc, ec⟩ := sign_at hex d2 a2 b2 h2
  have hl1 : ds.length + 1 ≤ 100000 := Nat.le_trans (Nat.le_trans (show ds.length < k from hl ▸ hj) k4) (by decide)
  wp_walk using e2, ec, S_len, S_app
  refine g_nil ⟨_, rfl, ds ++ [c], _, _, rfl, x3, ?_, by simp [hl]⟩
  intro z hz
  rcases List.mem_append.mp hz with hz | hz
  ·exact ok z hz
  ·rw [List.mem_singleton.mp hz]; exact hc
 ·rintro loc h ⟨ds, t24, t25, rfl, x2, ok, hl⟩
  unfold LT LH
  exact y h ds t24 t25 x2 ok (hl ▸ d1_ge a1 hk) (hl ▸ k4)
theorem lawT3 (O : Orc) (x : HS h p n m w low high up a start last arg r dq D) (t : Tx hex lo hi ps g A B R) (hA : A ≤ 1000) (hD : D.length ≤ 1000) (hw : 1 ≤ w) (hw9 : w ≤ 9) {ds : List Nat} (hd : ∀ c ∈ ds, okD hex c) (d1 : 1 ≤ ds.length) (d4 : ds.length ≤ 4) {t22 t24 t25 : Option V}
  (y : ∀ h' ps' t24, HS h' p n m w low high up a start last arg r dq (if lo ≤ addr ∧ addr ≤ hi then D ++ [toldV hex w low high up (addr, ds)] else D) → Tx hex lo hi ps' none (A + 13) (B + 4) (R + 1) → (rd ps').1 = (rd ps).1 ++ [(g, ds)] →
   Run (xss (nx O) [] 4096 rest (LT s p n many low high up hex w cnt start last a way lo hi st (S (flat ps')) dq (addr + st) (t22 :: some (.str (S ds)) :: t24 :: t25 :: T)) h') Q X) :
  Run (xss (nx O) [] 4096 (cT3 ++ rest) (LT s p n many low high up hex w cnt start last a way lo hi st (S (flat ps)) dq addr (t22 :: some (.str (S ds)) :: t24 :: t25 :: T)) h) Q X := by
 unfold LT LH cT3
 unfold LT LH at y
 simp only [List.cons_append, List.nil_append]
 have q1 : ("\n" : Str) = S [10] := by decide +kernel
 have q2 : (" /* a */ " : Str) = S [32, 47, 42, 32, 97, 32, 42, 47, 32] := by decide +kernel
 rw [q1, q2]
 have x1 := x.app [LO.lst [.str (S [10]), .str (S [32, 47, 42, 32, 97, 32, 42, 47, 32])]]
 have el : (h ++ [LO.lst [.str (S [10]), .str (S [32, 47, 42, 32, 97, 32, 42, 47, 32])]])[h.length]? = some (.lst [.str (S [10]), .str (S [32, 47, 42, 32, 97, 32, 42, 47, 32])]) := hget0 _ _
 have lt := x.w.lt
 have hh : n + 18 ≤ h.length := Nat.le_trans x.ai (Nat.le_of_lt (ilt x.hd.e))
 obtain ⟨d, h2, e2, a2, b2, P2, s2, l2⟩ := draw O x1.w.pool 2 (by decide) (by decide)
 have x2 := x1.dr P2 s2
 have el2 := s2 _ _ (x.w.np hh) el
 have key : ∃ l q, subV (.ref h.length) (.int d) h2 = .ok (.str (S l)) h2 ∧ Tx hex lo hi (ps ++ q) none (A + 13) (B + 4) (R + 1) ∧ flat (ps ++ q) = flat ps ++ ds ++ l ∧ l.length ≤ 10 ∧ (rd (ps ++ q)).1 = (rd ps).1 ++ [(g, ds)] := by
  have hd2 : d = 0 ∨ d = 1 := j2 a2 b2
  rcases hd2 with rfl | rfl
  ·exact ⟨_, _, l_s0 el2, t.dn hd d1 d4, by rw [flat_app]; simp [flat, Pc.ch], by simp, by rw [rd_dn, t.g2]⟩
  ·exact ⟨_, _, l_s1 el2, t.dc hd d1 d4, by rw [flat_app]; simp [flat, Pc.ch], by simp, by rw [rd_dc, t.g2]⟩
 obtain ⟨l, q, es, t', ef, hl, hr⟩ := key
 have fl := t.fl
 have hl1 : (flat ps).length + ds.length ≤ 100000 := Nat.le_trans (Nat.add_le_add (Nat.le_trans fl hA) d4) (by decide)
 have hl2 : (flat ps ++ ds).length + l.length ≤ 100000 := by rw [List.length_append]; exact Nat.le_trans (Nat.add_le_add (Nat.add_le_add (Nat.le_trans fl hA) d4) hl) (by decide)
 wp_walk using newM_eq, e2, es, S_len, S_app
 rw [← ef]
 refine g_ite ?_
 have hD1 : D.length ≤ 100000 := Nat.le_trans hD (by decide)
 by_cases c1 : lo ≤ addr
 ·by_cases c2 : addr ≤ hi
  ·row_walk with ⟨c1, c2⟩
   rw [if_pos ⟨c1, c2⟩] at y
   refine g_asg (Run.of (a := V.int (if up then addr - low else high - addr)) (h := h2) (by cases up <;> rfl) ?_)
   simp only [List.set_cons_zero, List.set_cons_succ]
   obtain ⟨v, h3, e3, rfl, gg, rfl⟩ := (f32 O hex w ds h2 hw hw9 hd d1 (Nat.le_trans d4 (by decide))).get
   have x3 := x2.app gg
   have e4 := m_append (v := toldV hex w low high up (addr, ds)) x3.d hD1
   have x4 := x3.put (D ++ [toldV hex w low high up (addr, ds)])
   unfold toldV at e4
   wp_walk using on_append x2.d, e3, e4
   wp_walk
   exact y _ _ _ x4 t' hr
  ·row_walk with ⟨c1, c2⟩
   rw [if_neg (fun z => c2 z.2)] at y
   wp_walk
   exact y _ _ _ x2 t' hr
 ·row_walk with ⟨c1⟩
  rw [if_neg (fun z => c1 z.1)] at y
  wp_walk
  exact y _ _ _ x2 t' hr
end
noncomputable def cT : List St := [.asg 16 (.bf .min [(.l 12), (.l 13)]),
 .asg 17 (.bf .max [(.l 12), (.l 13)]),
 .asg 18 (.ite (.cmp .Lt (.l 13) (.l 12)) (.neg (.k (V.int 1))) (.k (V.int 1))),
 .asg 19 (.k (V.str ("// words\n" : Str))),
 .asg 20 (.lst []),
 .asg 21 (.l 12),
 .forR 22 (.l 7) (cT1 :: (cT2 ++ cT3))]
section
variable {h : H} {s : V} {m p n w many cnt a dq : Nat} {low high start last way lo hi st addr : Int} {up hex : Bool} {T : Loc} {rest : List St} {Q : Fl × Loc → H → Prop} {X : Nat → Str → H → Prop} {arg : V} {r D : List V} {ps : List Pc} {g : Option Nat} {A B R : Nat} {text : Str}
theorem Tx.begin (hex : Bool) (lo hi : Int) : Tx hex lo hi [.lc [32, 119, 111, 114, 100, 115], .ws 10] none 9 2 0 := by
 refine ⟨⟨by decide, ⟨[], rfl⟩, rfl, trivial⟩, by decide, by decide, by decide, ?_, ?_, rfl, ?_⟩
 ·intro r hr; cases hr
 ·intro r hr; cases hr
 ·intro z e; cases e
set_option tactic.hygienic true in
theorem lawT (O : Orc) (x : LawW h p n m w low high up) (ha : n + 18 ≤ a) (hd : Hand h a low high start last arg r) (hw : 1 ≤ w) (hw9 : w ≤ 9) (hc : cnt ≤ 7) (hh : high ≤ 6) {t16 t17 t18 t19 t20 t21 t22 t23 t24 t25 : Option V}
  (y : ∀ h' ps D dq st addr t22 t23 t24 t25, HS h' p n m w low high up a start last arg r dq D → Tx hex (min start last) (max start last) ps none 200 100 100 →
   D = (plc (min start last) (max start last) (stepOf start last) start (rd ps).1).1.map (toldV hex w low high up) →
   Run (xss (nx O) [] 4096 rest (LT s p n many low high up hex w cnt start last a way (min start last) (max start last) st (S (flat ps)) dq addr (t22 :: t23 :: t24 :: t25 :: T)) h') Q X) :
  Run (xss (nx O) [] 4096 (cT ++ rest) (LH s p n many low high up hex w cnt (some (.int start) :: some (.int last) :: some (.ref a) :: some (.int way) :: t16 :: t17 :: t18 :: t19 :: t20 :: t21 :: t22 :: t23 :: t24 :: t25 :: T)) h) Q X := by
 unfold LH cT
 simp only [List.cons_append, List.nil_append]
 wp_walk
 wp_walk
 refine g_asg (Run.of (a := V.int (stepOf start last)) (h := h) ?_ ?_)
 ·unfold stepOf
  by_cases c : last < start
  ·row_walk with ⟨c, neg1⟩
  ·row_walk with ⟨c, neg1⟩
 have q1 : ("// words\n" : Str) = S (flat [.lc [32, 119, 111, 114, 100, 115], .ws 10]) := by decide +kernel
 rw [q1]
 simp only [List.set_cons_zero, List.set_cons_succ]
 wp_walk
 wp_walk using newM_eq
 have alt := (List.getElem?_eq_some_iff.mp hd.e).1
 have x0 : HS (h ++ [LO.lst []]) p n m w low high up a start last arg r h.length [] := ⟨x.oth (Same.app [] _ _) (by simp), ha, Nat.le_trans ha (Nat.le_of_lt alt), Nat.ne_of_lt alt, hd.to (ga_ hd.e), hget0 _ _⟩
 wp_walk
 have hlo := mm_le start last
 have hhi : max start last ≤ 6 := Int.max_le.mpr ⟨Int.le_trans hd.s2 hh, Int.le_trans hd.f2 hh⟩
 refine g_forR (n := cnt) (h1 := h ++ [LO.lst []]) (by row_walk) (Nat.le_trans hc (by decide))
  (fun k loc h' => ∃ ps t22 t23 t24 t25, loc = (LT s p n many low high up hex w cnt start last a way (min start last) (max start last) (stepOf start last) (S (flat ps)) h.length (plc (min start last) (max start last) (stepOf start last) start (rd ps).1).2 (t22 :: t23 :: t24 :: t25 :: T)) ∧
   HS h' p n m w low high up a start last arg r h.length ((plc (min start last) (max start last) (stepOf start last) start (rd ps).1).1.map (toldV hex w low high up)) ∧
   Tx hex (min start last) (max start last) ps none (9 + 16 * k) (2 + 6 * k) k)
  ⟨_, t22, t23, t24, t25, rfl, x0, Tx.begin hex _ _⟩ ?_ ?_
 ·rintro k loc h' hk ⟨ps, t22, t23, t24, t25, rfl, x1, t1⟩
  show Run (xss (nx O) [] 4096 (cT1 :: (cT2 ++ cT3)) (LT s p n many low high up hex w cnt start last a way (min start last) (max start last) (stepOf start last) (S (flat ps)) h.length (plc (min start last) (max start last) (stepOf start last) start (rd ps).1).2 (some (.int k) :: t23 :: t24 :: t25 :: T)) h') _ _
  have k7 : k ≤ 7 := Nat.le_of_lt (Nat.lt_of_lt_of_le hk hc)
  have A1 : 9 + 16 * k ≤ 200 := Nat.le_trans (Nat.add_le_add_left (Nat.mul_le_mul_left 16 k7) 9) (by decide)
  refine lawT1 O x1 t1 (Nat.le_trans A1 (by decide)) hhi hlo fun h2 ps2 g x2 t2 e2 => ?_
  refine lawT2 O x2 fun h3 ds t24 t25 x3 hd d1 d4 => ?_
  rw [← List.append_nil cT3]
  have hDl := plc_len (min start last) (max start last) (stepOf start last) start (rd ps).1
  have hrl := t1.rl
  refine lawT3 O x3 t2 (Nat.le_trans (Nat.add_le_add_right A1 3) (by decide)) (by rw [List.length_map]; exact Nat.le_trans hDl (Nat.le_trans hrl (Nat.le_trans k7 (by decide)))) hw hw9 hd d1 d4 fun h4 ps3 t24 x4 t3 e3 => ?_
  have ep : plc (min start last) (max start last) (stepOf start last) start (rd ps3).1 = pst (min start last) (max start last) (stepOf start last) (plc (min start last) (max start last) (stepOf start last) start (rd ps).1) (g, ds) := by
   rw [e3, e2, plc_snoc]
  have ea : ∀ b : Int, adOf (g, ds) b = adOf (g, []) b := fun b => rfl
  refine g_nil ⟨_, rfl, ps3, some (.int k), some (.str (S ds)), t24, t25, ?_, ?_, ⟨t3.ok, t3.fl, t3.pl, t3.rl, t3.ds, t3.gv, t3.g2, t3.gg⟩⟩
  ·rw [ep]
   rfl
  ·rw [ep]
   unfold pst
   dsimp only
   rw [ea]
   split
   ·rename_i c
    rw [if_pos c] at x4
    rw [List.map_append]
    exact x4
   ·rename_i c
    rw [if_neg c] at x4
    exact x4
 ·rintro loc h' ⟨ps, t22, t23, t24, t25, rfl, x1, t1⟩
  exact y h' ps _ _ _ _ _ _ _ _ x1 ⟨t1.ok, Nat.le_trans t1.fl (Nat.le_trans (Nat.add_le_add_left (Nat.mul_le_mul_left 16 hc) 9) (by decide)), Nat.le_trans t1.pl (Nat.le_trans (Nat.add_le_add_left (Nat.mul_le_mul_left 6 hc) 2) (by decide)), Nat.le_trans t1.rl (Nat.le_trans hc (by decide)), t1.ds, t1.gv, t1.g2, t1.gg⟩ rfl
end
noncomputable def cE1 : List St := [.asg 26 (.ite (.l 5) (.k (V.str ("h" : Str))) (.k (V.str ("b" : Str)))),
 .asg 27 (.bin .Add (.k (V.str ("$readmem" : Str))) (.l 26)),
 .asg 28 (.call 33 [(.att (.l 9) ("signals" : Str)), (.l 19)]),
 .asg 29 (.bf .list [(.l 14)]),
 .ex (.call 28 [(.l 28), (.l 27), (.l 26), (.l 14), (.l 28)]),
 .ite (.bop .Or [(.cmp .NotEq (.att (.l 28) ("told" : Str)) (.l 20)), (.cmp .NotEq (.att (.l 28) ("lent" : Str)) (.att (.l 28) ("back" : Str))), (.cmp .NotEq (.l 14) (.l 29))]) [
  .ret (.k (V.bool false))] []]
noncomputable def tsk (hex : Bool) : Str := ("$readmem" : Str) ++ bas hex
section
variable {h : H} {s : V} {m p n w many cnt a dq : Nat} {low high start last way lo hi st addr : Int} {up hex : Bool} {T : Loc} {rest : List St} {Q : Fl × Loc → H → Prop} {X : Nat → Str → H → Prop} {arg : V} {r D : List V} {ps : List Pc} {g : Option Nat} {A B R : Nat} {text : Str}
theorem lawE1 (O : Orc) (x : HS h p n m w low high up a start last arg r dq D) (t : Tx hex (min start last) (max start last) ps none 200 100 100) (hw : 1 ≤ w) (hw9 : w ≤ 9)
  (eD : D = (plc (min start last) (max start last) (stepOf start last) start (rd ps).1).1.map (toldV hex w low high up)) {t22 t23 t24 t25 t26 t27 t28 t29 : Option V}
  (y : ∀ h' m' t28 t29, HS h' p n m' w low high up a start last arg r dq D →
   Run (xss (nx (nx (nx (nx (nx (nx O)))))) [] 4096 rest (LT s p n many low high up hex w cnt start last a way lo hi st (S (flat ps)) dq addr (t22 :: t23 :: t24 :: t25 :: some (.str (bas hex)) :: some (.str (tsk hex)) :: t28 :: t29 :: T)) h') Q X) :
  Run (xss (nx (nx (nx (nx (nx (nx O)))))) [] 4096 (cE1 ++ rest) (LT s p n many low high up hex w cnt start last a way lo hi st (S (flat ps)) dq addr (t22 :: t23 :: t24 :: t25 :: t26 :: t27 :: t28 :: t29 :: T)) h) Q X := by
 unfold LT LH cE1
 unfold LT LH at y
 simp only [List.cons_append, List.nil_append]
 refine g_asg (Run.of (a := V.str (bas hex)) (h := h) (by cases hex <;> rfl) ?_)
 simp only [List.set_cons_zero, List.set_cons_succ]
 have hl1 : ("$readmem" : Str).length + (bas hex).length ≤ 100000 := by cases hex <;> decide +kernel
 wp_walk
 rw [show ("$readmem" : Str) ++ bas hex = tsk hex from rfl]
 have e33 := f33 (nx (nx (nx (nx O)))) x.w.tab (.ref (n + 2)) (.str (S (flat ps))) h.length rfl
 have lt := x.w.lt
 have halt := (List.getElem?_eq_some_iff.mp x.hd.e).1
 have hdlt := (List.getElem?_eq_some_iff.mp x.d).1
 have hai := x.ai
 have hdi := x.di
 wp_walk using x.w.sigs, e33
 have ker := kern_new (h.set 0 (.tab (Nat.max m 3))) h.length (by simp) (.ref (n + 2)) (.str (S (flat ps)))
 have hs0 : Same [0] h (h.set 0 (.tab (Nat.max m 3))) := Same.set h (.head _) _
 have hs : Same [0] h (h.set 0 (.tab (Nat.max m 3)) ++ kL h.length (.ref (n + 2)) (.str (S (flat ps)))) := hs0.trans (Same.app _ _ _)
 have w1 : LawW (h.set 0 (.tab (Nat.max m 3)) ++ kL h.length (.ref (n + 2)) (.str (S (flat ps)))) p n (Nat.max m 3) w low high up := x.w.tab' _ hs (ga_ (gs0 x.w.tab))
 have ea1 := hs _ _ (nm1 (Nat.ne_of_gt (Nat.lt_of_lt_of_le (Nat.succ_pos _) hai))) x.hd.e
 have ed1 := hs _ _ (nm1 (Nat.ne_of_gt (Nat.lt_of_lt_of_le (Nat.succ_pos _) hdi))) x.d
 generalize h.set 0 (.tab (Nat.max m 3)) ++ kL h.length (.ref (n + 2)) (.str (S (flat ps))) = g1 at *
 have hal : (arg :: memV :: r).length ≤ 100000 := Nat.le_trans (Nat.succ_le_succ (Nat.succ_le_succ x.hd.rl)) (by decide)
 wp_walk using l_list ea1 hal
 have ker2 := ker.app [LO.lst (arg :: memV :: r)]
 have w2 : LawW (g1 ++ [LO.lst (arg :: memV :: r)]) p n (Nat.max m 3) w low high up := w1.oth (Same.app [] _ _) (by simp)
 have ea2 : (g1 ++ [LO.lst (arg :: memV :: r)])[a]? = _ := ga_ ea1
 have ed2 : (g1 ++ [LO.lst (arg :: memV :: r)])[dq]? = _ := ga_ ed1
 have ek2 : (g1 ++ [LO.lst (arg :: memV :: r)])[g1.length]? = some (.lst (arg :: memV :: r)) := hget0 _ _
 have hg1 : h.length + 18 < g1.length := (List.getElem?_eq_some_iff.mp ker.back).1
 generalize hg2 : g1 ++ [LO.lst (arg :: memV :: r)] = g2 at *
 have hfl := t.fl
 have hpl := t.pl
 obtain ⟨v, h3, e3, rfl, k', xk, s3⟩ := (f28_ok (nx O) ps t.ok (Nat.le_trans hfl (by decide)) (Nat.le_trans hpl (by decide)) hw hw9 (fun r hr => ⟨(t.ds r hr).1, (t.ds r hr).2.1, Nat.le_trans (t.ds r hr).2.2 (by decide)⟩) ker2 (w2.wor h.length (Nat.le_trans hai (Nat.le_of_lt halt))) (by decide) (by decide) ea2 halt x.hd.rl x.hd.nm start last x.hd.s x.hd.f x.hd.s1 x.hd.s2 x.hd.f1 x.hd.f2 t.gv (tsk hex)).get
 wp_walk using e3
 rw [List.nil_append, ← eD] at xk
 have ea3 := s3 _ _ (out3 halt) ea2
 have ed3 := s3 _ _ (out3 hdlt) ed2
 have ek3 := s3 _ _ (up3 hg1) ek2
 have w3 : LawW h3 p n (Nat.max m 3) w low high up := w2.oth s3 fun i hi => Nat.le_trans (Nat.le_trans hai (Nat.le_of_lt halt)) (in3 i hi)
 have p1 : plainL D = true := by rw [eD]; exact plain_told _ _ _ _ _ _
 have q1 : eqV h3 (.ref (h.length + 16)) (.ref dq) = some true := e_lst xk.told ed3 p1
 have q2 : eqV h3 (.ref (h.length + 17)) (.ref (h.length + 18)) = some true := e_lst xk.lent xk.back (plain_cnts k')
 have q3 : eqV h3 (.ref a) (.ref g1.length) = some true := e_lst ea3 ek3 x.hd.pl
 wp_walk using xk.kern.a_told, q1, xk.kern.a_lent, xk.kern.a_back, q2, q3
 exact y h3 _ _ _ ⟨w3, x.ai, x.di, x.ne, x.hd.to ea3, ed3⟩
end
noncomputable def eBig : Ex := (.lst [(.tup [(.lst []), (.l 34)]), (.tup [(.lst [(.tup [(.k (V.str ("none" : Str)))]), (.l 31)]), (.l 34)]), (.tup [(.lst [(.l 30)]), (.l 34)]), (.tup [(.lst [(.l 30), (.tup [(.k (V.str ("e" : Str))), (.tup [(.k (V.str ("const" : Str))), (.k (V.int 8)), (.k (V.int 1)), (.k (V.int 0))]), (.k (V.bool false))])]), (.l 34)]), (.tup [(.lst [(.l 30), (.l 31), (.tup [(.k (V.str ("none" : Str)))]), (.tup [(.k (V.str ("none" : Str)))]), (.tup [(.k (V.str ("none" : Str)))])]), (.l 34)]), (.tup [(.lst [(.l 30), (.l 31), (.l 32)]), (.l 34)]), (.tup [(.lst [(.l 30), (.l 31), (.tup [(.k (V.str ("s" : Str))), (.k (V.str ("0" : Str)))])]), (.l 34)]), (.tup [(.lst [(.l 30), (.l 31), (.tup [(.k (V.str ("none" : Str)))]), (.l 32)]), (.l 34)]), (.tup [(.lst [(.tup [(.k (V.str ("s" : Str))), (.k (V.str ("f2" : Str)))]), (.l 31)]), (.tup [(.k (V.str ("format" : Str))), (.k (V.str ("unknown_file" : Str)))])]), (.tup [(.lst [(.l 30), (.tup [(.k (V.str ("mem" : Str))), (.k (V.int 2))])]), (.tup [(.k (V.str ("design" : Str))), (.k (V.str ("assign_to_net" : Str)))])]), (.tup [(.lst [(.l 30), (.l 31), (.l 33)]), (.l 35)]), (.tup [(.lst [(.l 30), (.l 31), (.call 31 [(.l 3)]), (.l 33)]), (.l 35)])])
noncomputable def cE2 : List St := [.asg 30 (.tup [(.k (V.str ("s" : Str))), (.k (V.str ("f1" : Str)))]),
 .asg 31 (.tup [(.k (V.str ("mem" : Str))), (.k (V.int 1))]),
 .asg 32 (.tup [(.k (V.str ("e" : Str))), (.tup [(.k (V.str ("const" : Str))), (.k (V.int 8)), (.k (V.int 0)), (.k (V.int 1))]), (.k (V.bool true))]),
 .asg 33 (.call 31 [(.sub (.lst [(.bin .Sub (.l 3) (.k (V.int 1))), (.bin .Add (.l 8) (.k (V.int 1)))]) (.call 30 [(.l 1), (.k (V.int 2))]))]),
 .asg 34 (.tup [(.k (V.str ("design" : Str))), (.k (V.str ("wrong_arguments" : Str)))]),
 .asg 35 (.tup [(.k (V.str ("format" : Str))), (.k (V.str ("address_out_of_range" : Str)))])]
noncomputable def cE3 : List St := [.asg 37 (.call 30 [(.l 1), (.k (V.int 13))]),
 .ite (.cmp .Eq (.l 37) (.k (V.int 12))) [
  .asg 19 (.bin .Add (.js [(.k (V.str ("@" : Str))), (.fmt (.bin .Add (.l 8) (.k (V.int 2)))), (.k (V.str (" 1\n" : Str)))]) (.l 19)),
  .ret (.cmp .Eq (.call 34 [(.att (.l 9) ("signals" : Str)), (.l 19), (.l 27), (.l 26), (.l 14)]) (.l 35))] [],
 .ret (.cmp .Eq (.call 34 [(.att (.l 9) ("signals" : Str)), (.l 19), (.l 27), (.l 26), (.sub (.sub (.l 36) (.l 37)) (.k (V.int 0)))]) (.sub (.sub (.l 36) (.l 37)) (.k (V.int 1))))]
noncomputable def dW : V := .tup [.str "design", .str "wrong_arguments"]
noncomputable def fW : V := .tup [.str "format", .str "address_out_of_range"]
noncomputable def unkV : V := .tup [.str "e", .tup [.str "const", .int 8, .int 0, .int 1], .bool true]
noncomputable def itemsL (L : Nat) : List V := [.tup [.ref (L + 0), dW], .tup [.ref (L + 1), dW], .tup [.ref (L + 2), dW], .tup [.ref (L + 3), dW], .tup [.ref (L + 4), dW], .tup [.ref (L + 5), dW], .tup [.ref (L + 6), dW], .tup [.ref (L + 7), dW],
 .tup [.ref (L + 8), .tup [.str "format", .str "unknown_file"]], .tup [.ref (L + 9), .tup [.str "design", .str "assign_to_net"]], .tup [.ref (L + 10), fW], .tup [.ref (L + 11), fW]]
noncomputable def bads (low bv : Int) : List (List V) := [[], [nonV, memV], [argS], [argS, .tup [.str "e", .tup [.str "const", .int 8, .int 1, .int 0], .bool false]], [argS, memV, nonV, nonV, nonV], [argS, memV, unkV], [argS, memV, .tup [.str "s", .str "0"]], [argS, memV, nonV, unkV],
 [.tup [.str "s", .str "f2"], memV], [argS, .tup [.str "mem", .int 2]], [argS, memV, wA bv], [argS, memV, wA low, wA bv]]
noncomputable def GB (low bv : Int) (L : Nat) : H := (bads low bv).map LO.lst ++ [.lst (itemsL L)]
theorem newA (h l : H) (lo : LO) : newM (h ++ l) lo = .ok (.ref (h.length + l.length)) (h ++ (l ++ [lo])) := by
 show Res.ok (V.ref (h ++ l).length) (h ++ l ++ [lo]) = _
 rw [List.length_append, List.append_assoc]
theorem big (O : Orc) {loc : Loc} {h : H} {low bv : Int} (e3 : loc[3]? = some (some (.int low))) (e30 : loc[30]? = some (some argS)) (e31 : loc[31]? = some (some memV)) (e32 : loc[32]? = some (some unkV)) (e33 : loc[33]? = some (some (wA bv))) (e34 : loc[34]? = some (some dW)) (e35 : loc[35]? = some (some fW)) :
  ev (nx O) [] eBig loc (h ++ []) = .ok (.ref (h.length + 12)) (h ++ GB low bv h.length) := by
 unfold eBig
 row_walk with ⟨e3, e30, e31, e32, e33, e34, e35, newA, f31⟩
 rfl
noncomputable def Refd (X : Orc) (hex : Bool) (n w : Nat) (low high : Int) (up : Bool) (text : V) (xs : List V) (C : Nat) (kd : Str) : Prop :=
 ∀ (g : H) (k a : Nat), Ker g k (.ref (n + 2)) text 0 [] → Wor g k (n + 2) (n + 15) (n + 14) (n + 17) (n + 16) w low high up → g[a]? = some (.lst xs) → a < k →
  Run ((nx (nx (nx (nx (nx X))))).fn 28 [.ref (k + 4), .str (tsk hex), .str (bas hex), .ref a, .ref (k + 4)] g) (fun _ _ => False) (Ref g k (.ref (n + 2)) text [] C kd)
section
variable {h : H} {m p n w : Nat} {low high : Int} {up hex : Bool} {text : V}
theorem refuse (X : Orc) (x : LawW h p n m w low high up) (hn : n + 18 ≤ h.length) {b : Nat} {xs : List V} {C : Nat} {cls kd : Str} (eb : h[b]? = some (.lst xs)) (b0 : b ≠ 0) (hR : Refd X hex n w low high up text xs C kd)
  (hcls : ([(eDesign, ("design" : Str)), (eFormat, ("format" : Str))] : List (Nat × Str)).lookup C = some cls) (hkd : PyData.strOk kd = true) (hc : PyData.strOk cls = true) :
  Run ((nx (nx (nx (nx (nx (nx X)))))).fn 34 [.ref (n + 2), text, .str (tsk hex), .str (bas hex), .ref b] h) (fun v h' => v = .tup [.str cls, .str kd] ∧ Same [0, h.length + 16, h.length + 17, h.length + 18] h h' ∧ ∃ m', h'[0]? = some (.tab m')) NoX :=
 f34 X x.tab rfl _ _ _ _ _ C kd cls hcls hkd hc fun g kg sg => by
  have key : ∀ j y, 0 < j → h[j]? = some y → g[j]? = some y := fun j y a e => sg j y (nm1 (Nat.ne_of_gt a)) e
  have n0 := fun k => lt_at (Nat.lt_trans x.lt.1 x.lt.2) k
  refine hR g h.length b kg ⟨⟨_, key _ _ (n0 _) x.sg⟩, ⟨key _ _ (n0 _) x.m.i, key _ _ (n0 _) x.m.d⟩, ⟨key _ _ (n0 _) x.nn.i, key _ _ (n0 _) x.nn.d⟩, five hn⟩ (key _ _ (Nat.pos_of_ne_zero b0) eb) (ilt eb)
theorem pair_pl {a b : Str} (ha : PyData.strOk a = true) (hb : PyData.strOk b = true) : plainL [.str a, .str b] = true := plain_all 0 (by decide) fun x hx => by
 simp at hx
 rcases hx with rfl | rfl
 ·exact ⟨ha, Nat.le_refl _⟩
 ·exact ⟨hb, Nat.le_refl _⟩
theorem out_l {low high bv x : Int} (hb : bv = low - 1 ∨ bv = high + 1) : min bv x < low ∨ high < max bv x := by
 rcases hb with rfl | rfl
 ·exact .inl (Int.lt_of_le_of_lt (Int.min_le_left _ _) (Int.sub_lt_self low (by decide)))
 ·exact .inr (Int.lt_of_lt_of_le (Int.lt_succ high) (Int.le_max_left _ _))
theorem out_r {low high bv x : Int} (hb : bv = low - 1 ∨ bv = high + 1) : min x bv < low ∨ high < max x bv := by
 rw [Int.min_comm, Int.max_comm]; exact out_l hb
theorem out_v {low high bv : Int} (hlh : low ≤ high) (hlo : -1 ≤ low) (hhi : high ≤ 6) (hb : bv = low - 1 ∨ bv = high + 1) : -128 ≤ bv ∧ bv < 128 := by
 rcases hb with rfl | rfl
 ·exact ⟨Int.le_trans (by decide : (-128 : Int) ≤ -1 - 1) (Int.sub_le_sub_right hlo 1), Int.lt_of_le_of_lt (Int.sub_le_sub_right (Int.le_trans hlh hhi) 1) (by decide)⟩
 ·exact ⟨Int.le_trans (by decide : (-128 : Int) ≤ -1 + 1) (Int.add_le_add_right (Int.le_trans hlo hlh) 1), Int.lt_of_le_of_lt (Int.add_le_add_right hhi 1) (by decide)⟩
theorem wrongs (X : Orc) (hlh : low ≤ high) (hlo : -1 ≤ low) (hhi : high ≤ 6) {bv : Int} (hb : bv = low - 1 ∨ bv = high + 1) (L : Nat) (d : Nat) (hd : d < 12) :
  ∃ xs C cls kd, (bads low bv)[d]? = some xs ∧ (itemsL L)[d]? = some (.tup [.ref (L + d), .tup [.str cls, .str kd]]) ∧ ([(eDesign, ("design" : Str)), (eFormat, ("format" : Str))] : List (Nat × Str)).lookup C = some cls ∧ PyData.strOk kd = true ∧ PyData.strOk cls = true ∧ Refd X hex n w low high up text xs C kd := by
 have s1 : PyData.strOk ("design" : Str) = true := by decide +kernel
 have s2 : PyData.strOk ("format" : Str) = true := by decide +kernel
 have s3 : PyData.strOk ("wrong_arguments" : Str) = true := by decide +kernel
 have s4 : PyData.strOk ("address_out_of_range" : Str) = true := by decide +kernel
 have s5 : PyData.strOk ("unknown_file" : Str) = true := by decide +kernel
 have s6 : PyData.strOk ("assign_to_net" : Str) = true := by decide +kernel
 have v := out_v hlh hlo hhi hb
 have nm : NameV argS ("f1" : Str) := .s _
 have ld : ([(eDesign, ("design" : Str)), (eFormat, ("format" : Str))] : List (Nat × Str)).lookup eDesign = some "design" := rfl
 have lf : ([(eDesign, ("design" : Str)), (eFormat, ("format" : Str))] : List (Nat × Str)).lookup eFormat = some "format" := rfl
 have hd' : d = 0 ∨ d = 1 ∨ d = 2 ∨ d = 3 ∨ d = 4 ∨ d = 5 ∨ d = 6 ∨ d = 7 ∨ d = 8 ∨ d = 9 ∨ d = 10 ∨ d = 11 := (by decide : ∀ d, d < 12 → d = 0 ∨ d = 1 ∨ d = 2 ∨ d = 3 ∨ d = 4 ∨ d = 5 ∨ d = 6 ∨ d = 7 ∨ d = 8 ∨ d = 9 ∨ d = 10 ∨ d = 11) d hd
 rcases hd' with rfl | rfl | rfl | rfl | rfl | rfl | rfl | rfl | rfl | rfl | rfl | rfl
 ·exact ⟨_, _, _, _, rfl, rfl, ld, s3, s1, fun g k a kg W ea han => f28_b0 X kg (by decide) ea (by simp) (.inl rfl) _ _⟩
 ·exact ⟨_, _, _, _, rfl, rfl, ld, s3, s1, fun g k a kg W ea han => f28_b0 X kg (by decide) ea (by simp) (.inr ⟨_, rfl⟩) _ _⟩
 ·exact ⟨_, _, _, _, rfl, rfl, ld, s3, s1, fun g k a kg W ea han => f28_b2 X kg (by decide) ea han (by simp) nm (.inl rfl) _ _⟩
 ·exact ⟨_, _, _, _, rfl, rfl, ld, s3, s1, fun g k a kg W ea han => f28_b2 X kg (by decide) ea han (by simp) nm (.inr (.inr ⟨_, _, rfl⟩)) _ _⟩
 ·exact ⟨_, _, _, _, rfl, rfl, ld, s3, s1, fun g k a kg W ea han => f28_b2 X kg (by decide) ea han (by simp) nm (.inr (.inl rfl)) _ _⟩
 ·exact ⟨_, _, _, _, rfl, rfl, ld, s3, s1, fun g k a kg W ea han => f28_b5 X kg W hlh (by decide) ea han nm _ (.inl rfl)⟩
 ·exact ⟨_, _, _, _, rfl, rfl, ld, s3, s1, fun g k a kg W ea han => f28_b5 X kg W hlh (by decide) ea han nm _ (.inr rfl)⟩
 ·exact ⟨_, _, _, _, rfl, rfl, ld, s3, s1, fun g k a kg W ea han => f28_b7 X kg W hlh (by decide) ea han nm _⟩
 ·exact ⟨_, _, _, _, rfl, rfl, lf, s5, s2, fun g k a kg W ea han => f28_b8 X kg (by decide) ea han (by simp) _ _⟩
 ·exact ⟨_, _, _, _, rfl, rfl, ld, s6, s1, fun g k a kg W ea han => f28_b9 X kg W (by decide) ea han (by simp) nm _ _⟩
 ·exact ⟨_, _, _, _, rfl, rfl, lf, s4, s2, fun g k a kg W ea han => f28_b10 X kg W hlh (by decide) ea han (by simp) nm _ bv high (aw_w rfl v.1 v.2) (aw_u (by simp)) (out_l hb)⟩
 ·exact ⟨_, _, _, _, rfl, rfl, lf, s4, s2, fun g k a kg W ea han => f28_b10 X kg W hlh (by decide) ea han (by simp) nm _ low bv (aw_w rfl (Int.le_trans (by decide) hlo) (Int.lt_of_le_of_lt (Int.le_trans hlh hhi) (by decide))) (aw_w rfl v.1 v.2) (out_r hb)⟩
theorem stp_fold (ps : List Pc) : ∀ (l : List Row) (g : Option Nat), (ps.foldl stp (l, g)).1 = l ++ (ps.foldl stp ([], g)).1 := by
 induction ps with
 | nil => intro l g; simp
 | cons p ps ih =>
  intro l g
  simp only [List.foldl_cons]
  cases p with
  | ad a => exact ih l (some a)
  | dg ds =>
   show (ps.foldl stp (l ++ [(g, ds)], none)).1 = l ++ (ps.foldl stp ([] ++ [(g, ds)], none)).1
   rw [ih (l ++ [(g, ds)]) none, ih ([] ++ [(g, ds)]) none]
   simp
  | ws c => exact ih l g
  | lc bs => exact ih l g
  | bc => exact ih l g
theorem beyond12 (X : Orc) (hlh : low ≤ high) {a : Nat} {start last : Int} {arg : V} {r : List V} (hd : Hand h a low high start last arg r) {ps : List Pc} {lo hi : Int} (t : Tx hex lo hi ps none 200 100 100) {k : Nat} (hk : k ≤ 9) (hk2 : high < (k : Int)) :
  Refd X hex n w low high up (.str (S (flat ([.ad k, .ws 32, .dg [49], .ws 10] ++ ps)))) (arg :: memV :: r) eFormat "address_out_of_range" := by
 intro g k' a' kg W ea han
 have ok : OkPs hex ([.ad k, .ws 32, .dg [49], .ws 10] ++ ps) := okPs_app t.ok [.ad k, .ws 32, .dg [49], .ws 10] ⟨hk, ⟨32, _, rfl⟩, rfl, ⟨fun c hc => by simp at hc; subst hc; unfold okD sgn; simp, by decide, ⟨10, [], rfl⟩, rfl, trivial⟩⟩
 have fl := t.fl
 have pl := t.pl
 have e : (rd ([.ad k, .ws 32, .dg [49], .ws 10] ++ ps)).1 = (some k, [49]) :: (ps.foldl stp ([], none)).1 := by
  show (ps.foldl stp ([(some k, [49])], none)).1 = _
  rw [stp_fold]; rfl
 exact f28_b12 X _ ok (by rw [flat_app, List.length_append]; exact Nat.le_trans (Nat.add_le_add_left fl 5) (by decide)) (by rw [List.length_append]; exact Nat.le_trans (Nat.add_le_add_left pl 4) (by decide)) kg W hlh (by decide) ea han hd.rl hd.nm _ start last hd.s hd.f hd.s1 hd.s2 hd.f1 hd.f2 e hk2
end
section
variable {h : H} {s : V} {m p n w many cnt a dq : Nat} {low high start last way lo hi st addr : Int} {up hex : Bool} {T : Loc} {arg : V} {r D : List V} {ps : List Pc}
theorem lawE2 (X : Orc) (x : HS h p n m w low high up a start last arg r dq D) (t : Tx hex (min start last) (max start last) ps none 200 100 100) (hlh : low ≤ high) (hlo : -1 ≤ low) (hhi : high ≤ 6) {t22 t23 t24 t25 t28 t29 t30 t31 t32 t33 t34 t35 t36 t37 : Option V} :
  Run (xss (nx (nx (nx (nx (nx (nx X)))))) [] 4096 (cE2 ++ .asg 36 eBig :: cE3) (LT s p n many low high up hex w cnt start last a way lo hi st (S (flat ps)) dq addr (t22 :: t23 :: t24 :: t25 :: some (.str (bas hex)) :: some (.str (tsk hex)) :: t28 :: t29 :: t30 :: t31 :: t32 :: t33 :: t34 :: t35 :: t36 :: t37 :: [])) h)
   (End fun v h' => v = .bool true ∧ ∃ m', h'[0]? = some (.tab m')) NoX := by
 unfold LT LH cE2
 simp only [List.cons_append, List.nil_append]
 have lt := x.w.lt
 have hai := x.ai
 have halt := (List.getElem?_eq_some_iff.mp x.hd.e).1
 wp_walk
 wp_walk
 wp_walk
 have x1 := x.app [LO.lst [.int (low - 1), .int (high + 1)]]
 have el : (h ++ [LO.lst [.int (low - 1), .int (high + 1)]])[h.length]? = some (.lst [.int (low - 1), .int (high + 1)]) := hget0 _ _
 obtain ⟨d, h2, e2, a2, b2, P2, s2, l2⟩ := draw (nx (nx (nx (nx (nx X))))) x1.w.pool 2 (by decide) (by decide)
 have x2 := x1.dr P2 s2
 have el2 := s2 _ _ (x.w.np (Nat.le_trans hai (Nat.le_of_lt halt))) el
 obtain ⟨bv, hb, es⟩ : ∃ bv, (bv = low - 1 ∨ bv = high + 1) ∧ subV (.ref h.length) (.int d) h2 = .ok (.int bv) h2 := by
  have hd2 : d = 0 ∨ d = 1 := j2 a2 b2
  rcases hd2 with rfl | rfl
  ·exact ⟨_, .inl rfl, l_s0 el2⟩
  ·exact ⟨_, .inr rfl, l_s1 el2⟩
 wp_walk using newM_eq, e2, es, f31
 wp_walk
 wp_walk
 have eb := fun (L : Loc) e3 e30 e31 e32 e33 e34 e35 => big (nx (nx (nx (nx (nx X))))) (loc := L) (h := h2) (low := low) (bv := bv) e3 e30 e31 e32 e33 e34 e35
 rw [List.append_nil] at eb
 refine g_asg (Run.of (eb _ rfl rfl rfl rfl rfl rfl rfl) ?_)
 simp only [List.set_cons_zero, List.set_cons_succ]
 have x3 := x2.app (GB low bv h2.length)
 have eit : (h2 ++ GB low bv h2.length)[h2.length + 12]? = some (.lst (itemsL h2.length)) := hget _ _ 12
 have ebd : ∀ d xs, d < 12 → (bads low bv)[d]? = some xs → (h2 ++ GB low bv h2.length)[h2.length + d]? = some (.lst xs) := fun d xs hd e => by
  rw [hget]
  unfold GB
  rw [List.getElem?_append_left (show d < ((bads low bv).map LO.lst).length from hd), List.getElem?_map, e]
  rfl
 have hl3 : h2.length + 12 < (h2 ++ GB low bv h2.length).length := (List.getElem?_eq_some_iff.mp eit).1
 have h2n : n + 18 < h2.length := Nat.lt_of_le_of_lt hai (ilt x2.hd.e)
 generalize hL : h2.length = L at *
 generalize h2 ++ GB low bv L = h3 at *
 unfold cE3
 obtain ⟨d3, h4, e4, a4, b4, P4, s4, l4⟩ := draw (nx (nx (nx (nx (nx X))))) x3.w.pool 13 (by decide) (by decide)
 have x4 := x3.dr P4 s4
 have pL : p < L := Nat.lt_trans (lt_at lt.2 18) h2n
 have eit4 := s4 _ _ (nm1 (Nat.ne_of_gt (lt_at pL 12))) eit
 have ebd4 : ∀ d xs, d < 12 → (bads low bv)[d]? = some xs → h4[L + d]? = some (.lst xs) := fun d xs hd e => s4 _ _ (nm1 (Nat.ne_of_gt (lt_at pL d))) (ebd d xs hd e)
 wp_walk using e4
 have s2' : PyData.strOk ("format" : Str) = true := by decide +kernel
 have s4' : PyData.strOk ("address_out_of_range" : Str) = true := by decide +kernel
 refine g_ite ?_
 by_cases c : d3 = 12
 ·have g : (d3 == 12) = true := by simp [c]
  row_walk with ⟨g⟩
  obtain ⟨k, hk⟩ := Int.eq_ofNat_of_zero_le (show 0 ≤ high + 2 from Int.le_trans (by decide : (0 : Int) ≤ -1 + 2) (Int.add_le_add_right (Int.le_trans hlo hlh) 2))
  have k9 : k ≤ 9 := Int.ofNat_le.mp (hk ▸ Int.le_trans (Int.add_le_add_right hhi 2) (by decide))
  have q1 : ("@" : Str) = S [64] := by decide +kernel
  have q2 : (" 1\n" : Str) = S [32, 49, 10] := by decide +kernel
  have ej : ∀ L : Loc, L[8]? = some (some (.int high)) → ev (nx (nx (nx (nx (nx (nx X)))))) [] (.js [.k (.str (S [64])), .fmt (.bin .Add (.l 8) (.k (.int 2))), .k (.str (S [32, 49, 10]))]) L h4 = .ok (.str (S ([64] ++ [48 + k] ++ [32, 49, 10]))) h4 := fun L e =>
   js3 (by simp only [ev_bin, ev_l, ev_k, e, bok, b_add, hk]) k9 (by decide) (by decide)
  simp only [ev_js] at ej
  rw [q1, q2]
  refine g_asg ?_
  simp only [ev_bin, ev_l, ev_js]
  simp only [ej, List.getElem?_cons_zero, List.getElem?_cons_succ, bok]
  have fl := t.fl
  have hlen : ([64] ++ [48 + k] ++ [32, 49, 10] : List Nat).length + (flat ps).length ≤ 100000 := Nat.le_trans (Nat.add_le_add_left fl 5) (by decide)
  row_walk with ⟨S_len, S_app⟩
  have ef : flat ([.ad k, .ws 32, .dg [49], .ws 10] ++ ps) = [64] ++ [48 + k] ++ [32, 49, 10] ++ flat ps := by rw [flat_app]; rfl
  obtain ⟨v, h6, e6, rfl, s6, mt⟩ := (refuse X x4.w (Nat.le_trans hai (Nat.le_of_lt (ilt x4.hd.e))) x4.hd.e (Nat.ne_of_gt (Nat.lt_of_lt_of_le (Nat.succ_pos _) hai)) (beyond12 X hlh x4.hd t (k := k) k9 (hk ▸ Int.lt_add_of_pos_right high (by decide))) rfl s4' s2').get
  rw [ef] at e6
  simp only [List.cons_append, List.nil_append] at e6
  have ec : eqV h6 (.tup [.str "format", .str "address_out_of_range"]) (.tup [.str "format", .str "address_out_of_range"]) = some true := e_tup (pair_pl s2' s4')
  wp_walk using x4.w.sigs, e6, ec
  exact mt
 ·have g : (d3 == 12) = false := by simp [c]
  row_walk with ⟨g⟩
  obtain ⟨k, rfl⟩ := Int.eq_ofNat_of_zero_le a4
  have hk : k < 12 := Nat.lt_of_le_of_ne (Nat.le_of_lt_succ (Int.ofNat_lt.mp b4)) fun q => c (by rw [q]; rfl)
  obtain ⟨xs, C, cls, kd, w1, w2, w3, w4, w5, w6⟩ := wrongs (n := n) (w := w) (up := up) (hex := hex) (text := .str (S (flat ps))) X hlh hlo hhi hb L k hk
  have es4 := l_sub eit4 w2 (Nat.lt_trans hk (by decide))
  obtain ⟨v, h6, e6, rfl, s6, mt⟩ := (refuse X x4.w (Nat.le_trans hai (Nat.le_of_lt (ilt x4.hd.e))) (ebd4 k xs hk w1) (Nat.ne_of_gt (lt_at (Nat.lt_of_le_of_lt (Nat.zero_le _) h2n) k)) w6 w3 w4 w5).get
  have eit6 := s6 _ _ (nm4 (Nat.succ_ne_zero _) (ne_at (ilt eit4) _) (ne_at (ilt eit4) _) (ne_at (ilt eit4) _)) eit4
  have es6 := l_sub eit6 w2 (Nat.lt_trans hk (by decide))
  have ec : eqV h6 (.tup [.str cls, .str kd]) (.tup [.str cls, .str kd]) = some true := e_tup (pair_pl w5 w4)
  wp_walk using x4.w.sigs, es4, e6, es6, ec
  exact mt
end
theorem law_code : b35.code = cA ++ (cDes ++ (cH1 ++ (cH2 ++ (cH3 ++ (cT ++ (cE1 ++ (cE2 ++ .asg 36 eBig :: cE3))))))) := rfl
theorem f35 (X : Orc) (ns : List Int) (hl : ns.length ≤ 63) : Run ((nx (nx (nx (nx (nx (nx (nx X))))))).fn 35 [.sc ns] [.tab 0]) (fun v h' => v = .bool true ∧ ∃ m', h'[0]? = some (.tab m')) NoX := by
 rw [r35]
 refine g_end ?_
 rw [law_code]
 refine lawA (nx (nx (nx (nx X)))) (h := [.tab 0]) (m := 0) (ns := ns) rfl hl _ _ _ fun h1 p n many w cnt low high up hex x1 hn m1 m5 l1 l2 hh w1 w9 c7 => ?_
 have hi6 : high ≤ 6 := hh ▸ Int.le_trans (Int.sub_le_sub_right (Int.add_le_add l2 (Int.ofNat_le.mpr m5)) 1) (by decide)
 refine lawH1 (s := .sc ns) (w := w) (cnt := cnt) (many := many) (hex := hex) (nx (nx (nx (nx (nx X))))) x1 hn fun h2 a arg x2 ha ea harg => ?_
 have halt := (List.getElem?_eq_some_iff.mp ea).1
 refine lawH2 (nx (nx (nx (nx (nx X))))) x2 (Nat.le_trans ha (Nat.le_of_lt halt)) m1 m5 l1 l2 hh ha ea harg fun h3 a start last arg r way x3 ha hd => ?_
 refine lawH3 (nx (nx (nx (nx (nx X))))) x3 ha hd fun h4 r x4 hd => ?_
 refine lawT (nx (nx (nx (nx (nx X))))) x4 ha hd w1 w9 c7 hi6 fun h5 ps D dq st addr t22 t23 t24 t25 x5 t eD => ?_
 refine lawE1 X x5 t w1 w9 eD fun h6 m' t28 t29 x6 => ?_
 exact lawE2 X x6 t (hh ▸ Int.le_sub_one_of_lt (Int.lt_add_of_pos_right low (Int.ofNat_lt.mpr m1))) l1 hi6
end
noncomputable def objOf (K : Frag) (a : Addr) : Obj := match K.lookup a with
 | some o => o
 | none => { cls := .none, data := .plain }
noncomputable def stmtsOf : FuncBody → List Stmt
 | .stmts b => b
 | _ => []
noncomputable def namesOf (sc : Scope) (k : NameKind) : List Str := (sc.names.filter fun p => p.2 == k).map (·.1)
noncomputable def fxOf (o : Obj) (defs : List (Str × Nat)) : FX := match o.data with
 | .func fd => ⟨fd.name, fd.qualname, fd.params, stmtsOf fd.body, fd.scope, fd.defaults, fd.kwdefaults, fd.doc, fd.pyModule, fd.annotations, fd.code, fd.closureTuple, fd.params.args.map (·.arg), namesOf fd.scope .local, (namesOf fd.scope .cell).head?, defs⟩
 | _ => ⟨Str.empty, Str.empty, default, [], default, .none, .none, .none, .none, none, .none, .none, [], [], none, []⟩
noncomputable def faL : List Addr := [85, 93, 128, 511, 518, 525, 532, 539, 546, 553, 560, 567, 574, 581, 588, 595, 609, 616, 630, 623, 637, 651, 658, 672, 686, 707, 714, 770, 602, 782, 789, 796, 801, 808, 815, 822]
noncomputable def fnL : List (Str × Nat) := [("mask", 0), ("vec", 1), ("to_int", 2), ("evaluate", 3), ("digit_bits", 4), ("decimal_value", 5), ("size_value", 6), ("digit_pair", 7), ("grouped", 8), ("padded_vec", 9), ("numeral", 10), ("fits_base", 11), ("string_text", 12), ("arg_values", 13),
 ("text_arg", 14), ("whole_arg", 15), ("placed_rows", 16), ("gap_end", 17), ("address_value", 18), ("read_memory", 19), ("net_kinds", 20), ("load_memory", 28), ("_law_pool", 29), ("_law_drawn", 30), ("_law_whole", 31), ("_law_word", 32), ("_law_kernel", 33), ("_law_refused", 34), ("law", 35)]
noncomputable def anL : List Str := List.map Str.ofString ["key","path","kind","width","signed","msb","lsb","first","last","init","at","scalar","signals","assigns","gates","udps","processes","routines","scopes","tops","ports","maker","nesting","by_path",
 "number","code","pc","frame","calls","parent","children","done","wait","stamp","looking","again","store","files","told","lent","back","context","close_context","set_word"]
noncomputable def defL : List (Str × Nat) := [("_law_context", 0), ("_law_back", 1), ("_law_set", 2)]
noncomputable def ct0 : CT where
 sc := default
 loc := []
 cel := []
 fns := fnL
 cls := [("Signal", (689, 21)), ("Design", (752, 25)), ("Thread", (773, 27))]
 gl := [("MOST_BITS", 65536), ("PLAIN_BITS", 32)]
 mth := [("is_net", (689, 22)), ("words", (689, 23)), ("place", (689, 24)), ("add_signal", (752, 26))]
 an := anL
 exc := [("DesignError", 64), ("FormatError", 76), ("SourceError", 52)]
 defs := []
 P := 803
 dq := Str.empty
noncomputable def KK (w : World) : Frag := K0 w.params
noncomputable def dfsOf (i : Nat) : List (Str × Nat) := if i = 33 then defL else []
noncomputable def fxK (w : World) (i : Nat) : FX := fxOf (objOf (KK w) (faL.getD i 0)) (dfsOf i)
noncomputable def codeK (F : FX) : FB := ⟨F.ps, F.loc, F.cel.toList, cSs (ct0.at F.scope F.loc F.cel.toList F.defs F.dq) F.body⟩
set_option maxHeartbeats 4000000
theorem code0 (w : World) : codeK (fxK w 0) = b0 := by kernel_rfl
theorem code1 (w : World) : codeK (fxK w 1) = b1 := by kernel_rfl
theorem code2 (w : World) : codeK (fxK w 2) = b2 := by kernel_rfl
theorem code3 (w : World) : codeK (fxK w 3) = b3 := by kernel_rfl
theorem code4 (w : World) : codeK (fxK w 4) = b4 := by kernel_rfl
theorem code5 (w : World) : codeK (fxK w 5) = b5 := by kernel_rfl
theorem code6 (w : World) : codeK (fxK w 6) = b6 := by kernel_rfl
theorem code7 (w : World) : codeK (fxK w 7) = b7 := by kernel_rfl
theorem code8 (w : World) : codeK (fxK w 8) = b8 := by kernel_rfl
theorem code9 (w : World) : codeK (fxK w 9) = b9 := by kernel_rfl
theorem code10 (w : World) : codeK (fxK w 10) = b10 := by kernel_rfl
theorem code11 (w : World) : codeK (fxK w 11) = b11 := by kernel_rfl
theorem code12 (w : World) : codeK (fxK w 12) = b12 := by kernel_rfl
theorem code13 (w : World) : codeK (fxK w 13) = b13 := by kernel_rfl
theorem code14 (w : World) : codeK (fxK w 14) = b14 := by kernel_rfl
theorem code15 (w : World) : codeK (fxK w 15) = b15 := by kernel_rfl
theorem code16 (w : World) : codeK (fxK w 16) = b16 := by kernel_rfl
theorem code17 (w : World) : codeK (fxK w 17) = b17 := by kernel_rfl
theorem code18 (w : World) : codeK (fxK w 18) = b18 := by kernel_rfl
theorem code19 (w : World) : codeK (fxK w 19) = b19 := by kernel_rfl
theorem code20 (w : World) : codeK (fxK w 20) = b20 := by kernel_rfl
theorem code21 (w : World) : codeK (fxK w 21) = b21 := by kernel_rfl
theorem code22 (w : World) : codeK (fxK w 22) = b22 := by kernel_rfl
theorem code23 (w : World) : codeK (fxK w 23) = b23 := by kernel_rfl
theorem code24 (w : World) : codeK (fxK w 24) = b24 := by kernel_rfl
theorem code25 (w : World) : codeK (fxK w 25) = b25 := by kernel_rfl
theorem code26 (w : World) : codeK (fxK w 26) = b26 := by kernel_rfl
theorem code27 (w : World) : codeK (fxK w 27) = b27 := by kernel_rfl
theorem code28 (w : World) : codeK (fxK w 28) = b28 := by kernel_rfl
theorem code29 (w : World) : codeK (fxK w 29) = b29 := by kernel_rfl
theorem code30 (w : World) : codeK (fxK w 30) = b30 := by kernel_rfl
theorem code31 (w : World) : codeK (fxK w 31) = b31 := by kernel_rfl
theorem code32 (w : World) : codeK (fxK w 32) = b32 := by kernel_rfl
theorem code33 (w : World) : codeK (fxK w 33) = b33 := by kernel_rfl
theorem code34 (w : World) : codeK (fxK w 34) = b34 := by kernel_rfl
theorem code35 (w : World) : codeK (fxK w 35) = b35 := by kernel_rfl
noncomputable def ref? : Value → Option Addr
 | .ref c => some c
 | _ => none
noncomputable def txt? : Value → Option Str
 | .str q _ => some q
 | _ => none
noncomputable def flds? : Data → Option (Array Value)
 | .fields vs => some vs
 | _ => none
theorem refv_of {v : Value} {c : Addr} (e : ref? v = some c) : v = .ref c := by cases v <;> cases e; rfl
theorem txt_of {v : Value} {c : Str} (e : txt? v = some c) : ∃ t, v = .str c t := by cases v <;> cases e; exact ⟨_, rfl⟩
theorem flds_of {v : Data} {c : Array Value} (e : flds? v = some c) : v = .fields c := by cases v <;> cases e; rfl
noncomputable def recQ (K : Frag) (v : Value) : Option Str := (ref? v).bind fun c => (K.lookup c).bind fun o => (flds? o.data).bind fun vs => (vs[1]? : Option Value).bind txt?
theorem recQ_of {K : Frag} {v : Value} {q : Str} (e : recQ K v = some q) (hp : Heap) (X : K.In hp) : hp.CodeRec v q := by
 obtain ⟨c, h1, e⟩ := Option.bind_eq_some_iff.mp e
 obtain ⟨o, h2, e⟩ := Option.bind_eq_some_iff.mp e
 obtain ⟨vs, h3, e⟩ := Option.bind_eq_some_iff.mp e
 obtain ⟨u, h4, e⟩ := Option.bind_eq_some_iff.mp e
 obtain ⟨t, rfl⟩ := txt_of e
 exact ⟨c, o, vs, t, refv_of h1, X _ _ h2, flds_of h3, h4⟩
noncomputable def ndB : List Str → Bool
 | [] => true
 | x :: r => !r.contains x && ndB r
theorem ndB_of {l : List Str} (h : ndB l = true) : l.Nodup := by
 induction l with
 | nil => exact List.nodup_nil
 | cons x r ih =>
  have h := Bool.and_eq_true_iff.mp h
  exact List.nodup_cons.mpr ⟨fun q => by rw [List.contains_iff_mem.mpr q] at h; exact absurd h.1 (by decide), ih h.2⟩
noncomputable def nmB (sc : Scope) (k : NameKind) (x : Str) : Bool := sc.names.lookup x == some k && !(x == ("__debug__" : Str))
theorem nmB_of {sc : Scope} {k : NameKind} {x : Str} (h : nmB sc k x = true) : sc.names.lookup x = some k ∧ (x == ("__debug__" : Str)) = false := by
 unfold nmB at h
 rw [Bool.and_eq_true, Bool.not_eq_true'] at h
 exact ⟨eq_of_beq h.1, h.2⟩
noncomputable def fxB (F : FX) : Bool := !F.scope.isCoroutine && !F.scope.isGenerator && F.scope.kind == .function && F.loc.all (nmB F.scope .local) && ndB F.loc &&
 F.cel.toList.all (fun x => nmB F.scope .cell x && !(x == ("__classdict__" : Str))) && F.ps.all (fun x => F.loc.contains x || F.cel == some x) && ndB F.ps
theorem fx_ok {G : GW} {a : Addr} {F : FX} {o : Obj} (e1 : G.K.lookup a = some o) (e2 : o.data = .func F.fd) (e3 : recQ G.K F.cdv = some F.qual)
  (e4 : ∀ (s : Shared) us, G.K.In s.heap → us.length = F.ps.length → BindsTo s F.fd ⟨us, []⟩ (F.ps.zip us)) (e5 : fxB F = true) (e6 : ∀ n, cellsFrom n F.scope.names [] = F.cel.toList.map fun x => (x, n))
  (e7 : F.defs ≠ [] → ∃ c0, F.cdv = .ref c0 ∧ ∀ hp, G.K.In hp → CodeHd hp c0 G.P) : F.Ok G a := by
 unfold fxB at e5
 simp only [Bool.and_eq_true, Bool.not_eq_true', List.all_eq_true] at e5
 obtain ⟨⟨⟨⟨⟨⟨⟨c1, c2⟩, c3⟩, c4⟩, c5⟩, c6⟩, c7⟩, c8⟩ := e5
 refine ⟨⟨o, e1, e2⟩, recQ_of e3, e4, c1, c2, eq_of_beq c3, fun x hx => nmB_of (c4 x hx), ndB_of c5, e6, fun x hx => ?_, fun x hx => ?_, ndB_of c8, e7⟩
 ·have := c6 x (Option.mem_toList.mpr hx)
  exact ⟨(nmB_of this.1).1, (nmB_of this.1).2, this.2⟩
 ·have := c7 x hx
  rw [Bool.or_eq_true] at this
  rcases this with q | q
  ·exact .inl (List.contains_iff_mem.mp q)
  ·exact .inr (eq_of_beq q)
noncomputable def allB : Nat → (List Value → Prop) → Prop
 | 0, P => P []
 | n + 1, P => ∀ u, allB n (fun us => P (u :: us))
theorem allB_of {n : Nat} {P : List Value → Prop} (h : allB n P) {us : List Value} (hu : us.length = n) : P us := by
 induction n generalizing us P with
 | zero => obtain rfl := List.length_eq_zero_iff.mp hu; exact h
 | succ n ih => cases us with
  | nil => cases hu
  | cons u us => exact ih (h u) (Nat.succ.inj hu)
theorem bind_n {fd : FuncData} {ps : List Str} (n : Nat) (hk : ps.length = n) (h : allB n fun us => bindArgs fd ⟨us, []⟩ = pure (ps.zip us)) (s : Shared) (us : List Value) (hu : us.length = ps.length) : BindsTo s fd ⟨us, []⟩ (ps.zip us) := by
 rw [hk] at hu
 exact BindsTo.of_eq (allB_of h hu)
theorem len3 {α : Type} {l : List α} (h : l.length = 3) : ∃ a b c, l = [a, b, c] := by
 obtain ⟨a, l, rfl⟩ := List.exists_cons_of_length_eq_add_one h
 obtain ⟨b, l, rfl⟩ := List.exists_cons_of_length_eq_add_one (Nat.succ.inj h)
 obtain ⟨c, rfl⟩ := List.length_eq_one_iff.mp (Nat.succ.inj (Nat.succ.inj h))
 exact ⟨a, b, c, rfl⟩
section
variable {G : GW} {w : World}
theorem fx_ok0 (hK : G.K = KK w) : (fxK w 0).Ok G 85 := by
 refine fx_ok (o := objOf (KK w) 85) (by rw [hK]; kernel_rfl) (by kernel_rfl) (by rw [hK]; kernel_rfl) (fun s us _ => bind_n 1 (show (fxK w 0).ps.length = 1 by kernel_rfl) (fun u0 => show bindArgs (fxK w 0).fd ⟨[u0], []⟩ = pure ((fxK w 0).ps.zip [u0]) by kernel_rfl) s us) (by kernel_rfl) (fun n => by kernel_rfl) (fun q => absurd (show (fxK w 0).defs = [] by kernel_rfl) q)
theorem fd1 (w : World) : (fxK w 1).fd = { (fxK w 1).fd with params := { posonlyargs := [], args := [{ arg := "w", annotation := none, pos := { line := 20, col := 8, endLine := 20, endCol := 9 } }, { arg := "a", annotation := none, pos := { line := 20, col := 11, endLine := 20, endCol := 12 } }, { arg := "b", annotation := none, pos := { line := 20, col := 14, endLine := 20, endCol := 15 } }], vararg := none, kwonlyargs := [], kw_defaults := [], kwarg := none, defaults := [.Constant (.int 0) 0 { line := 20, col := 16, endLine := 20, endCol := 17 }] }, defaults := .ref 86, kwdefaults := .none } := by kernel_rfl
theorem fx_ok1 (hK : G.K = KK w) : (fxK w 1).Ok G 93 := by
 refine fx_ok (o := objOf (KK w) 93) (by rw [hK]; kernel_rfl) (by kernel_rfl) (by rw [hK]; kernel_rfl) (fun s us X hu => ?_) (by kernel_rfl) (fun n => by kernel_rfl) (fun q => absurd (show (fxK w 1).defs = [] by kernel_rfl) q)
 rw [show (fxK w 1).ps.length = 3 by kernel_rfl] at hu
 obtain ⟨a, b, c, rfl⟩ := len3 hu
 ·rw [fd1, show (fxK w 1).ps = (["w", "a", "b"] : List Str) by kernel_rfl]
  exact BindsTo.of_defaults (T := 86) (o := objOf (KK w) 86) (items := #[.int 0 289]) (n := 0) rfl (X _ _ (by rw [hK]; kernel_rfl)) (by kernel_rfl) (by rfl) (by rfl)
theorem fx_ok2 (hK : G.K = KK w) : (fxK w 2).Ok G 128 := by
 refine fx_ok (o := objOf (KK w) 128) (by rw [hK]; kernel_rfl) (by kernel_rfl) (by rw [hK]; kernel_rfl) (fun s us _ => bind_n 2 (show (fxK w 2).ps.length = 2 by kernel_rfl) (fun u0 u1 => show bindArgs (fxK w 2).fd ⟨[u0, u1], []⟩ = pure ((fxK w 2).ps.zip [u0, u1]) by kernel_rfl) s us) (by kernel_rfl) (fun n => by kernel_rfl) (fun q => absurd (show (fxK w 2).defs = [] by kernel_rfl) q)
theorem fx_ok3 (hK : G.K = KK w) : (fxK w 3).Ok G 511 := by
 refine fx_ok (o := objOf (KK w) 511) (by rw [hK]; kernel_rfl) (by kernel_rfl) (by rw [hK]; kernel_rfl) (fun s us _ => bind_n 2 (show (fxK w 3).ps.length = 2 by kernel_rfl) (fun u0 u1 => show bindArgs (fxK w 3).fd ⟨[u0, u1], []⟩ = pure ((fxK w 3).ps.zip [u0, u1]) by kernel_rfl) s us) (by kernel_rfl) (fun n => by kernel_rfl) (fun q => absurd (show (fxK w 3).defs = [] by kernel_rfl) q)
theorem fx_ok4 (hK : G.K = KK w) : (fxK w 4).Ok G 518 := by
 refine fx_ok (o := objOf (KK w) 518) (by rw [hK]; kernel_rfl) (by kernel_rfl) (by rw [hK]; kernel_rfl) (fun s us _ => bind_n 1 (show (fxK w 4).ps.length = 1 by kernel_rfl) (fun u0 => show bindArgs (fxK w 4).fd ⟨[u0], []⟩ = pure ((fxK w 4).ps.zip [u0]) by kernel_rfl) s us) (by kernel_rfl) (fun n => by kernel_rfl) (fun q => absurd (show (fxK w 4).defs = [] by kernel_rfl) q)
theorem fx_ok5 (hK : G.K = KK w) : (fxK w 5).Ok G 525 := by
 refine fx_ok (o := objOf (KK w) 525) (by rw [hK]; kernel_rfl) (by kernel_rfl) (by rw [hK]; kernel_rfl) (fun s us _ => bind_n 1 (show (fxK w 5).ps.length = 1 by kernel_rfl) (fun u0 => show bindArgs (fxK w 5).fd ⟨[u0], []⟩ = pure ((fxK w 5).ps.zip [u0]) by kernel_rfl) s us) (by kernel_rfl) (fun n => by kernel_rfl) (fun q => absurd (show (fxK w 5).defs = [] by kernel_rfl) q)
theorem fx_ok6 (hK : G.K = KK w) : (fxK w 6).Ok G 532 := by
 refine fx_ok (o := objOf (KK w) 532) (by rw [hK]; kernel_rfl) (by kernel_rfl) (by rw [hK]; kernel_rfl) (fun s us _ => bind_n 2 (show (fxK w 6).ps.length = 2 by kernel_rfl) (fun u0 u1 => show bindArgs (fxK w 6).fd ⟨[u0, u1], []⟩ = pure ((fxK w 6).ps.zip [u0, u1]) by kernel_rfl) s us) (by kernel_rfl) (fun n => by kernel_rfl) (fun q => absurd (show (fxK w 6).defs = [] by kernel_rfl) q)
theorem fx_ok7 (hK : G.K = KK w) : (fxK w 7).Ok G 539 := by
 refine fx_ok (o := objOf (KK w) 539) (by rw [hK]; kernel_rfl) (by kernel_rfl) (by rw [hK]; kernel_rfl) (fun s us _ => bind_n 2 (show (fxK w 7).ps.length = 2 by kernel_rfl) (fun u0 u1 => show bindArgs (fxK w 7).fd ⟨[u0, u1], []⟩ = pure ((fxK w 7).ps.zip [u0, u1]) by kernel_rfl) s us) (by kernel_rfl) (fun n => by kernel_rfl) (fun q => absurd (show (fxK w 7).defs = [] by kernel_rfl) q)
theorem fx_ok8 (hK : G.K = KK w) : (fxK w 8).Ok G 546 := by
 refine fx_ok (o := objOf (KK w) 546) (by rw [hK]; kernel_rfl) (by kernel_rfl) (by rw [hK]; kernel_rfl) (fun s us _ => bind_n 2 (show (fxK w 8).ps.length = 2 by kernel_rfl) (fun u0 u1 => show bindArgs (fxK w 8).fd ⟨[u0, u1], []⟩ = pure ((fxK w 8).ps.zip [u0, u1]) by kernel_rfl) s us) (by kernel_rfl) (fun n => by kernel_rfl) (fun q => absurd (show (fxK w 8).defs = [] by kernel_rfl) q)
theorem fx_ok9 (hK : G.K = KK w) : (fxK w 9).Ok G 553 := by
 refine fx_ok (o := objOf (KK w) 553) (by rw [hK]; kernel_rfl) (by kernel_rfl) (by rw [hK]; kernel_rfl) (fun s us _ => bind_n 5 (show (fxK w 9).ps.length = 5 by kernel_rfl) (fun u0 u1 u2 u3 u4 => show bindArgs (fxK w 9).fd ⟨[u0, u1, u2, u3, u4], []⟩ = pure ((fxK w 9).ps.zip [u0, u1, u2, u3, u4]) by kernel_rfl) s us) (by kernel_rfl) (fun n => by kernel_rfl) (fun q => absurd (show (fxK w 9).defs = [] by kernel_rfl) q)
theorem fx_ok10 (hK : G.K = KK w) : (fxK w 10).Ok G 560 := by
 refine fx_ok (o := objOf (KK w) 560) (by rw [hK]; kernel_rfl) (by kernel_rfl) (by rw [hK]; kernel_rfl) (fun s us _ => bind_n 2 (show (fxK w 10).ps.length = 2 by kernel_rfl) (fun u0 u1 => show bindArgs (fxK w 10).fd ⟨[u0, u1], []⟩ = pure ((fxK w 10).ps.zip [u0, u1]) by kernel_rfl) s us) (by kernel_rfl) (fun n => by kernel_rfl) (fun q => absurd (show (fxK w 10).defs = [] by kernel_rfl) q)
theorem fx_ok11 (hK : G.K = KK w) : (fxK w 11).Ok G 567 := by
 refine fx_ok (o := objOf (KK w) 567) (by rw [hK]; kernel_rfl) (by kernel_rfl) (by rw [hK]; kernel_rfl) (fun s us _ => bind_n 2 (show (fxK w 11).ps.length = 2 by kernel_rfl) (fun u0 u1 => show bindArgs (fxK w 11).fd ⟨[u0, u1], []⟩ = pure ((fxK w 11).ps.zip [u0, u1]) by kernel_rfl) s us) (by kernel_rfl) (fun n => by kernel_rfl) (fun q => absurd (show (fxK w 11).defs = [] by kernel_rfl) q)
theorem fx_ok12 (hK : G.K = KK w) : (fxK w 12).Ok G 574 := by
 refine fx_ok (o := objOf (KK w) 574) (by rw [hK]; kernel_rfl) (by kernel_rfl) (by rw [hK]; kernel_rfl) (fun s us _ => bind_n 1 (show (fxK w 12).ps.length = 1 by kernel_rfl) (fun u0 => show bindArgs (fxK w 12).fd ⟨[u0], []⟩ = pure ((fxK w 12).ps.zip [u0]) by kernel_rfl) s us) (by kernel_rfl) (fun n => by kernel_rfl) (fun q => absurd (show (fxK w 12).defs = [] by kernel_rfl) q)
theorem fx_ok13 (hK : G.K = KK w) : (fxK w 13).Ok G 581 := by
 refine fx_ok (o := objOf (KK w) 581) (by rw [hK]; kernel_rfl) (by kernel_rfl) (by rw [hK]; kernel_rfl) (fun s us _ => bind_n 3 (show (fxK w 13).ps.length = 3 by kernel_rfl) (fun u0 u1 u2 => show bindArgs (fxK w 13).fd ⟨[u0, u1, u2], []⟩ = pure ((fxK w 13).ps.zip [u0, u1, u2]) by kernel_rfl) s us) (by kernel_rfl) (fun n => by kernel_rfl) (fun q => absurd (show (fxK w 13).defs = [] by kernel_rfl) q)
theorem fx_ok14 (hK : G.K = KK w) : (fxK w 14).Ok G 588 := by
 refine fx_ok (o := objOf (KK w) 588) (by rw [hK]; kernel_rfl) (by kernel_rfl) (by rw [hK]; kernel_rfl) (fun s us _ => bind_n 4 (show (fxK w 14).ps.length = 4 by kernel_rfl) (fun u0 u1 u2 u3 => show bindArgs (fxK w 14).fd ⟨[u0, u1, u2, u3], []⟩ = pure ((fxK w 14).ps.zip [u0, u1, u2, u3]) by kernel_rfl) s us) (by kernel_rfl) (fun n => by kernel_rfl) (fun q => absurd (show (fxK w 14).defs = [] by kernel_rfl) q)
theorem fx_ok15 (hK : G.K = KK w) : (fxK w 15).Ok G 595 := by
 refine fx_ok (o := objOf (KK w) 595) (by rw [hK]; kernel_rfl) (by kernel_rfl) (by rw [hK]; kernel_rfl) (fun s us _ => bind_n 6 (show (fxK w 15).ps.length = 6 by kernel_rfl) (fun u0 u1 u2 u3 u4 u5 => show bindArgs (fxK w 15).fd ⟨[u0, u1, u2, u3, u4, u5], []⟩ = pure ((fxK w 15).ps.zip [u0, u1, u2, u3, u4, u5]) by kernel_rfl) s us) (by kernel_rfl) (fun n => by kernel_rfl) (fun q => absurd (show (fxK w 15).defs = [] by kernel_rfl) q)
theorem fx_ok16 (hK : G.K = KK w) : (fxK w 16).Ok G 609 := by
 refine fx_ok (o := objOf (KK w) 609) (by rw [hK]; kernel_rfl) (by kernel_rfl) (by rw [hK]; kernel_rfl) (fun s us _ => bind_n 3 (show (fxK w 16).ps.length = 3 by kernel_rfl) (fun u0 u1 u2 => show bindArgs (fxK w 16).fd ⟨[u0, u1, u2], []⟩ = pure ((fxK w 16).ps.zip [u0, u1, u2]) by kernel_rfl) s us) (by kernel_rfl) (fun n => by kernel_rfl) (fun q => absurd (show (fxK w 16).defs = [] by kernel_rfl) q)
theorem fx_ok17 (hK : G.K = KK w) : (fxK w 17).Ok G 616 := by
 refine fx_ok (o := objOf (KK w) 616) (by rw [hK]; kernel_rfl) (by kernel_rfl) (by rw [hK]; kernel_rfl) (fun s us _ => bind_n 2 (show (fxK w 17).ps.length = 2 by kernel_rfl) (fun u0 u1 => show bindArgs (fxK w 17).fd ⟨[u0, u1], []⟩ = pure ((fxK w 17).ps.zip [u0, u1]) by kernel_rfl) s us) (by kernel_rfl) (fun n => by kernel_rfl) (fun q => absurd (show (fxK w 17).defs = [] by kernel_rfl) q)
theorem fx_ok18 (hK : G.K = KK w) : (fxK w 18).Ok G 630 := by
 refine fx_ok (o := objOf (KK w) 630) (by rw [hK]; kernel_rfl) (by kernel_rfl) (by rw [hK]; kernel_rfl) (fun s us _ => bind_n 2 (show (fxK w 18).ps.length = 2 by kernel_rfl) (fun u0 u1 => show bindArgs (fxK w 18).fd ⟨[u0, u1], []⟩ = pure ((fxK w 18).ps.zip [u0, u1]) by kernel_rfl) s us) (by kernel_rfl) (fun n => by kernel_rfl) (fun q => absurd (show (fxK w 18).defs = [] by kernel_rfl) q)
theorem fx_ok19 (hK : G.K = KK w) : (fxK w 19).Ok G 623 := by
 refine fx_ok (o := objOf (KK w) 623) (by rw [hK]; kernel_rfl) (by kernel_rfl) (by rw [hK]; kernel_rfl) (fun s us _ => bind_n 2 (show (fxK w 19).ps.length = 2 by kernel_rfl) (fun u0 u1 => show bindArgs (fxK w 19).fd ⟨[u0, u1], []⟩ = pure ((fxK w 19).ps.zip [u0, u1]) by kernel_rfl) s us) (by kernel_rfl) (fun n => by kernel_rfl) (fun q => absurd (show (fxK w 19).defs = [] by kernel_rfl) q)
theorem fx_ok20 (hK : G.K = KK w) : (fxK w 20).Ok G 637 := by
 refine fx_ok (o := objOf (KK w) 637) (by rw [hK]; kernel_rfl) (by kernel_rfl) (by rw [hK]; kernel_rfl) (fun s us _ => bind_n 0 (show (fxK w 20).ps.length = 0 by kernel_rfl) (show bindArgs (fxK w 20).fd ⟨[], []⟩ = pure ((fxK w 20).ps.zip []) by kernel_rfl) s us) (by kernel_rfl) (fun n => by kernel_rfl) (fun q => absurd (show (fxK w 20).defs = [] by kernel_rfl) q)
theorem fx_ok21 (hK : G.K = KK w) : (fxK w 21).Ok G 651 := by
 refine fx_ok (o := objOf (KK w) 651) (by rw [hK]; kernel_rfl) (by kernel_rfl) (by rw [hK]; kernel_rfl) (fun s us _ => bind_n 8 (show (fxK w 21).ps.length = 8 by kernel_rfl) (fun u0 u1 u2 u3 u4 u5 u6 u7 => show bindArgs (fxK w 21).fd ⟨[u0, u1, u2, u3, u4, u5, u6, u7], []⟩ = pure ((fxK w 21).ps.zip [u0, u1, u2, u3, u4, u5, u6, u7]) by kernel_rfl) s us) (by kernel_rfl) (fun n => by kernel_rfl) (fun q => absurd (show (fxK w 21).defs = [] by kernel_rfl) q)
theorem fx_ok22 (hK : G.K = KK w) : (fxK w 22).Ok G 658 := by
 refine fx_ok (o := objOf (KK w) 658) (by rw [hK]; kernel_rfl) (by kernel_rfl) (by rw [hK]; kernel_rfl) (fun s us _ => bind_n 1 (show (fxK w 22).ps.length = 1 by kernel_rfl) (fun u0 => show bindArgs (fxK w 22).fd ⟨[u0], []⟩ = pure ((fxK w 22).ps.zip [u0]) by kernel_rfl) s us) (by kernel_rfl) (fun n => by kernel_rfl) (fun q => absurd (show (fxK w 22).defs = [] by kernel_rfl) q)
theorem fx_ok23 (hK : G.K = KK w) : (fxK w 23).Ok G 672 := by
 refine fx_ok (o := objOf (KK w) 672) (by rw [hK]; kernel_rfl) (by kernel_rfl) (by rw [hK]; kernel_rfl) (fun s us _ => bind_n 1 (show (fxK w 23).ps.length = 1 by kernel_rfl) (fun u0 => show bindArgs (fxK w 23).fd ⟨[u0], []⟩ = pure ((fxK w 23).ps.zip [u0]) by kernel_rfl) s us) (by kernel_rfl) (fun n => by kernel_rfl) (fun q => absurd (show (fxK w 23).defs = [] by kernel_rfl) q)
theorem fx_ok24 (hK : G.K = KK w) : (fxK w 24).Ok G 686 := by
 refine fx_ok (o := objOf (KK w) 686) (by rw [hK]; kernel_rfl) (by kernel_rfl) (by rw [hK]; kernel_rfl) (fun s us _ => bind_n 2 (show (fxK w 24).ps.length = 2 by kernel_rfl) (fun u0 u1 => show bindArgs (fxK w 24).fd ⟨[u0, u1], []⟩ = pure ((fxK w 24).ps.zip [u0, u1]) by kernel_rfl) s us) (by kernel_rfl) (fun n => by kernel_rfl) (fun q => absurd (show (fxK w 24).defs = [] by kernel_rfl) q)
theorem fx_ok25 (hK : G.K = KK w) : (fxK w 25).Ok G 707 := by
 refine fx_ok (o := objOf (KK w) 707) (by rw [hK]; kernel_rfl) (by kernel_rfl) (by rw [hK]; kernel_rfl) (fun s us _ => bind_n 1 (show (fxK w 25).ps.length = 1 by kernel_rfl) (fun u0 => show bindArgs (fxK w 25).fd ⟨[u0], []⟩ = pure ((fxK w 25).ps.zip [u0]) by kernel_rfl) s us) (by kernel_rfl) (fun n => by kernel_rfl) (fun q => absurd (show (fxK w 25).defs = [] by kernel_rfl) q)
theorem fx_ok26 (hK : G.K = KK w) : (fxK w 26).Ok G 714 := by
 refine fx_ok (o := objOf (KK w) 714) (by rw [hK]; kernel_rfl) (by kernel_rfl) (by rw [hK]; kernel_rfl) (fun s us _ => bind_n 8 (show (fxK w 26).ps.length = 8 by kernel_rfl) (fun u0 u1 u2 u3 u4 u5 u6 u7 => show bindArgs (fxK w 26).fd ⟨[u0, u1, u2, u3, u4, u5, u6, u7], []⟩ = pure ((fxK w 26).ps.zip [u0, u1, u2, u3, u4, u5, u6, u7]) by kernel_rfl) s us) (by kernel_rfl) (fun n => by kernel_rfl) (fun q => absurd (show (fxK w 26).defs = [] by kernel_rfl) q)
theorem fx_ok27 (hK : G.K = KK w) : (fxK w 27).Ok G 770 := by
 refine fx_ok (o := objOf (KK w) 770) (by rw [hK]; kernel_rfl) (by kernel_rfl) (by rw [hK]; kernel_rfl) (fun s us _ => bind_n 6 (show (fxK w 27).ps.length = 6 by kernel_rfl) (fun u0 u1 u2 u3 u4 u5 => show bindArgs (fxK w 27).fd ⟨[u0, u1, u2, u3, u4, u5], []⟩ = pure ((fxK w 27).ps.zip [u0, u1, u2, u3, u4, u5]) by kernel_rfl) s us) (by kernel_rfl) (fun n => by kernel_rfl) (fun q => absurd (show (fxK w 27).defs = [] by kernel_rfl) q)
theorem fx_ok28 (hK : G.K = KK w) : (fxK w 28).Ok G 602 := by
 refine fx_ok (o := objOf (KK w) 602) (by rw [hK]; kernel_rfl) (by kernel_rfl) (by rw [hK]; kernel_rfl) (fun s us _ => bind_n 5 (show (fxK w 28).ps.length = 5 by kernel_rfl) (fun u0 u1 u2 u3 u4 => show bindArgs (fxK w 28).fd ⟨[u0, u1, u2, u3, u4], []⟩ = pure ((fxK w 28).ps.zip [u0, u1, u2, u3, u4]) by kernel_rfl) s us) (by kernel_rfl) (fun n => by kernel_rfl) (fun q => absurd (show (fxK w 28).defs = [] by kernel_rfl) q)
theorem fx_ok29 (hK : G.K = KK w) : (fxK w 29).Ok G 782 := by
 refine fx_ok (o := objOf (KK w) 782) (by rw [hK]; kernel_rfl) (by kernel_rfl) (by rw [hK]; kernel_rfl) (fun s us _ => bind_n 1 (show (fxK w 29).ps.length = 1 by kernel_rfl) (fun u0 => show bindArgs (fxK w 29).fd ⟨[u0], []⟩ = pure ((fxK w 29).ps.zip [u0]) by kernel_rfl) s us) (by kernel_rfl) (fun n => by kernel_rfl) (fun q => absurd (show (fxK w 29).defs = [] by kernel_rfl) q)
theorem fx_ok30 (hK : G.K = KK w) : (fxK w 30).Ok G 789 := by
 refine fx_ok (o := objOf (KK w) 789) (by rw [hK]; kernel_rfl) (by kernel_rfl) (by rw [hK]; kernel_rfl) (fun s us _ => bind_n 2 (show (fxK w 30).ps.length = 2 by kernel_rfl) (fun u0 u1 => show bindArgs (fxK w 30).fd ⟨[u0, u1], []⟩ = pure ((fxK w 30).ps.zip [u0, u1]) by kernel_rfl) s us) (by kernel_rfl) (fun n => by kernel_rfl) (fun q => absurd (show (fxK w 30).defs = [] by kernel_rfl) q)
theorem fx_ok31 (hK : G.K = KK w) : (fxK w 31).Ok G 796 := by
 refine fx_ok (o := objOf (KK w) 796) (by rw [hK]; kernel_rfl) (by kernel_rfl) (by rw [hK]; kernel_rfl) (fun s us _ => bind_n 1 (show (fxK w 31).ps.length = 1 by kernel_rfl) (fun u0 => show bindArgs (fxK w 31).fd ⟨[u0], []⟩ = pure ((fxK w 31).ps.zip [u0]) by kernel_rfl) s us) (by kernel_rfl) (fun n => by kernel_rfl) (fun q => absurd (show (fxK w 31).defs = [] by kernel_rfl) q)
theorem fx_ok32 (hK : G.K = KK w) : (fxK w 32).Ok G 801 := by
 refine fx_ok (o := objOf (KK w) 801) (by rw [hK]; kernel_rfl) (by kernel_rfl) (by rw [hK]; kernel_rfl) (fun s us _ => bind_n 3 (show (fxK w 32).ps.length = 3 by kernel_rfl) (fun u0 u1 u2 => show bindArgs (fxK w 32).fd ⟨[u0, u1, u2], []⟩ = pure ((fxK w 32).ps.zip [u0, u1, u2]) by kernel_rfl) s us) (by kernel_rfl) (fun n => by kernel_rfl) (fun q => absurd (show (fxK w 32).defs = [] by kernel_rfl) q)
theorem fx_ok33 (hK : G.K = KK w) (hcd : ∀ hp, G.K.In hp → CodeHd hp 807 G.P) : (fxK w 33).Ok G 808 := by
 refine fx_ok (o := objOf (KK w) 808) (by rw [hK]; kernel_rfl) (by kernel_rfl) (by rw [hK]; kernel_rfl) (fun s us _ => bind_n 2 (show (fxK w 33).ps.length = 2 by kernel_rfl) (fun u0 u1 => show bindArgs (fxK w 33).fd ⟨[u0, u1], []⟩ = pure ((fxK w 33).ps.zip [u0, u1]) by kernel_rfl) s us) (by kernel_rfl) (fun n => by kernel_rfl) (fun _ => ⟨807, show (fxK w 33).cdv = .ref 807 by kernel_rfl, hcd⟩)
theorem fx_ok34 (hK : G.K = KK w) : (fxK w 34).Ok G 815 := by
 refine fx_ok (o := objOf (KK w) 815) (by rw [hK]; kernel_rfl) (by kernel_rfl) (by rw [hK]; kernel_rfl) (fun s us _ => bind_n 5 (show (fxK w 34).ps.length = 5 by kernel_rfl) (fun u0 u1 u2 u3 u4 => show bindArgs (fxK w 34).fd ⟨[u0, u1, u2, u3, u4], []⟩ = pure ((fxK w 34).ps.zip [u0, u1, u2, u3, u4]) by kernel_rfl) s us) (by kernel_rfl) (fun n => by kernel_rfl) (fun q => absurd (show (fxK w 34).defs = [] by kernel_rfl) q)
theorem fx_ok35 (hK : G.K = KK w) : (fxK w 35).Ok G 822 := by
 refine fx_ok (o := objOf (KK w) 822) (by rw [hK]; kernel_rfl) (by kernel_rfl) (by rw [hK]; kernel_rfl) (fun s us _ => bind_n 1 (show (fxK w 35).ps.length = 1 by kernel_rfl) (fun u0 => show bindArgs (fxK w 35).fd ⟨[u0], []⟩ = pure ((fxK w 35).ps.zip [u0]) by kernel_rfl) s us) (by kernel_rfl) (fun n => by kernel_rfl) (fun q => absurd (show (fxK w 35).defs = [] by kernel_rfl) q)
end
noncomputable def nest (dq : Str) (ss : List Stmt) : List (FI × Pos) := ss.filterMap fun s => match s with
 | .FunctionDef name params body _ _ _ sc _ _ pos => some (⟨name, dq ++ name, params, body, sc⟩, pos)
 | _ => none
noncomputable def ciK (w : World) (k : Nat) : FI := match (nest (fxK w 33).dq (fxK w 33).body)[k]? with
 | some p => p.1
 | none => ⟨Str.empty, Str.empty, default, [], default⟩
noncomputable def cpK (w : World) (k : Nat) : Pos := match (nest (fxK w 33).dq (fxK w 33).body)[k]? with
 | some p => p.2
 | none => { line := 1000000 + k, col := 0, endLine := 0, endCol := 0 }
noncomputable def cfOf (I : FI) : CF := ⟨I.params.args.map (·.arg), namesOf I.scope .local, (freeNames I.scope).headD Str.empty⟩
noncomputable def codeC (I : FI) : FB := ⟨(cfOf I).ps, (cfOf I).loc, [(cfOf I).fr], cSs (ct0.at I.scope (cfOf I).loc [(cfOf I).fr] [] Str.empty) I.body⟩
theorem codeC0 (w : World) : codeC (ciK w 0) = k0 := by kernel_rfl
theorem codeC1 (w : World) : codeC (ciK w 1) = k1 := by kernel_rfl
theorem codeC2 (w : World) : codeC (ciK w 2) = k2 := by kernel_rfl
noncomputable def cfB (I : FI) (F : CF) : Bool := !I.scope.isCoroutine && !I.scope.isGenerator && I.scope.kind == .function && F.loc.all (nmB I.scope .local) && ndB F.loc && I.scope.names.all (fun p => p.2 != .cell) && nmB I.scope .free F.fr && !(F.fr == ("__classdict__" : Str)) &&
 F.ps.all (fun x => F.loc.contains x) && ndB F.ps
theorem cf_ok {G : GW} {k : Nat} {I : FI} {F : CF} (hI : G.CI k = I) (e5 : cfB I F = true) (e6 : freeNames I.scope = [F.fr])
  (e4 : ∀ (s : Shared) us cl doc pm cdv ct, us.length = F.ps.length → BindsTo s (fnX I.name I.qual I.params I.body I.scope cl .none .none doc pm none cdv ct) ⟨us, []⟩ (F.ps.zip us)) : F.Ok G k := by
 unfold cfB at e5
 simp only [Bool.and_eq_true, Bool.not_eq_true', List.all_eq_true] at e5
 obtain ⟨⟨⟨⟨⟨⟨⟨⟨⟨c1, c2⟩, c3⟩, c4⟩, c5⟩, c6⟩, c7⟩, c8⟩, c9⟩, c10⟩ := e5
 subst hI
 refine ⟨e4, c1, c2, eq_of_beq c3, fun x hx => nmB_of (c4 x hx), ndB_of c5, fun x hx q => ?_, e6, ⟨(nmB_of c7).1, (nmB_of c7).2, c8⟩, fun x hx => List.contains_iff_mem.mp (c9 x hx), ndB_of c10⟩
 have := c6 x hx
 rw [q] at this
 exact absurd this (by decide)
section
variable {G : GW} {w : World}
theorem cf_ok0 (h : G.CI = ciK w) : (cfOf (ciK w 0)).Ok G 0 := cf_ok (I := ciK w 0) (by rw [h]) (by kernel_rfl) (by kernel_rfl) fun s us cl doc pm cdv ct => bind_n 1 (show (cfOf (ciK w 0)).ps.length = 1 by kernel_rfl) (fun u0 => show bindArgs (fnX (ciK w 0).name (ciK w 0).qual (ciK w 0).params (ciK w 0).body (ciK w 0).scope cl .none .none doc pm none cdv ct) ⟨[u0], []⟩ = pure ((cfOf (ciK w 0)).ps.zip [u0]) by kernel_rfl) s us
theorem cf_ok1 (h : G.CI = ciK w) : (cfOf (ciK w 1)).Ok G 1 := cf_ok (I := ciK w 1) (by rw [h]) (by kernel_rfl) (by kernel_rfl) fun s us cl doc pm cdv ct => bind_n 1 (show (cfOf (ciK w 1)).ps.length = 1 by kernel_rfl) (fun u0 => show bindArgs (fnX (ciK w 1).name (ciK w 1).qual (ciK w 1).params (ciK w 1).body (ciK w 1).scope cl .none .none doc pm none cdv ct) ⟨[u0], []⟩ = pure ((cfOf (ciK w 1)).ps.zip [u0]) by kernel_rfl) s us
theorem cf_ok2 (h : G.CI = ciK w) : (cfOf (ciK w 2)).Ok G 2 := cf_ok (I := ciK w 2) (by rw [h]) (by kernel_rfl) (by kernel_rfl) fun s us cl doc pm cdv ct => bind_n 3 (show (cfOf (ciK w 2)).ps.length = 3 by kernel_rfl) (fun u0 u1 u2 => show bindArgs (fnX (ciK w 2).name (ciK w 2).qual (ciK w 2).params (ciK w 2).body (ciK w 2).scope cl .none .none doc pm none cdv ct) ⟨[u0, u1, u2], []⟩ = pure ((cfOf (ciK w 2)).ps.zip [u0, u1, u2]) by kernel_rfl) s us
theorem cp_ne (w : World) (i j : Nat) (h : i ≠ j) : (cpK w i).line ≠ (cpK w j).line := by
 have l0 : (cpK w 0).line = 765 := by kernel_rfl
 have l1 : (cpK w 1).line = 769 := by kernel_rfl
 have l2 : (cpK w 2).line = 772 := by kernel_rfl
 have l3 : ∀ k, (cpK w (k + 3)).line = 1000000 + (k + 3) := fun k => by kernel_rfl
 have hg : ∀ k, (if (cpK w k).line < 1000 then ((cpK w k).line - 764) / 4 else (cpK w k).line - 1000000) = k := fun k =>
  match k with
  | 0 => by rw [l0]; rfl
  | 1 => by rw [l1]; rfl
  | 2 => by rw [l2]; rfl
  | k + 3 => by rw [l3, if_neg (Nat.not_lt.mpr (Nat.le_trans (by decide) (Nat.le_add_right 1000000 _))), Nat.add_sub_cancel_left]
 exact fun e => h (by rw [← hg i, ← hg j, e])
end
noncomputable def int? : Value → Option Int
 | .int j _ => some j
 | _ => none
noncomputable def typ? : Value → Option String
 | .type j => some j
 | _ => none
theorem int_of {v : Value} {c : Int} (e : int? v = some c) : ∃ t, v = .int c t := by cases v <;> cases e; exact ⟨_, rfl⟩
theorem typ_of {v : Value} {c : String} (e : typ? v = some c) : v = .type c := by cases v <;> cases e; rfl
noncomputable def refIs (o : Option (Option Value)) (a : Addr) : Bool := (o.bind fun v => v.bind ref?) == some a
theorem refIs_of {o : Option (Option Value)} {a : Addr} (h : refIs o a = true) : o = some (some (.ref a)) := by
 obtain ⟨v, rfl, e⟩ := Option.bind_eq_some_iff.mp (eq_of_beq h)
 obtain ⟨u, rfl, e⟩ := Option.bind_eq_some_iff.mp e
 rw [refv_of e]
noncomputable def noneIs (o : Option (Option Value)) : Bool := o.any Option.isNone
theorem noneIs_of {o : Option (Option Value)} (h : noneIs o = true) : o = some none := by
 cases o with
 | none => cases h
 | some v => rw [Option.isNone_iff_eq_none.mp h]
noncomputable def intIs (o : Option (Option Value)) (i : Int) : Bool := (o.bind fun v => v.bind int?) == some i
theorem intIs_of {o : Option (Option Value)} {i : Int} (h : intIs o i = true) : ∃ t, o = some (some (.int i t)) := by
 obtain ⟨v, rfl, e⟩ := Option.bind_eq_some_iff.mp (eq_of_beq h)
 obtain ⟨u, rfl, e⟩ := Option.bind_eq_some_iff.mp e
 obtain ⟨t, rfl⟩ := int_of e
 exact ⟨t, rfl⟩
noncomputable def fnIs (o : Option Value) : Bool := o.bind typ? == some "function"
theorem fnIs_of {o : Option Value} (h : fnIs o = true) : o = some (.type "function") := by
 obtain ⟨v, rfl, e⟩ := Option.bind_eq_some_iff.mp (eq_of_beq h)
 rw [typ_of e]
noncomputable def clsL : List Addr := [689, 752, 773]
noncomputable def gkB (K : Frag) : Bool := clsL.all fun C => hasDictIn K C && anL.all (fun n => noneIs (findIn K (.ref C) n)) && plainOver K C && plainGet K C Str.empty
noncomputable def faOf (i : Nat) : Addr := faL.getD i 0
noncomputable def gtB (K : Frag) : Bool := ct0.gl.all (fun p => intIs (nsIn K mainGlobals p.1) p.2) && ct0.fns.all (fun p => refIs (nsIn K mainGlobals p.1) (faOf p.2) && keepIn K (.ref (faOf p.2))) &&
 ct0.cls.all (fun p => refIs (nsIn K mainGlobals p.1) p.2.1 && keepIn K (.ref p.2.1) && clsL.contains p.2.1 && makesIn K p.2.1 && refIs (findIn K (.ref p.2.1) "__init__") (faOf p.2.2) && fnIs (typeIn K (.ref (faOf p.2.2)))) &&
 ct0.mth.all (fun p => clsL.contains p.2.1 && refIs (findIn K (.ref p.2.1) p.1) (faOf p.2.2) && isFn K (.ref (faOf p.2.2)) && keepIn K (.ref (faOf p.2.2))) &&
 ([("len" : Str), "min", "max", "list", "sum", "chr", "ord", "str", "abs", "isinstance", "range", "int"]).all (fun x => noneIs (nsIn K mainGlobals x))
theorem gkB_ok (w : World) : gkB (KK w) = true := by kernel_rfl
theorem gtB_ok (w : World) : gtB (KK w) = true := by kernel_rfl
theorem set_ok (w : World) : ∀ C ∈ clsL, findIn (KK w) (.ref C) "__setattr__" = some (some (.builtin "object.__setattr__")) := fun C hC => by
 simp only [clsL, List.mem_cons, List.not_mem_nil, or_false] at hC
 rcases hC with rfl | rfl | rfl <;> kernel_rfl
section
variable {G : GW} {w : World}
theorem gk_ok (hK : G.K = KK w) (hc : G.cls = clsL) (ha : G.an = anL) : GK G := by
 have h := gkB_ok w
 unfold gkB at h
 rw [List.all_eq_true] at h
 refine ⟨fun C hC n => ?_, fun C hC => ?_, fun C hC n hn => ?_, fun C hC => ?_, fun C hC => ?_⟩
 all_goals (rw [hc] at hC; have q := h C hC; simp only [Bool.and_eq_true, List.all_eq_true] at q; rw [hK])
 ·exact q.2
 ·exact q.1.1.1
 ·rw [ha] at hn; exact noneIs_of (q.1.1.2 n hn)
 ·exact set_ok w C hC
 ·exact q.1.2
theorem gt_ok (hK : G.K = KK w) (hc : G.cls = clsL) (ha : G.an = anL) (hf : G.fa = faOf) : GT G ct0 := by
 have h := gtB_ok w
 unfold gtB at h
 simp only [Bool.and_eq_true, List.all_eq_true] at h
 obtain ⟨⟨⟨⟨h1, h2⟩, h3⟩, h4⟩, h5⟩ := h
 refine ⟨fun x hx => ?_, fun x i e => ?_, fun x f e => ?_, fun x C f e => ?_, fun x C f e => ?_, fun x hx => ?_⟩
 ·rw [ha]; exact List.contains_iff_mem.mp hx
 ·rw [hK]; exact intIs_of (h1 _ (lookup_mem e))
 ·have q := h2 _ (lookup_mem e)
  rw [hK, hf]; exact ⟨refIs_of q.1, q.2⟩
 ·have q := h3 _ (lookup_mem e)
  rw [hK, hf, hc]; exact ⟨refIs_of q.1.1.1.1.1, q.1.1.1.1.2, List.contains_iff_mem.mp q.1.1.1.2, q.1.1.2, refIs_of q.1.2, fnIs_of q.2⟩
 ·have q := h4 _ (lookup_mem e)
  rw [hK, hf, hc]; exact ⟨List.contains_iff_mem.mp q.1.1.1, refIs_of q.1.1.2, q.1.2, q.2⟩
 ·rw [hK]; exact noneIs_of (h5 x hx)
end
noncomputable def fxI (w : World) : FX := fxOf (objOf (KK w) 36) []
noncomputable def nsI : List Str := ["kind", "at", "detail"]
theorem fdI (w : World) : (fxI w).fd = { (fxI w).fd with params := { posonlyargs := [], args := [{ arg := "self", annotation := none, pos := { line := 7, col := 17, endLine := 7, endCol := 21 } }, { arg := "kind", annotation := none, pos := { line := 7, col := 23, endLine := 7, endCol := 27 } }, { arg := "at", annotation := none, pos := { line := 7, col := 29, endLine := 7, endCol := 31 } }, { arg := "detail", annotation := none, pos := { line := 7, col := 36, endLine := 7, endCol := 42 } }], vararg := none, kwonlyargs := [], kw_defaults := [], kwarg := none, defaults := [.UnaryOp .USub (.Constant (.int 1) 0 { line := 7, col := 33, endLine := 7, endCol := 34 }) { line := 7, col := 32, endLine := 7, endCol := 34 }, .Constant (.str "") 0 { line := 7, col := 43, endLine := 7, endCol := 45 }] }, defaults := .ref 29, kwdefaults := .none } := by kernel_rfl
theorem bodyI (w : World) : (fxI w).body = [.Assign [.Attribute (.Name "self" { line := 8, col := 8, endLine := 8, endCol := 12 }) "kind" { line := 8, col := 8, endLine := 8, endCol := 17 }] (.Name "kind" { line := 8, col := 20, endLine := 8, endCol := 24 }) { line := 8, col := 8, endLine := 8, endCol := 24 },
  .Assign [.Attribute (.Name "self" { line := 9, col := 8, endLine := 9, endCol := 12 }) "at" { line := 9, col := 8, endLine := 9, endCol := 15 }] (.Name "at" { line := 9, col := 18, endLine := 9, endCol := 20 }) { line := 9, col := 8, endLine := 9, endCol := 20 },
  .Assign [.Attribute (.Name "self" { line := 10, col := 8, endLine := 10, endCol := 12 }) "detail" { line := 10, col := 8, endLine := 10, endCol := 19 }] (.Name "detail" { line := 10, col := 22, endLine := 10, endCol := 28 }) { line := 10, col := 8, endLine := 10, endCol := 28 }] := by kernel_rfl
noncomputable def clsD (o : Obj) : ClassData := match o.data with
 | .cls cd => cd
 | _ => { name := Str.empty, bases := [], mro := [], ns := 0, qualname := Str.empty }
section
variable {G : GW} {w : World}
theorem ik_ok (hK : G.K = KK w) : IK G 36 (fxI w) nsI := by
 have c : (fxI w).scope.names.all (fun p => p.2 != .cell) = true := by kernel_rfl
 have l : (["self", "kind", "at", "detail"] : List Str).all (fun x => (fxI w).scope.names.lookup x == some .local) = true := by kernel_rfl
 refine ⟨⟨objOf (KK w) 36, by rw [hK]; kernel_rfl, by kernel_rfl⟩, fun hp X => recQ_of (by rw [hK]; kernel_rfl) hp X, fun s e u v x X => ?_, by kernel_rfl, by kernel_rfl, by kernel_rfl, fun x hx q => ?_, fun x hx => ?_, ?_, fun x hx => hx⟩
 ·rw [fdI]
  exact BindsTo.of_defaults (T := 29) (o := objOf (KK w) 29) (items := #[.int (-1) 209, .str "" 210]) (n := 0) rfl (X _ _ (by rw [hK]; kernel_rfl)) (by kernel_rfl) (by rfl) (by rfl)
 ·have := List.all_eq_true.mp c x hx
  rw [q] at this
  exact absurd this (by decide)
 ·exact eq_of_beq (List.all_eq_true.mp l x hx)
 ·exact ⟨_, _, _, _, _, _, _, _, _, _, _, _, bodyI w⟩
noncomputable def exB : List Value := [.ref 39, .type "Exception", .type "BaseException", .type "object"]
theorem xk_ok {K : Frag} {C : Addr} {cd : ClassData} (e1 : clsIn K C = some cd) (e2 : cd.hasDict = true) (e3 : cd.mro = .ref C :: exB) (e4 : findIn K (.ref C) "__setattr__" = some (some (.builtin "object.__setattr__"))) (e5 : nsI.all (fun n => noneIs (findIn K (.ref C) n)) = true) : XK K C cd nsI := by
 refine ⟨e1, e2, by rw [e3]; rfl, fun x => ?_, e4, fun n hn => noneIs_of (List.all_eq_true.mp e5 n hn)⟩
 rw [e3]
 unfold exB
 rw [refuseLoop_ref, refuseLoop_ref]
 exact F.store_Exception.passes _
theorem xc_ok {C : Addr} {nm q : Str} {N : Addr} {bs : List Value} {sn : List Str} {sub : List Value} {col : Option Bool} {k0 k1 k2 k3 k5 : Option Value} (hK : G.K = KK w) (e0 : (KK w).lookup C = some (excClassObj nm q C N bs exB true sn sub false col none k0 k1 k2 k3 k5 "Exception.__new__"))
  (e1 : findIn (KK w) (.ref C) "__init__" = some (some (.ref 36))) (e2 : typeIn (KK w) (.ref 36) = some (.type "function")) (e4 : findIn (KK w) (.ref C) "__setattr__" = some (some (.builtin "object.__setattr__"))) (e5 : nsI.all (fun n => noneIs (findIn (KK w) (.ref C) n)) = true) (e6 : keepIn (KK w) (.ref C) = true) : XC G C := by
 refine ⟨⟨nm, q, N, bs, exB, [.type "Exception", .type "BaseException", .type "object"], true, sn, sub, false, col, none, k0, k1, k2, k3, k5, "Exception", "Exception.__new__", "Exception.__init__", { name := nm, bases := bs, mro := .ref C :: exB, ns := N, qualname := q, hasDict := true, slotNames := sn, subclasses := sub, abstract := false, collection := col, hasDel := false }, nsI, 36, fxI w, by rw [hK]; exact e0, F.excBase_Exception, ⟨rfl, rfl, rfl⟩, rfl, by rw [hK]; exact e1, by rw [hK]; exact e2, ik_ok hK, ?_⟩, by rw [hK]; exact e6⟩
 rw [hK]
 exact xk_ok (cd := { name := nm, bases := bs, mro := .ref C :: exB, ns := N, qualname := q, hasDict := true, slotNames := sn, subclasses := sub, abstract := false, collection := col, hasDel := false }) (by unfold clsIn; rw [e0]) rfl rfl e4 e5
theorem xc64 (hK : G.K = KK w) : XC G 64 := xc_ok (nm := "DesignError") (q := "DesignError") (N := 63) (bs := [.ref 39]) (sn := []) (sub := []) (col := none) (k0 := some (.ref 55)) (k1 := none) (k2 := some (.str "DesignError" 248)) (k3 := some (.str "DesignError" 256)) (k5 := some (.bool true)) hK (by kernel_rfl) (by kernel_rfl) (by kernel_rfl) (by kernel_rfl) (by kernel_rfl) (by kernel_rfl)
theorem xc76 (hK : G.K = KK w) : XC G 76 := xc_ok (nm := "FormatError") (q := "FormatError") (N := 75) (bs := [.ref 39]) (sn := []) (sub := []) (col := none) (k0 := some (.ref 67)) (k1 := none) (k2 := some (.str "FormatError" 264)) (k3 := some (.str "FormatError" 272)) (k5 := some (.bool true)) hK (by kernel_rfl) (by kernel_rfl) (by kernel_rfl) (by kernel_rfl) (by kernel_rfl) (by kernel_rfl)
theorem xc52 (hK : G.K = KK w) : XC G 52 := xc_ok (nm := "SourceError") (q := "SourceError") (N := 51) (bs := [.ref 39]) (sn := []) (sub := []) (col := none) (k0 := some (.ref 43)) (k1 := none) (k2 := some (.str "SourceError" 232)) (k3 := some (.str "SourceError" 240)) (k5 := some (.bool true)) hK (by kernel_rfl) (by kernel_rfl) (by kernel_rfl) (by kernel_rfl) (by kernel_rfl) (by kernel_rfl)
theorem exc_cases {x : Str} {C : Addr} (e : ct0.exc.lookup x = some C) : (x = "DesignError" ∧ C = 64) ∨ (x = "FormatError" ∧ C = 76) ∨ (x = "SourceError" ∧ C = 52) := by
 have := lookup_mem e
 simp only [ct0, List.mem_cons, Prod.mk.injEq, List.not_mem_nil, or_false] at this
 exact this
theorem gx_ok (hK : G.K = KK w) : GX G ct0 := fun x C e => by
 rw [hK]
 rcases exc_cases e with ⟨rfl, rfl⟩ | ⟨rfl, rfl⟩ | ⟨rfl, rfl⟩
 ·exact ⟨by kernel_rfl, xc64 hK⟩
 ·exact ⟨by kernel_rfl, xc76 hK⟩
 ·exact ⟨by kernel_rfl, xc52 hK⟩
theorem xg_of {C : Addr} (e1 : findIn G.K (.ref C) "__getattribute__" = some (some (.builtin "BaseException.__getattribute__"))) (e2 : findIn G.K (.ref C) "__getattr__" = some none) (e3 : clsIn G.K C = some (clsD (objOf G.K C))) (e4 : (clsD (objOf G.K C)).mro.contains (.type "BaseException") = true)
  (e5 : hasDictIn G.K C = true) (e6 : findIn G.K (.ref C) "kind" = some none) (e7 : typeIn G.K (.ref C) = some (.type "type")) (e8 : subIn G.K (.ref C) (.type "BaseException") = some true) : XG G C :=
 ⟨⟨_, F.excAttr_ValueError.ga⟩, e1, e2, ⟨_, e3, e4⟩, e5, e6, e7, e8⟩
theorem xgs_ok (hK : G.K = KK w) : XGs G ct0 := by
 refine ⟨fun x D e => ?_, fun x D y C e1 e2 => ?_, by rw [hK]; kernel_rfl⟩
 ·rcases exc_cases e with ⟨rfl, rfl⟩ | ⟨rfl, rfl⟩ | ⟨rfl, rfl⟩
  all_goals (refine ⟨by rw [hK]; kernel_rfl, xg_of ?_ ?_ ?_ ?_ ?_ ?_ ?_ ?_⟩ <;> (rw [hK]; kernel_rfl))
 ·rw [hK]
  rcases exc_cases e1 with ⟨rfl, rfl⟩ | ⟨rfl, rfl⟩ | ⟨rfl, rfl⟩ <;> rcases exc_cases e2 with ⟨rfl, rfl⟩ | ⟨rfl, rfl⟩ | ⟨rfl, rfl⟩ <;> kernel_rfl
theorem wok (hK : G.K = KK w) (hc : G.cls = clsL) (ha : G.an = anL) (hf : G.fa = faOf) (hcp : G.CP = cpK w) (hP : G.P = 803) : WOk G ct0 :=
 ⟨gk_ok hK hc ha, gt_ok hK hc ha hf, gx_ok hK, xgs_ok hK, ⟨fun i j h => by rw [hcp]; exact cp_ne w i j h, by rw [hP]; rfl⟩⟩
end
noncomputable def fxT (w : World) (f : Nat) : Option FX := if f < 36 then some (fxK w f) else none
noncomputable def cfT (w : World) (k : Nat) : Option CF := if k < 3 then some (cfOf (ciK w k)) else none
inductive UpTo (P : Nat → Prop) : Nat → Prop
 | z : UpTo P 0
 | s {n : Nat} (a : UpTo P n) (b : P n) : UpTo P (n + 1)
theorem UpTo.get {P : Nat → Prop} {m : Nat} (h : UpTo P m) : ∀ n, n < m → P n := by
 induction h with
 | z => exact fun n q => absurd q (Nat.not_lt_zero n)
 | s a b ih => exact fun n q => (Nat.lt_succ_iff_lt_or_eq.mp q).elim (ih n) fun e => e ▸ b
theorem fxT_lt {w : World} {f : Nat} (h : f < 36) : fxT w f = some (fxK w f) := by unfold fxT; rw [if_pos h]
theorem fb_eq (w : World) (f : Nat) : fb f = (fxT w f).map codeK := by
 by_cases h : f < 36
 ·rw [fxT_lt h]
  exact (show UpTo (fun f => fb f = some (codeK (fxK w f))) 36 from (.s (.s (.s (.s (.s (.s (.s (.s (.s (.s (.s (.s (.s (.s (.s (.s (.s (.s (.s (.s (.s (.s (.s (.s (.s (.s (.s (.s (.s (.s (.s (.s (.s (.s (.s (.s .z (congrArg some (code0 w).symm)) (congrArg some (code1 w).symm)) (congrArg some (code2 w).symm)) (congrArg some (code3 w).symm)) (congrArg some (code4 w).symm)) (congrArg some (code5 w).symm)) (congrArg some (code6 w).symm)) (congrArg some (code7 w).symm)) (congrArg some (code8 w).symm)) (congrArg some (code9 w).symm)) (congrArg some (code10 w).symm)) (congrArg some (code11 w).symm)) (congrArg some (code12 w).symm)) (congrArg some (code13 w).symm)) (congrArg some (code14 w).symm)) (congrArg some (code15 w).symm)) (congrArg some (code16 w).symm)) (congrArg some (code17 w).symm)) (congrArg some (code18 w).symm)) (congrArg some (code19 w).symm)) (congrArg some (code20 w).symm)) (congrArg some (code21 w).symm)) (congrArg some (code22 w).symm)) (congrArg some (code23 w).symm)) (congrArg some (code24 w).symm)) (congrArg some (code25 w).symm)) (congrArg some (code26 w).symm)) (congrArg some (code27 w).symm)) (congrArg some (code28 w).symm)) (congrArg some (code29 w).symm)) (congrArg some (code30 w).symm)) (congrArg some (code31 w).symm)) (congrArg some (code32 w).symm)) (congrArg some (code33 w).symm)) (congrArg some (code34 w).symm)) (congrArg some (code35 w).symm))).get f h
 ·obtain ⟨n, rfl⟩ : ∃ n, f = n + 36 := ⟨f - 36, (Nat.sub_add_cancel (Nat.not_lt.mp h)).symm⟩
  unfold fxT
  rw [if_neg h]
  rfl
theorem kb_eq (w : World) : ∀ k, kb k = (cfT w k).map fun _ => codeC (ciK w k)
 | 0 => congrArg some (codeC0 w).symm
 | 1 => congrArg some (codeC1 w).symm
 | 2 => congrArg some (codeC2 w).symm
 | n + 3 => by unfold cfT; rw [if_neg (Nat.not_lt.mpr (Nat.le_add_left 3 n))]; rfl
noncomputable def orcK (w : World) (n : Nat) : Orc := orc 4096 ct0 (ciK w) (fxT w) (cfT w) n
theorem cfT_eq {w : World} {k : Nat} {F : CF} (e : cfT w k = some F) : F = cfOf (ciK w k) := by
 unfold cfT at e
 split at e
 ·cases e; rfl
 ·cases e
theorem orc_nx (w : World) (n : Nat) : orcK w (n + 2) = nx (orcK w (n + 1)) := by
 unfold orcK nx
 show Orc.mk _ _ = Orc.mk _ _
 congr 1
 ·funext f vs h
  rw [fb_eq w f]
  cases fxT w f <;> rfl
 ·funext k cs vs h
  rw [kb_eq w k]
  cases e : cfT w k with
  | none => rfl
  | some F => rw [cfT_eq e]; rfl
noncomputable def isFlat : Stmt → Bool
 | .If .. => false
 | .While .. => false
 | .For .. => false
 | _ => true
noncomputable def DefIn (G : GW) (Γ : CT) (p : FI × Pos) : Prop := ∀ k, Γ.defs.lookup p.1.name = some k → ∃ fr, G.CI k = p.1 ∧ G.CP k = p.2 ∧ p.1.params.defaults = [] ∧ p.1.params.kw_defaults = [] ∧ (∀ env, annTrees p.1.params none env = []) ∧ freeNames p.1.scope = [fr] ∧ Γ.cel = [fr]
theorem okS_flat {G : GW} {Γ : CT} {s : Stmt} (hf : isFlat s = true) (h : ∀ p ∈ nest Γ.dq [s], DefIn G Γ p) : okS G Γ s := by
 cases s with
 | FunctionDef name params body ds rt tp sc ts bind pos => exact h (⟨name, Γ.dq ++ name, params, body, sc⟩, pos) (.head _)
 | If => cases hf
 | While => cases hf
 | For => cases hf
 | _ => exact trivial
theorem ok_nest {G : GW} {Γ : CT} (ss : List Stmt) (hf : ss.all isFlat = true) (h : ∀ p ∈ nest Γ.dq ss, DefIn G Γ p) : okSs G Γ ss := by
 induction ss with
 | nil => exact trivial
 | cons s r ih =>
  rw [List.all_cons, Bool.and_eq_true] at hf
  have e : nest Γ.dq (s :: r) = nest Γ.dq [s] ++ nest Γ.dq r := by
   unfold nest
   rw [← List.filterMap_append]; rfl
  exact ⟨okS_flat hf.1 fun p hp => h p (by rw [e]; exact List.mem_append_left _ hp), ih hf.2 fun p hp => h p (by rw [e]; exact List.mem_append_right _ hp)⟩
section
variable {G : GW} {w : World}
theorem kern_ok (hci : G.CI = ciK w) (hcp : G.CP = cpK w) : okSs G (ct0.at (fxK w 33).scope (fxK w 33).loc (fxK w 33).cel.toList (fxK w 33).defs (fxK w 33).dq) (fxK w 33).body := by
 refine ok_nest _ (by kernel_rfl) fun p hp k e => ?_
 have e1 : nest (fxK w 33).dq (fxK w 33).body = [(ciK w 0, cpK w 0), (ciK w 1, cpK w 1), (ciK w 2, cpK w 2)] := by kernel_rfl
 have hp : p ∈ nest (fxK w 33).dq (fxK w 33).body := hp
 rw [e1] at hp
 have ec : (fxK w 33).cel.toList = ([("kernel" : Str)] : List Str) := by kernel_rfl
 rw [hci, hcp]
 simp only [List.mem_cons, List.not_mem_nil, or_false] at hp
 rcases hp with rfl | rfl | rfl
 ·have q : (fxK w 33).defs.lookup (ciK w 0).name = some 0 := by kernel_rfl
  cases (show some k = some 0 from e.symm.trans q)
  exact ⟨"kernel", rfl, rfl, by kernel_rfl, by kernel_rfl, fun env => by kernel_rfl, by kernel_rfl, ec⟩
 ·have q : (fxK w 33).defs.lookup (ciK w 1).name = some 1 := by kernel_rfl
  cases (show some k = some 1 from e.symm.trans q)
  exact ⟨"kernel", rfl, rfl, by kernel_rfl, by kernel_rfl, fun env => by kernel_rfl, by kernel_rfl, ec⟩
 ·have q : (fxK w 33).defs.lookup (ciK w 2).name = some 2 := by kernel_rfl
  cases (show some k = some 2 from e.symm.trans q)
  exact ⟨"kernel", rfl, rfl, by kernel_rfl, by kernel_rfl, fun env => by kernel_rfl, by kernel_rfl, ec⟩
theorem fxs_ok (hK : G.K = KK w) (hf : G.fa = faOf) (hci : G.CI = ciK w) (hcp : G.CP = cpK w) (hcd : ∀ hp, G.K.In hp → CodeHd hp 807 G.P) : ∀ f F, fxT w f = some F → F.Ok G (G.fa f) ∧ okSs G (ct0.at F.scope F.loc F.cel.toList F.defs F.dq) F.body := by
 intro f F e
 rw [hf]
 by_cases h : f < 36
 ·rw [fxT_lt h] at e
  cases e
  have d : (fxK w f).Ok G (faOf f) := (show UpTo (fun f => (fxK w f).Ok G (faOf f)) 36 from (.s (.s (.s (.s (.s (.s (.s (.s (.s (.s (.s (.s (.s (.s (.s (.s (.s (.s (.s (.s (.s (.s (.s (.s (.s (.s (.s (.s (.s (.s (.s (.s (.s (.s (.s (.s .z (fx_ok0 hK)) (fx_ok1 hK)) (fx_ok2 hK)) (fx_ok3 hK)) (fx_ok4 hK)) (fx_ok5 hK)) (fx_ok6 hK)) (fx_ok7 hK)) (fx_ok8 hK)) (fx_ok9 hK)) (fx_ok10 hK)) (fx_ok11 hK)) (fx_ok12 hK)) (fx_ok13 hK)) (fx_ok14 hK)) (fx_ok15 hK)) (fx_ok16 hK)) (fx_ok17 hK)) (fx_ok18 hK)) (fx_ok19 hK)) (fx_ok20 hK)) (fx_ok21 hK)) (fx_ok22 hK)) (fx_ok23 hK)) (fx_ok24 hK)) (fx_ok25 hK)) (fx_ok26 hK)) (fx_ok27 hK)) (fx_ok28 hK)) (fx_ok29 hK)) (fx_ok30 hK)) (fx_ok31 hK)) (fx_ok32 hK)) (fx_ok33 hK hcd)) (fx_ok34 hK)) (fx_ok35 hK))).get f h
  refine ⟨d, ?_⟩
  by_cases q : f = 33
  ·subst q; exact kern_ok hci hcp
  ·refine okSs_nil ?_ _
   show (fxK w f).defs = []
   unfold fxK dfsOf
   rw [if_neg q]
   unfold fxOf
   cases (objOf (KK w) (faL.getD f 0)).data <;> rfl
 ·unfold fxT at e; rw [if_neg h] at e; cases e
theorem cfs_ok (hci : G.CI = ciK w) : ∀ k F, cfT w k = some F → F.Ok G k := by
 intro k F e
 match k, e with
 | 0, e => cases (show some (cfOf (ciK w 0)) = some F from e); exact cf_ok0 hci
 | 1, e => cases (show some (cfOf (ciK w 1)) = some F from e); exact cf_ok1 hci
 | 2, e => cases (show some (cfOf (ciK w 2)) = some F from e); exact cf_ok2 hci
 | n + 3, e => unfold cfT at e; rw [if_neg (Nat.not_lt.mpr (Nat.le_add_left 3 n))] at e; cases e
theorem orcs_ok (hK : G.K = KK w) (hc : G.cls = clsL) (ha : G.an = anL) (hf : G.fa = faOf) (hci : G.CI = ciK w) (hcp : G.CP = cpK w) (hP : G.P = 803) (hcd : ∀ hp, G.K.In hp → CodeHd hp 807 G.P) (n : Nat) : OrcOk G (orcK w n) n := by
 have := orc_ok (N := 4096) (fx := fxT w) (cf := cfT w) (wok hK hc ha hf hcp hP) (fxs_ok hK hf hci hcp hcd) (cfs_ok hci) n
 rw [hci] at this
 exact this
end
noncomputable def fieldsOf (o : Obj) : Array Value := match o.data with
 | .fields vs => vs
 | _ => #[]
noncomputable def strOf : Value → Str
 | .str x _ => x
 | _ => Str.empty
noncomputable def tokOf : Value → Tok
 | .str _ t => t
 | .int _ t => t
 | _ => 0
noncomputable def intOf : Value → Int
 | .int i _ => i
 | _ => 0
noncomputable def boolOf : Value → Bool
 | .bool b => b
 | _ => false
theorem hd807 (w : World) (hp : Heap) (X : (KK w).In hp) : CodeHd hp 807 803 := by
 refine ⟨objOf (KK w) 807, fieldsOf (objOf (KK w) 807), strOf ((fieldsOf (objOf (KK w) 807)).getD 18 .none), tokOf ((fieldsOf (objOf (KK w) 807)).getD 18 .none), intOf ((fieldsOf (objOf (KK w) 807)).getD 7 .none), tokOf ((fieldsOf (objOf (KK w) 807)).getD 7 .none),
  boolOf ((fieldsOf (objOf (KK w) 807)).getD 9 .none), intOf ((fieldsOf (objOf (KK w) 807)).getD 10 .none), tokOf ((fieldsOf (objOf (KK w) 807)).getD 10 .none), X _ _ ?_, ?_, ?_, ?_, ?_, ?_, ?_, ?_, ?_, by decide⟩ <;> kernel_rfl
theorem cel35 (w : World) : (fxK w 35).cel = none := by kernel_rfl
theorem ps35 (w : World) : (fxK w 35).ps = [("script" : Str)] := by kernel_rfl
theorem dfs35 (w : World) : (fxK w 35).defs = [] := by kernel_rfl
theorem run35 (w : World) (ns : List Int) (hl : ns.length ≤ 63) :
  ∃ l h', xss (orcK w 7) [] 4096 (cSs (ct0.at (fxK w 35).scope (fxK w 35).loc (fxK w 35).cel.toList (fxK w 35).defs (fxK w 35).dq) (fxK w 35).body) ((fxK w 35).loc.map fun x => ([(("script" : Str), V.sc ns)] : List (Str × V)).lookup x) [.tab 0] = .ok (.ret (.bool true), l) h' ∧ ∃ m', h'[0]? = some (.tab m') := by
 obtain ⟨v, h', e, rfl, mt⟩ := (f35 (orcK w 1) ns hl).get
 rw [← orc_nx w 0, ← orc_nx w 1, ← orc_nx w 2, ← orc_nx w 3, ← orc_nx w 4, ← orc_nx w 5] at e
 have e2 : runB (orcK w 7) b35 [.sc ns] [.tab 0] = .ok (.bool true) h' := e
 rw [← code35 w] at e2
 unfold runB codeK at e2
 dsimp only at e2
 rw [ps35, cel35] at e2
 rw [cel35]
 simp only [List.length_cons, List.length_nil, if_true, Option.toList, List.map_nil, List.append_nil, List.zip_cons_cons, List.zip_nil_left, List.zip_nil_right] at e2 ⊢
 generalize xss (orcK w 7) [] 4096 _ _ _ = r at e2 ⊢
 unfold endR at e2
 cases r with
 | bad => cases e2
 | exc => cases e2
 | ok q h =>
  obtain ⟨q, l⟩ := q
  cases q with
  | next => cases e2
  | ret v => cases e2; exact ⟨l, _, rfl, mt⟩
theorem fxB35 (w : World) : fxB (fxK w 35) = true := by kernel_rfl
theorem loc35 (w : World) (i : Nat) (x : Str) (h : (fxK w 35).loc[i]? = some x) : (fxK w 35).scope.names.lookup x = some .local ∧ (x == ("__debug__" : Str)) = false := by
 have e := fxB35 w
 unfold fxB at e
 simp only [Bool.and_eq_true, Bool.not_eq_true', List.all_eq_true] at e
 exact nmB_of (e.1.1.1.1.2 x (List.mem_of_getElem? h))
noncomputable def gwK (prog : Program) (w : World) (loose : List Str) (mean : ExcName → Option Value) (mg mb : Str → Option Value) (sa : Addr) (so : Obj) : GW where
 prog := prog
 w := w
 K := KK w
 p := topProg
 loose := loose
 mean := mean
 mg := mg
 mb := mb
 CI := ciK w
 CP := cpK w
 P := 803
 cls := clsL
 xcs := [64, 76, 52]
 an := anL
 fa := faOf
 sa := sa
 so := so
section
variable {prog : Program} {w : World} {loose : List Str} {mean : ExcName → Option Value} {mg mb : Str → Option Value} {sa : Addr} {vs : List Value} {ns : List Int} {gh h₁ : Heap} {L f : Addr} {cd : Value} {m : Str → Option Value} {scope : Scope} {body : List Stmt} {qual : Str}
theorem law_entry {s : Shared} (X : (KK w).In gh) (T : Top topProg loose mean mg mb gh) (F : Fr gh L s.heap m) (hL : gh.IsList sa vs.toArray) (N : News gh L s.heap [(803, tabObj #[])]) (hI : IntsAre vs ns) (hlen : ns.length ≤ 63) (hm : m "script" = some (.ref sa))
  (hsm : ∃ o, gh.get? sysModules = some o) (hs : scope = (fxK w 35).scope) (hb : body = (fxK w 35).body) {Q : Flow → Shared → Prop} {E : Value → Shared → Prop}
  (hq : ∀ s' m', Fr gh L s'.heap m' → s'.gens = s.gens → s'.os = s.os → (∃ ps, s'.heap.get? 803 = some (tabObj ps)) → Q (.ret (.bool true)) s') :
  wpAny (model prog w) (callerA.deeper (envX qual scope L f cd [])) (execs body (envX qual scope L f cd [])) Q E s := by
 subst hs hb
 obtain ⟨so, ho, hc, nn, hd⟩ := hL
 let G := gwK prog w loose mean mg mb sa so
 let c : Cx := { A := callerA.deeper (envX qual (fxK w 35).scope L f cd []), g := gh, L := L, qual := qual, scope := (fxK w 35).scope, fa := f, cd := cd, cl := [], names := (fxK w 35).loc, cids := [], below := [], outer := [], S := s }
 have e35 := fxB35 w
 unfold fxB at e35
 simp only [Bool.and_eq_true, Bool.not_eq_true', List.all_eq_true] at e35
 have k : c.Ok G (4 * 7 + 3) := {
  X := X
  T := T
  fr := rfl
  hh := rfl
  gd := rfl
  dep := (show 1 + claimMargin + 1 + (4 * 7 + 3) < 900 by decide)
  un := (show 4 + 3 + 20 * (4 * 7 + 3) < 9000 by decide)
  hk := eq_of_beq e35.1.1.1.1.1.2
  nm := fun x hx => nmB_of (e35.1.1.1.1.2 x hx)
  nn := ndB_of e35.1.1.1.2
  cn := fun q hq => nomatch hq
  ab := fun a ha => by
   rcases List.mem_cons.mp ha with q | q
   ·rw [q]; exact F.above
   ·cases q
  fd := List.nodup_cons.mpr ⟨show L ∉ ([] : List Addr) from (fun q => (nomatch q)), List.nodup_nil⟩
  ou := trivial
  sm := hsm
  sc := ho }
 have ok : (ct0.at (fxK w 35).scope (fxK w 35).loc (fxK w 35).cel.toList (fxK w 35).defs (fxK w 35).dq).Ok c := ⟨rfl, rfl, by show (fxK w 35).cel.toList = []; rw [cel35]; rfl, fun q => absurd (dfs35 w) q⟩
 obtain ⟨n1, n2, n3⟩ := N _ (.head _)
 have rep : Rep G c ⟨[803], []⟩ ((fxK w 35).loc.map fun x => ([(("script" : Str), V.sc ns)] : List (Str × V)).lookup x) [.tab 0] s := by
  refine ⟨F.keep, ⟨m, F.ns, fun i x v e1 e2 => ?_⟩, fun q hq => (nomatch hq), rfl, List.nodup_cons.mpr ⟨by simp, List.nodup_nil⟩, fun i a lo e1 e2 => ?_, fun p hp => (nomatch hp), fun p hp => (nomatch hp), fun q hq => (nomatch hq), rfl, rfl, rfl, rfl⟩
  ·rw [List.getElem?_map, show (fxK w 35).loc[i]? = some x from e1] at e2
   simp only [Option.map_some, Option.some.injEq, List.lookup_cons] at e2
   by_cases q : x = "script"
   ·subst q
    rw [beq_self_eq_true] at e2
    cases e2
    exact ⟨_, hm, RSc.mk vs.toArray _ rfl hc hd (by simpa using hI)⟩
   ·rw [show (x == ("script" : Str)) = false by simpa using q] at e2
    cases e2
  ·cases i with
   | succ i => cases e1
   | zero =>
    cases e1; cases e2
    refine ⟨tabObj #[], ⟨n1, n3, fun q => ?_⟩, #[], rfl, trivial, fun j _ => rfl, fun j hj => absurd hj (Nat.not_lt_zero _)⟩
    rcases List.mem_cons.mp q with q | q
    ·exact n2 q
    ·cases q
 have oc := orcs_ok (G := G) (w := w) rfl rfl rfl rfl rfl rfl rfl (fun hp X => hd807 w hp X) 7
 have wk := (wok (G := G) (w := w) rfl rfl rfl rfl rfl rfl).at (fxK w 35).scope (fxK w 35).loc (fxK w 35).cel.toList (fxK w 35).defs (fxK w 35).dq
 have b := s_ss (N := 4096) wk oc (fun c k => k.le (by omega)) (s_e wk.gk wk.gt oc (p_comp wk.gt)) (fxK w 35).body (okSs_nil (dfs35 w) _)
 obtain ⟨l, h', er, m', hm'⟩ := run35 w ns hlen
 refine b c _ _ _ k ok s rep Q E (fun q h2 κ s2 fl e le rep2 hf => ?_) (fun C kd h2 κ s2 e e2 le rx => ?_) (fun q => ?_)
 ·have e := e.symm.trans er
  cases e
  obtain ⟨u, rfl, hu⟩ := hf
  cases hu
  obtain ⟨m2, FF, _⟩ := rep2.fr k
  obtain ⟨o, x, ps, rfl, _⟩ := rep2.mu 0 803 _ rep2.tb hm'
  exact hq s2 m2 FF rep2.gens rep2.os ⟨ps, x.1⟩
 ·exact nomatch e2.symm.trans er
 ·exact nomatch q.symm.trans er
end
end Mine
open Mine
theorem PySem.Challenge.cw_sj0067_01_holds : PySem.Challenge.rw_sj0067_01.Holds := by
 w_on
 refine holds_law well fun said => ?_
 refine holds_open (r := PySem.Challenge.rw_sj0067_01.row) (q := q0) (loose := loose0) (Xt := fun s => xlAt q0 [] s && recOk [] s) (XP := XL q0 []) (Yf := Hook.obs (kmHook K0 ks0 pf0 [803])) (Ya := Hook.val (kmHook K0 ks0 pf0 [803])) (YP := Hook.says (kmHook K0 ks0 pf0 [803])) (N := 9952) left0 (Hook.of (kmHook K0 ks0 pf0 [803])) (Hook.keeps (kmHook K0 ks0 pf0 [803])) (fun s e => xl_of s (Bool.and_eq_true_iff.mp e).1) XL.keeps (by rfl) (by rfl) (by rfl) (fun s e => recFacts_of (Bool.and_eq_true_iff.mp e).2) (by rfl) (by first | assumption | decide +kernel) (by decide +kernel) ⟨rfl, rfl, rfl, rfl, rfl, by decide +kernel⟩ ?hw ?hc
 case hw => w_witness2
 w_strict (k_go0; (all_goals try k_fold); rename News _ _ _ _ => N'; rename Top topProg _ _ _ _ _ => T'; rename Fr _ _ _ _ => F'; rename Frag.In _ _ => X'; rename IntsAre _ _ => hI; rename TabsAt _ _ => hT; refine law_entry X' T' F' (by assumption) N' hI ?l rfl ?sm ?sc ?bd ?q; (case l => omega); (case sc => kernel_rfl); (case bd => kernel_rfl); (case sm => (rename Top q0 _ _ _ _ _ => T0; obtain ⟨mm, hn, _⟩ := (T0.seer (by kernel_rfl)).mods; obtain ⟨o, _, _, ho, _⟩ := ghost_ns hT hn; exact ⟨o, ho⟩)); (case q => (intro s' m' F2 hg ho hp; obtain ⟨ps, hp⟩ := hp; refine ⟨?g, ⟨ps, hp⟩, trivial⟩; refine goodW_bool F2 (hg.trans (by assumption)) (raisesW_false ?hn) ?hp ho; (case hn => wrow_none_raised); (case hp => (refine postW_of (X := true) ?s ?v rfl; (case s => rfl); (case v => first | rfl | wtm_val))))))
