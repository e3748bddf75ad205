import PyProof.Rows.All
import Wide.All
import OpenK.AllK
import Wide.FinOn
import HandS.Words
import HandS.Call
import HandS.Head0
import HandS.Head1
import HandS.Head2
import HandS.HeadHook1
import HandS.ForMost
import HandS.Dict
import HandS.Iter
import HandS.Lambda
import KE.KDictKeyed
import KE.KDictWalk
import HandS.ForExc
import HandS.Walk
import HandS.IsInst
import HandS.RaiseMore
import HandS.TupAny
import HandS.NoneIn
import HandS.Wide
import PyProof.ListStr
import PyProof.ReprRoads
import HandS.More
import HandS.Property
import KE.KCallOwn
import HandS.Set
import PyProof.Rows.SortShellAny
import HandS.Star
import HandS.FStr
import HandS.DictComp
import HandS.IterVal
import KE.KOwnIter
import HandS.ClsMeth
import KE.KEqNest
import KE.KMinBuiltin
import OpenK.KMeth
import HandS.EndTab
import KE.KExcInit
import HandS.ExcField
import HandS.TryMany
import KE.GoesMore
import HandS.Zip
import KE.KDictZip
import KE.KItemsList
import HandS.StrMore
import PyProof.Rows.StrCountLaw
import PyProof.StrBlock2
import PyProof.MeetsIn
import PyProof.NeKinds
import PyProof.FactsAll.dict_2
import KE.KFmtOwn
import HandS.Defaults
import KE.KEqDict
import KE.KDictList
import KE.GoesEnum
import HandS.Replace
import HandS.ReplaceLit
import HandS.Finally
import HandS.DeepEq
import HandS.Codes
import HandS.ReplaceList
import KE.KExcLine
import PySem.Challenge.RW_fromparts_k10_libraries_told
set_option Elab.async false
set_option linter.all false
set_option maxRecDepth 100000
set_option maxHeartbeats 4000000
/-! FPH0: the head by one kernel run: what my facts ask of the heap, as Bools. -/
theorem FP.ex1 {α : Type} {l : List α} {n : Nat} (h : l.length = n) (e : n = 1 := by rfl) : ∃ a, l = [a] := by
  subst e
  exact List.length_eq_one_iff.mp h
theorem FP.ex2 {α : Type} {l : List α} {n : Nat} (h : l.length = n) (e : n = 2 := by rfl) : ∃ a b, l = [a, b] := by
  subst e
  cases l with
  | nil => cases h
  | cons a t =>
    obtain ⟨b, rfl⟩ := FP.ex1 (Nat.succ.inj h)
    exact ⟨a, b, rfl⟩
theorem FP.ex3 {α : Type} {l : List α} {n : Nat} (h : l.length = n) (e : n = 3 := by rfl) : ∃ a b c, l = [a, b, c] := by
  subst e
  cases l with
  | nil => cases h
  | cons a t =>
    obtain ⟨b, c, rfl⟩ := FP.ex2 (Nat.succ.inj h)
    exact ⟨a, b, c, rfl⟩
theorem FP.ex4 {α : Type} {l : List α} {n : Nat} (h : l.length = n) (e : n = 4 := by rfl) : ∃ a b c d, l = [a, b, c, d] := by
  subst e
  cases l with
  | nil => cases h
  | cons a t =>
    obtain ⟨b, c, d, rfl⟩ := FP.ex3 (Nat.succ.inj h)
    exact ⟨a, b, c, d, rfl⟩
theorem FP.ex5 {α : Type} {l : List α} {n : Nat} (h : l.length = n) (e : n = 5 := by rfl) : ∃ a b c d f, l = [a, b, c, d, f] := by
  subst e
  cases l with
  | nil => cases h
  | cons a t =>
    obtain ⟨b, c, d, f, rfl⟩ := FP.ex4 (Nat.succ.inj h)
    exact ⟨a, b, c, d, f, rfl⟩
namespace FP
open PySem PySem.Spec PyProof.Rows L2
abbrev veBm : List Value := [.type "ValueError", .type "Exception", .type "BaseException", .type "object"]
/-! ### addresses by names -/
noncomputable abbrev mA (K : PySem.W.Frag) (C : Addr) (m : Str) : Addr := He.ma K C m
noncomputable def rTl (K : PySem.W.Frag) (p : Addr) (T : String) : List Value := match PySem.W.recIn K p T with
  | some (_ :: r) => r
  | _ => []
noncomputable def cmA (K : PySem.W.Frag) (C : Addr) (m : Str) : Addr := match PySem.W.findCls K (.ref C) (.type "type") m with
  | some (.get _ (.ref p) _ _) => p
  | _ => 0
noncomputable def cmB (K : PySem.W.Frag) (C : Addr) (m : Str) : Bool := match PySem.W.findCls K (.ref C) (.type "type") m with
  | some (.get (.builtin n) (.ref p) .none (.ref c)) => decide (n = "classmethod.__get__") && (decide (p = cmA K C m) && decide (c = C))
  | _ => false
theorem cm_ok {K : PySem.W.Frag} {C : Addr} {m : Str} (h : cmB K C m = true) : PySem.W.findCls K (.ref C) (.type "type") m = some (.get (.builtin "classmethod.__get__") (.ref (cmA K C m)) .none (.ref C)) := by
  unfold cmB at h
  split at h
  · rename_i n p c e
    rw [Bool.and_eq_true, Bool.and_eq_true, decide_eq_true_eq, decide_eq_true_eq, decide_eq_true_eq] at h
    obtain ⟨h1, h2, h3⟩ := h
    rw [e, ← h1, ← h2, ← h3]
  · cases h
noncomputable def tkO (K : PySem.W.Frag) (x : Str) : Tok := match PySem.W.nsIn K mainGlobals x with
  | some (some (.str _ t)) => t
  | some (some (.int _ t)) => t
  | _ => default
/-! ### functions -/
noncomputable def fnV (K : PySem.W.Frag) (f : Addr) : He.FnV := match K.lookup f with
  | some ⟨_, _, .func fd, _⟩ => some (fd.name, fd.qualname, fd.params, fd.body, fd.scope, fd.globals, fd.closure, .none, fd.builtins)
  | _ => none
noncomputable def fnX (x qual : Str) (st : Stmt) : He.FnV := some (x, qual, defArgs st, .stmts (defBody st), defScope st, mainGlobals, [], .none, builtinsNs)
/-- its code's name, no defaults -/
noncomputable def fnC (K : PySem.W.Frag) (f : Addr) (qual : Str) : Bool := match K.lookup f with
  | some ⟨_, _, .func fd, _⟩ => PySem.W.codeIn K fd.code qual && (match fd.defaults with
    | .none => true
    | _ => false)
  | _ => false
theorem fn_of {K : PySem.W.Frag} {f : Addr} {x qual : Str} {st : Stmt} (e : fnV K f = fnX x qual st) (c : fnC K f qual = true) :
    ∃ oc od osl kV doc pm an cdv ct, K.lookup f = some ⟨oc, od, .func (PySem.W.fnOf x qual (defArgs st) (defBody st) (defScope st) .none kV doc pm an cdv ct), osl⟩ ∧ PySem.W.codeIn K cdv qual = true := by
  unfold fnV at e
  unfold fnC at c
  cases q : K.lookup f with
  | none =>
    rw [q] at c
    cases c
  | some o =>
    obtain ⟨oc, od, dt, osl⟩ := o
    rw [q] at c e
    cases dt with
    | func fd =>
      obtain ⟨n1, n2, n3, n4, n5, n6, n7, n8, n9, n10, n11, n12, n13, n14, n15⟩ := fd
      have e2 : (some (n1, n2, n3, n4, n5, n6, n7, Value.none, n15) : He.FnV) = some (x, qual, defArgs st, .stmts (defBody st), defScope st, mainGlobals, [], .none, builtinsNs) := e
      simp only [Option.some.injEq, Prod.mk.injEq] at e2
      obtain ⟨h1, h2, h3, h4, h5, h6, h7, _, h9⟩ := e2
      subst h1 h2 h3 h4 h5 h6 h7 h9
      dsimp only at c
      rw [Bool.and_eq_true] at c
      obtain ⟨c1, c2⟩ := c
      cases n8 with
      | none => exact ⟨oc, od, osl, n9, n10, n11, n12, n13, n14, rfl, c1⟩
      | _ => cases c2
    | _ => cases c
/-- the one default is None -/
noncomputable def fnD (K : PySem.W.Frag) (f : Addr) (qual : Str) : Bool := match K.lookup f with
  | some ⟨_, _, .func fd, _⟩ => PySem.W.codeIn K fd.code qual && (match fd.defaults with
    | .ref T => (match K.lookup T with
      | some ⟨_, _, .seq its _, _⟩ => (match its.toList with
        | [.none] => true
        | _ => false)
      | _ => false)
    | _ => false)
  | _ => false
theorem fn_ofD {K : PySem.W.Frag} {f : Addr} {x qual : Str} {st : Stmt} (e : fnV K f = fnX x qual st) (c : fnD K f qual = true) :
    ∃ oc od osl kV doc pm an cdv ct T tc td tn tsl, K.lookup f = some ⟨oc, od, .func (PySem.W.fnOf x qual (defArgs st) (defBody st) (defScope st) (.ref T) kV doc pm an cdv ct), osl⟩ ∧ PySem.W.codeIn K cdv qual = true ∧ K.lookup T = some ⟨tc, td, .seq #[.none] tn, tsl⟩ := by
  unfold fnV at e
  unfold fnD at c
  cases q : K.lookup f with
  | none =>
    rw [q] at c
    cases c
  | some o =>
    obtain ⟨oc, od, dt, osl⟩ := o
    rw [q] at c e
    cases dt with
    | func fd =>
      obtain ⟨n1, n2, n3, n4, n5, n6, n7, n8, n9, n10, n11, n12, n13, n14, n15⟩ := fd
      have e2 : (some (n1, n2, n3, n4, n5, n6, n7, Value.none, n15) : He.FnV) = some (x, qual, defArgs st, .stmts (defBody st), defScope st, mainGlobals, [], .none, builtinsNs) := e
      simp only [Option.some.injEq, Prod.mk.injEq] at e2
      obtain ⟨h1, h2, h3, h4, h5, h6, h7, _, h9⟩ := e2
      subst h1 h2 h3 h4 h5 h6 h7 h9
      dsimp only at c
      rw [Bool.and_eq_true] at c
      obtain ⟨c1, c2⟩ := c
      cases n8 with
      | ref T =>
        dsimp only at c2
        cases r : K.lookup T with
        | none =>
          rw [r] at c2
          cases c2
        | some o =>
          obtain ⟨tc, td, dt, tsl⟩ := o
          rw [r] at c2
          cases dt with
          | seq its n =>
            obtain ⟨l⟩ := its
            dsimp only at c2
            match l, c2 with
            | [.none], _ => exact ⟨oc, od, osl, n9, n10, n11, n12, n13, n14, T, tc, td, n, tsl, rfl, c1, r⟩
          | _ => cases c2
      | _ => cases c2
    | _ => cases c
/-- an empty table -/
noncomputable def isTb (o : Obj) : Bool := match o with
  | ⟨.none, _, .fields us, _⟩ => us.isEmpty
  | _ => false
/-- a part of the heap, without the tables -/
noncomputable def frT (g : Addr → Option Obj) (as : List Addr) : PySem.W.Frag := as.filterMap fun a => match g a with
  | some o => if isTb o then none else some (a, o)
  | none => none
theorem frT_at {g : Addr → Option Obj} {a : Addr} {o : Obj} : ∀ as : List Addr, (frT g as).lookup a = some o → g a = some o
  | [], e => nomatch (show (none : Option Obj) = some o from e)
  | b :: r, e => by
    unfold frT at e
    rw [List.filterMap_cons] at e
    cases hb : g b with
    | none =>
      rw [hb] at e
      exact frT_at r e
    | some ob =>
      rw [hb] at e
      dsimp only at e
      by_cases ht : isTb ob
      · rw [if_pos ht] at e
        exact frT_at r e
      · rw [if_neg ht] at e
        have e2 : (match a == b with | true => some ob | false => (frT g r).lookup a) = some o := e
        cases q : (a == b) with
        | true =>
          rw [q] at e2
          have eo : ob = o := Option.some.inj e2
          rw [beq_iff_eq.mp q, hb, eo]
        | false =>
          rw [q] at e2
          exact frT_at r e2
theorem frT_in {as : List Addr} {h : Heap} : (frT h.get? as).In h := fun _ _ e => frT_at as e
/-! ### functions that make lambdas -/
/-! ### the Hook: a fragment that begins with the addresses L -/
noncomputable abbrev frL (L : List Addr) (n : Nat) (g : Addr → Option Obj) : PySem.W.Frag := frT g (L ++ cStatics :: He.asG g n)
noncomputable abbrev hookL (L : List Addr) (n : Nat) (B : PySem.W.Frag → Bool) (V : PySem.W.Frag → List He.FnV) (v : List He.FnV) : PySem.W.Hook where
  α := Bool × List He.FnV
  obs := fun s => (B (frL L n s.heap.get?), V (frL L n s.heap.get?))
  val := fun _ => (true, v)
  says := fun _ h => ∃ K : PySem.W.Frag, K.In h ∧ B K = true ∧ V K = v
  of := fun _ _ e => ⟨_, frT_in, congrArg Prod.fst e, congrArg Prod.snd e⟩
  keeps := fun _ _ _ ⟨K, hK, c⟩ k => ⟨K, PySem.W.Frag.In.keeps hK k, c⟩
noncomputable def obL (L : List Addr) (n : Nat) (B : PySem.W.Frag → Bool) (V : PySem.W.Frag → List He.FnV) (g : Addr → Option Obj) : Bool × List He.FnV := (B (frL L n g), V (frL L n g))
noncomputable def obS (L : List Addr) (n : Nat) (B : PySem.W.Frag → Bool) (V : PySem.W.Frag → List He.FnV) (s : PySem.W.SharedT) : Bool × List He.FnV := obL L n B V (HandSHeadRun.getT s)
theorem obS_eq {L : List Addr} {n : Nat} {B : PySem.W.Frag → Bool} {V : PySem.W.Frag → List He.FnV} {v : List He.FnV} (s : PySem.W.SharedT) : obS L n B V s = (hookL L n B V v).obs s.abs := by
  have e : HandSHeadRun.getT s = s.abs.heap.get? := funext (HandSHeadRun.getT_eq s)
  unfold obS obL
  rw [e]
noncomputable abbrev RunL (r : PySem.W.OpenRow) (q : Program) (L : List Addr) (n : Nat) (B : PySem.W.Frag → Bool) (V : PySem.W.Frag → List He.FnV) (v : List He.FnV) (M : Nat) (loose : List Str) : Prop :=
  ∀ w : World, HandSHeadRun.RunEq r q (hookL L n B V v) (obS L n B V) M loose w
end FP
namespace K10
open PySem L2 FP
noncomputable def topS (i : Nat) : Stmt := PySem.Challenge.pw_fromparts_k10_libraries_told.main.body.getD i (.Pass ⟨0, 0, 0, 0⟩)
noncomputable abbrev s_is_integer : Stmt := topS 5
noncomputable abbrev s_is_within : Stmt := topS 6
noncomputable abbrev s_is_word : Stmt := topS 7
noncomputable abbrev s_ascending_rows : Stmt := topS 8
noncomputable abbrev s_order_of : Stmt := topS 26
noncomputable abbrev s_input_text : Stmt := topS 27
noncomputable abbrev s_Type___init__ : Stmt := inClass (topS 28) 0
noncomputable abbrev s_Type_plain : Stmt := inClass (topS 28) 2
noncomputable abbrev s_Type_text : Stmt := inClass (topS 28) 5
noncomputable abbrev s_Type_atoms : Stmt := inClass (topS 28) 7
noncomputable abbrev s_Type___str__ : Stmt := inClass (topS 28) 20
noncomputable abbrev s_signed_atoms : Stmt := topS 31
noncomputable abbrev s_is_parts : Stmt := topS 35
noncomputable abbrev s_Library___init__ : Stmt := inClass (topS 37) 0
noncomputable abbrev s_Library_parts : Stmt := inClass (topS 37) 2
noncomputable abbrev s_Library_names : Stmt := inClass (topS 37) 3
noncomputable abbrev s_Library_lines : Stmt := inClass (topS 37) 4
noncomputable abbrev s_Library_atoms : Stmt := inClass (topS 37) 5
noncomputable abbrev s_Library_scope : Stmt := inClass (topS 37) 6
noncomputable abbrev s_Library_order : Stmt := inClass (topS 37) 7
noncomputable abbrev s_Library_with_part : Stmt := inClass (topS 37) 9
noncomputable abbrev s_Library_heads : Stmt := inClass (topS 37) 14
noncomputable abbrev s_Library___getitem__ : Stmt := inClass (topS 37) 19
noncomputable abbrev s_Library___contains__ : Stmt := inClass (topS 37) 20
noncomputable abbrev s_Library___len__ : Stmt := inClass (topS 37) 21
noncomputable abbrev s_Library___iter__ : Stmt := inClass (topS 37) 22
noncomputable abbrev s_Library___eq__ : Stmt := inClass (topS 37) 23
noncomputable abbrev s_Library___str__ : Stmt := inClass (topS 37) 24
noncomputable abbrev s_require_library : Stmt := topS 38
noncomputable abbrev s_atoms_in : Stmt := topS 40
noncomputable abbrev s_fresh_list : Stmt := topS 44
noncomputable abbrev s_fresh_names : Stmt := topS 45
noncomputable abbrev s__law_dice : Stmt := topS 47
noncomputable abbrev s__law_roll : Stmt := topS 48
noncomputable abbrev s__law_pick : Stmt := topS 49
noncomputable abbrev s__law_some : Stmt := topS 50
noncomputable abbrev s__law_text : Stmt := topS 51
noncomputable abbrev s__law_atoms_of : Stmt := topS 52
noncomputable abbrev s__law_order : Stmt := topS 53
noncomputable abbrev s__law_kind : Stmt := topS 54
noncomputable abbrev s__law_made_kind : Stmt := topS 55
noncomputable abbrev s__law_library : Stmt := topS 56
noncomputable abbrev s__law_known_library : Stmt := topS 57
noncomputable abbrev s__law_lines : Stmt := topS 58
noncomputable abbrev s__law_made : Stmt := topS 59
noncomputable abbrev s__law_library_atoms : Stmt := topS 60
noncomputable abbrev s__law_told_right : Stmt := topS 61
noncomputable abbrev s__law_right : Stmt := topS 62
noncomputable abbrev s_law : Stmt := topS 63
noncomputable abbrev Af_is_integer : Addr := 28
noncomputable abbrev Af_is_within : Addr := 35
noncomputable abbrev Af_is_word : Addr := 40
noncomputable abbrev Af_ascending_rows : Addr := 45
noncomputable abbrev Af_order_of : Addr := 229
noncomputable abbrev Af_input_text : Addr := 236
noncomputable abbrev Af_Type___init__ : Addr := 248
noncomputable abbrev Ap_Type_plain : Addr := 267
noncomputable abbrev Af_Type_plain : Addr := 265
noncomputable abbrev Ap_Type_text : Addr := 292
noncomputable abbrev Af_Type_text : Addr := 291
noncomputable abbrev Ap_Type_atoms : Addr := 308
noncomputable abbrev Af_Type_atoms : Addr := 307
noncomputable abbrev Af_Type___str__ : Addr := 398
noncomputable abbrev Af_signed_atoms : Addr := 426
noncomputable abbrev Af_is_parts : Addr := 431
noncomputable abbrev Af_Library___init__ : Addr := 451
noncomputable abbrev Ap_Library_parts : Addr := 469
noncomputable abbrev Af_Library_parts : Addr := 468
noncomputable abbrev Ap_Library_names : Addr := 477
noncomputable abbrev Af_Library_names : Addr := 476
noncomputable abbrev Ap_Library_lines : Addr := 485
noncomputable abbrev Af_Library_lines : Addr := 484
noncomputable abbrev Ap_Library_atoms : Addr := 493
noncomputable abbrev Af_Library_atoms : Addr := 492
noncomputable abbrev Ap_Library_scope : Addr := 501
noncomputable abbrev Af_Library_scope : Addr := 500
noncomputable abbrev Ap_Library_order : Addr := 507
noncomputable abbrev Af_Library_order : Addr := 506
noncomputable abbrev Af_Library_with_part : Addr := 521
noncomputable abbrev Af_Library_heads : Addr := 554
noncomputable abbrev Af_Library___getitem__ : Addr := 585
noncomputable abbrev Af_Library___contains__ : Addr := 592
noncomputable abbrev Af_Library___len__ : Addr := 599
noncomputable abbrev Af_Library___iter__ : Addr := 606
noncomputable abbrev Af_Library___eq__ : Addr := 613
noncomputable abbrev Af_Library___str__ : Addr := 620
noncomputable abbrev Af_require_library : Addr := 634
noncomputable abbrev Af_atoms_in : Addr := 646
noncomputable abbrev Af_fresh_list : Addr := 670
noncomputable abbrev Af_fresh_names : Addr := 677
noncomputable abbrev Af__law_dice : Addr := 684
noncomputable abbrev Af__law_roll : Addr := 691
noncomputable abbrev Af__law_pick : Addr := 698
noncomputable abbrev Af__law_some : Addr := 703
noncomputable abbrev Af__law_text : Addr := 710
noncomputable abbrev Af__law_atoms_of : Addr := 717
noncomputable abbrev Af__law_order : Addr := 722
noncomputable abbrev Af__law_kind : Addr := 729
noncomputable abbrev Af__law_made_kind : Addr := 734
noncomputable abbrev Af__law_library : Addr := 741
noncomputable abbrev Af__law_known_library : Addr := 748
noncomputable abbrev Af__law_lines : Addr := 753
noncomputable abbrev Af__law_made : Addr := 758
noncomputable abbrev Af__law_library_atoms : Addr := 765
noncomputable abbrev Af__law_told_right : Addr := 770
noncomputable abbrev Af__law_right : Addr := 775
noncomputable abbrev Af_law : Addr := 782
noncomputable abbrev lits : List Addr := mainGlobals :: cStatics :: [401, 400, 623, 622, 92, 91, 80, 79, 68, 67, 54, 55, 782, 781, 775, 774, 770, 769, 765, 764, 758, 757, 753, 752, 748, 747, 741, 740, 734, 733, 729, 728, 722, 721, 717, 716, 710, 709, 703, 702, 698, 697, 691, 690, 684, 683, 677, 676, 670, 669, 646, 645, 634, 633, 620, 619, 613, 612, 606, 605, 599, 598, 592, 591, 585, 584, 554, 553, 521, 520, 506, 505, 507, 500, 499, 501, 492, 491, 493, 484, 483, 485, 476, 475, 477, 468, 467, 469, 451, 450, 446, 431, 430, 426, 425, 398, 397, 307, 306, 308, 291, 290, 292, 265, 264, 267, 248, 247, 236, 235, 229, 228, 45, 44, 40, 39, 35, 34, 28, 27]
noncomputable def hdkb0 (K : PySem.W.Frag) : Bool :=
    decide (PySem.W.nsIn K mainGlobals "abs" = some none) &&
    (decide (PySem.W.nsIn K mainGlobals "all" = some none) &&
    (decide (PySem.W.nsIn K mainGlobals "bool" = some none) &&
    (decide (PySem.W.nsIn K mainGlobals "dict" = some none) &&
    (decide (PySem.W.nsIn K mainGlobals "int" = some none) &&
    (decide (PySem.W.nsIn K mainGlobals "isinstance" = some none) &&
    (decide (PySem.W.nsIn K mainGlobals "iter" = some none) &&
    (decide (PySem.W.nsIn K mainGlobals "len" = some none) &&
    (decide (PySem.W.nsIn K mainGlobals "list" = some none) &&
    (decide (PySem.W.nsIn K mainGlobals "max" = some none) &&
    (decide (PySem.W.nsIn K mainGlobals "min" = some none) &&
    (decide (PySem.W.nsIn K mainGlobals "range" = some none) &&
    (decide (PySem.W.nsIn K mainGlobals "set" = some none) &&
    (decide (PySem.W.nsIn K mainGlobals "sorted" = some none) &&
    (decide (PySem.W.nsIn K mainGlobals "str" = some none) &&
    (decide (PySem.W.nsIn K mainGlobals "tuple" = some none) &&
    (decide (PySem.W.nsIn K mainGlobals "ARROW" = some (some (.str " -> " (tkO K "ARROW")))) &&
    (decide (PySem.W.nsIn K mainGlobals "LETTERS" = some (some (.str "abcdefghijklmnopqrstuvwxyz" (tkO K "LETTERS")))) &&
    (decide (PySem.W.nsIn K mainGlobals "LONGEST" = some (some (.int 1000000000000000000000000000000000000000000000000000000000000 (tkO K "LONGEST")))) &&
    (decide (PySem.W.nsIn K mainGlobals "MAX_LETTERS" = some (some (.int 8 (tkO K "MAX_LETTERS")))))))))))))))))))))))
noncomputable def hdkb1 (K : PySem.W.Frag) : Bool :=
    decide (PySem.W.nsIn K mainGlobals "MAX_ORDER" = some (some (.int 4 (tkO K "MAX_ORDER")))) &&
    (decide (PySem.W.nsIn K mainGlobals "MAX_PARTS" = some (some (.int 8 (tkO K "MAX_PARTS")))) &&
    (decide (PySem.W.nsIn K mainGlobals "MAX_PLACES" = some (some (.int 15 (tkO K "MAX_PLACES")))) &&
    (decide (PySem.W.nsIn K mainGlobals "Type" = some (some (.ref 401))) &&
    (decide (PySem.W.plainGet K 401 Str.empty = true) &&
    (decide (PySem.W.hasDictIn K 401 = true) &&
    (decide (PySem.W.plainOver K 401 = true) &&
    (decide (PySem.W.findIn K (.ref 401) "__setattr__" = some (some (.builtin "object.__setattr__"))) &&
    (decide (PySem.W.findIn K (.ref 401) "__class__" = some (some (.builtin "object.__class__"))) &&
    (decide (PySem.W.specialIn K (.builtin "object.__class__") "__get__" = some (some (.builtin "getset_descriptor.__get__"))) &&
    (decide (PySem.W.takesIn K (.builtin "object.__class__") = some true) &&
    (decide (PySem.W.mroIn K 401 (.type "object") = some true) &&
    (decide (PySem.W.findIn K (.ref 401) "own_args" = some none) &&
    (decide (PySem.W.findIn K (.ref 401) "own_atom" = some none) &&
    (decide (PySem.W.findIn K (.ref 401) "own_places" = some none) &&
    (decide (PySem.W.findIn K (.ref 401) "own_order" = some none) &&
    (decide (PySem.W.findIn K (.ref 401) "own_text" = some none) &&
    (decide (PySem.W.isClsIn K 401 = true) &&
    (decide (PySem.W.typeIn K (.ref 401) = some (.type "type")) &&
    (decide (PySem.W.subIn K (.type "NoneType") (.ref 401) = some false))))))))))))))))))))
noncomputable def hdkb2 (K : PySem.W.Frag) : Bool :=
    decide (PySem.W.subIn K (.type "bool") (.ref 401) = some false) &&
    (decide (PySem.W.subIn K (.type "int") (.ref 401) = some false) &&
    (decide (PySem.W.subIn K (.type "str") (.ref 401) = some false) &&
    (decide (PySem.W.subIn K (.type "tuple") (.ref 401) = some false) &&
    (decide (PySem.W.subIn K (.type "list") (.ref 401) = some false) &&
    (decide (PySem.W.subIn K (.type "dict") (.ref 401) = some false) &&
    (decide (PySem.W.nsIn K mainGlobals "Library" = some (some (.ref 623))) &&
    (decide (PySem.W.plainGet K 623 Str.empty = true) &&
    (decide (PySem.W.hasDictIn K 623 = true) &&
    (decide (PySem.W.plainOver K 623 = true) &&
    (decide (PySem.W.findIn K (.ref 623) "__setattr__" = some (some (.builtin "object.__setattr__"))) &&
    (decide (PySem.W.findIn K (.ref 623) "__class__" = some (some (.builtin "object.__class__"))) &&
    (decide (PySem.W.specialIn K (.builtin "object.__class__") "__get__" = some (some (.builtin "getset_descriptor.__get__"))) &&
    (decide (PySem.W.takesIn K (.builtin "object.__class__") = some true) &&
    (decide (PySem.W.mroIn K 623 (.type "object") = some true) &&
    (decide (PySem.W.findIn K (.ref 623) "own_parts" = some none) &&
    (decide (PySem.W.findIn K (.ref 623) "own_names" = some none) &&
    (decide (PySem.W.findIn K (.ref 623) "own_lines" = some none) &&
    (decide (PySem.W.findIn K (.ref 623) "own_scope" = some none) &&
    (decide (PySem.W.isClsIn K 623 = true))))))))))))))))))))
noncomputable def hdkb3 (K : PySem.W.Frag) : Bool :=
    decide (PySem.W.typeIn K (.ref 623) = some (.type "type")) &&
    (decide (PySem.W.subIn K (.type "NoneType") (.ref 623) = some false) &&
    (decide (PySem.W.subIn K (.type "bool") (.ref 623) = some false) &&
    (decide (PySem.W.subIn K (.type "int") (.ref 623) = some false) &&
    (decide (PySem.W.subIn K (.type "str") (.ref 623) = some false) &&
    (decide (PySem.W.subIn K (.type "tuple") (.ref 623) = some false) &&
    (decide (PySem.W.subIn K (.type "list") (.ref 623) = some false) &&
    (decide (PySem.W.subIn K (.type "dict") (.ref 623) = some false) &&
    (decide (PySem.W.notFirst K 623 (.type "NoneType") = true) &&
    (decide (PySem.W.notFirst K 623 (.type "bool") = true) &&
    (decide (PySem.W.notFirst K 623 (.type "int") = true) &&
    (decide (PySem.W.notFirst K 623 (.type "str") = true) &&
    (decide (PySem.W.notFirst K 623 (.type "tuple") = true) &&
    (decide (PySem.W.notFirst K 623 (.type "list") = true) &&
    (decide (PySem.W.notFirst K 623 (.type "dict") = true) &&
    (decide (PySem.W.notFirst K 623 (.ref 623) = true) &&
    (decide (PySem.W.findIn K (.ref 623) "__ne__" = some (some (.builtin "object.__ne__"))) &&
    (decide (PySem.W.findIn K (.ref 401) "__format__" = some (some (.builtin "object.__format__"))) &&
    (decide (PySem.W.subIn K (.ref 623) (.type "str") = some false) &&
    (decide (PySem.W.subIn K (.ref 401) (.type "str") = some false))))))))))))))))))))
noncomputable def hdkb4 (K : PySem.W.Frag) : Bool :=
    decide (PySem.W.nsIn K mainGlobals "is_integer" = some (some (.ref 28))) &&
    (fnC K Af_is_integer "is_integer" &&
    (decide (PySem.W.keepIn K (.ref 28) = true) &&
    (decide (PySem.W.nsIn K mainGlobals "is_within" = some (some (.ref 35))) &&
    (fnC K Af_is_within "is_within" &&
    (decide (PySem.W.keepIn K (.ref 35) = true) &&
    (decide (PySem.W.nsIn K mainGlobals "is_word" = some (some (.ref 40))) &&
    (fnC K Af_is_word "is_word" &&
    (decide (PySem.W.keepIn K (.ref 40) = true) &&
    (decide (PySem.W.nsIn K mainGlobals "ascending_rows" = some (some (.ref 45))) &&
    (fnC K Af_ascending_rows "ascending_rows" &&
    (decide (PySem.W.keepIn K (.ref 45) = true) &&
    (decide (PySem.W.nsIn K mainGlobals "order_of" = some (some (.ref 229))) &&
    (fnC K Af_order_of "order_of" &&
    (decide (PySem.W.keepIn K (.ref 229) = true) &&
    (decide (PySem.W.nsIn K mainGlobals "input_text" = some (some (.ref 236))) &&
    (fnC K Af_input_text "input_text" &&
    (decide (PySem.W.keepIn K (.ref 236) = true) &&
    (decide (PySem.W.findIn K (.ref 401) "__init__" = some (some (.ref 248))) &&
    (decide (PySem.W.isFn K (.ref 248) = true))))))))))))))))))))
noncomputable def hdkb5 (K : PySem.W.Frag) : Bool :=
    fnC K Af_Type___init__ "Type.__init__" &&
    (decide (PySem.W.keepIn K (.ref 248) = true) &&
    (decide (PySem.W.makesIn K 401 = true) &&
    (decide (PySem.W.keepIn K (.ref 401) = true) &&
    (decide (PySem.W.readsIn K 401 (.type "type") = true) &&
    (decide (PySem.W.specialIn K (.ref 401) "__getattribute__" = some (some (.builtin "type.__getattribute__"))) &&
    ((cmB K 401 "plain" && decide (cmA K 401 "plain" = 267)) &&
    (decide (PySem.W.recIn K 267 "classmethod" = some (.ref 265 :: (rTl K Ap_Type_plain "classmethod"))) &&
    (decide (PySem.W.fnIn K 265 = true) &&
    (fnC K Af_Type_plain "Type.plain" &&
    (decide (PySem.W.keepIn K (.ref 265) = true) &&
    (decide (PySem.W.findIn K (.ref 401) "text" = some (some (.ref 292))) &&
    (decide (PySem.W.specialIn K (.ref 292) "__get__" = some (some (.builtin "property.__get__"))) &&
    (decide (PySem.W.takesIn K (.ref 292) = some true) &&
    (decide (PySem.W.recIn K 292 "property" = some (.ref 291 :: (rTl K Ap_Type_text "property"))) &&
    (fnC K Af_Type_text "Type.text" &&
    (decide (PySem.W.keepIn K (.ref 291) = true) &&
    (decide (PySem.W.findIn K (.ref 401) "atoms" = some (some (.ref 308))) &&
    (decide (PySem.W.specialIn K (.ref 308) "__get__" = some (some (.builtin "property.__get__"))) &&
    (decide (PySem.W.takesIn K (.ref 308) = some true))))))))))))))))))))
noncomputable def hdkb6 (K : PySem.W.Frag) : Bool :=
    decide (PySem.W.recIn K 308 "property" = some (.ref 307 :: (rTl K Ap_Type_atoms "property"))) &&
    (fnC K Af_Type_atoms "Type.atoms" &&
    (decide (PySem.W.keepIn K (.ref 307) = true) &&
    (decide (PySem.W.findIn K (.ref 401) "__str__" = some (some (.ref 398))) &&
    (decide (PySem.W.isFn K (.ref 398) = true) &&
    (decide (PySem.W.fnIn K 398 = true) &&
    (fnC K Af_Type___str__ "Type.__str__" &&
    (decide (PySem.W.keepIn K (.ref 398) = true) &&
    (decide (PySem.W.nsIn K mainGlobals "signed_atoms" = some (some (.ref 426))) &&
    (fnC K Af_signed_atoms "signed_atoms" &&
    (decide (PySem.W.keepIn K (.ref 426) = true) &&
    (decide (PySem.W.nsIn K mainGlobals "is_parts" = some (some (.ref 431))) &&
    (fnC K Af_is_parts "is_parts" &&
    (decide (PySem.W.keepIn K (.ref 431) = true) &&
    (decide (PySem.W.findIn K (.ref 623) "__init__" = some (some (.ref 451))) &&
    (decide (PySem.W.isFn K (.ref 451) = true) &&
    (fnD K Af_Library___init__ "Library.__init__" &&
    (decide (PySem.W.keepIn K (.ref 451) = true) &&
    (decide (PySem.W.makesIn K 623 = true) &&
    (decide (PySem.W.keepIn K (.ref 623) = true))))))))))))))))))))
noncomputable def hdkb7 (K : PySem.W.Frag) : Bool :=
    decide (PySem.W.findIn K (.ref 623) "parts" = some (some (.ref 469))) &&
    (decide (PySem.W.specialIn K (.ref 469) "__get__" = some (some (.builtin "property.__get__"))) &&
    (decide (PySem.W.takesIn K (.ref 469) = some true) &&
    (decide (PySem.W.recIn K 469 "property" = some (.ref 468 :: (rTl K Ap_Library_parts "property"))) &&
    (fnC K Af_Library_parts "Library.parts" &&
    (decide (PySem.W.keepIn K (.ref 468) = true) &&
    (decide (PySem.W.findIn K (.ref 623) "names" = some (some (.ref 477))) &&
    (decide (PySem.W.specialIn K (.ref 477) "__get__" = some (some (.builtin "property.__get__"))) &&
    (decide (PySem.W.takesIn K (.ref 477) = some true) &&
    (decide (PySem.W.recIn K 477 "property" = some (.ref 476 :: (rTl K Ap_Library_names "property"))) &&
    (fnC K Af_Library_names "Library.names" &&
    (decide (PySem.W.keepIn K (.ref 476) = true) &&
    (decide (PySem.W.findIn K (.ref 623) "lines" = some (some (.ref 485))) &&
    (decide (PySem.W.specialIn K (.ref 485) "__get__" = some (some (.builtin "property.__get__"))) &&
    (decide (PySem.W.takesIn K (.ref 485) = some true) &&
    (decide (PySem.W.recIn K 485 "property" = some (.ref 484 :: (rTl K Ap_Library_lines "property"))) &&
    (fnC K Af_Library_lines "Library.lines" &&
    (decide (PySem.W.keepIn K (.ref 484) = true) &&
    (decide (PySem.W.findIn K (.ref 623) "atoms" = some (some (.ref 493))) &&
    (decide (PySem.W.specialIn K (.ref 493) "__get__" = some (some (.builtin "property.__get__"))))))))))))))))))))))
noncomputable def hdkb8 (K : PySem.W.Frag) : Bool :=
    decide (PySem.W.takesIn K (.ref 493) = some true) &&
    (decide (PySem.W.recIn K 493 "property" = some (.ref 492 :: (rTl K Ap_Library_atoms "property"))) &&
    (fnC K Af_Library_atoms "Library.atoms" &&
    (decide (PySem.W.keepIn K (.ref 492) = true) &&
    (decide (PySem.W.findIn K (.ref 623) "scope" = some (some (.ref 501))) &&
    (decide (PySem.W.specialIn K (.ref 501) "__get__" = some (some (.builtin "property.__get__"))) &&
    (decide (PySem.W.takesIn K (.ref 501) = some true) &&
    (decide (PySem.W.recIn K 501 "property" = some (.ref 500 :: (rTl K Ap_Library_scope "property"))) &&
    (fnC K Af_Library_scope "Library.scope" &&
    (decide (PySem.W.keepIn K (.ref 500) = true) &&
    (decide (PySem.W.findIn K (.ref 623) "order" = some (some (.ref 507))) &&
    (decide (PySem.W.specialIn K (.ref 507) "__get__" = some (some (.builtin "property.__get__"))) &&
    (decide (PySem.W.takesIn K (.ref 507) = some true) &&
    (decide (PySem.W.recIn K 507 "property" = some (.ref 506 :: (rTl K Ap_Library_order "property"))) &&
    (fnC K Af_Library_order "Library.order" &&
    (decide (PySem.W.keepIn K (.ref 506) = true) &&
    (decide (PySem.W.findIn K (.ref 623) "with_part" = some (some (.ref 521))) &&
    (decide (PySem.W.isFn K (.ref 521) = true) &&
    (fnC K Af_Library_with_part "Library.with_part" &&
    (decide (PySem.W.keepIn K (.ref 521) = true))))))))))))))))))))
noncomputable def hdkb9 (K : PySem.W.Frag) : Bool :=
    decide (PySem.W.findIn K (.ref 623) "heads" = some (some (.ref 554))) &&
    (decide (PySem.W.isFn K (.ref 554) = true) &&
    (fnC K Af_Library_heads "Library.heads" &&
    (decide (PySem.W.keepIn K (.ref 554) = true) &&
    (decide (PySem.W.findIn K (.ref 623) "__getitem__" = some (some (.ref 585))) &&
    (decide (PySem.W.isFn K (.ref 585) = true) &&
    (decide (PySem.W.fnIn K 585 = true) &&
    (fnC K Af_Library___getitem__ "Library.__getitem__" &&
    (decide (PySem.W.keepIn K (.ref 585) = true) &&
    (decide (PySem.W.findIn K (.ref 623) "__contains__" = some (some (.ref 592))) &&
    (decide (PySem.W.isFn K (.ref 592) = true) &&
    (decide (PySem.W.fnIn K 592 = true) &&
    (fnC K Af_Library___contains__ "Library.__contains__" &&
    (decide (PySem.W.keepIn K (.ref 592) = true) &&
    (decide (PySem.W.findIn K (.ref 623) "__len__" = some (some (.ref 599))) &&
    (decide (PySem.W.isFn K (.ref 599) = true) &&
    (decide (PySem.W.fnIn K 599 = true) &&
    (fnC K Af_Library___len__ "Library.__len__" &&
    (decide (PySem.W.keepIn K (.ref 599) = true) &&
    (decide (PySem.W.findIn K (.ref 623) "__iter__" = some (some (.ref 606))))))))))))))))))))))
noncomputable def hdkb10 (K : PySem.W.Frag) : Bool :=
    decide (PySem.W.isFn K (.ref 606) = true) &&
    (fnC K Af_Library___iter__ "Library.__iter__" &&
    (decide (PySem.W.keepIn K (.ref 606) = true) &&
    (decide (PySem.W.findIn K (.ref 623) "__eq__" = some (some (.ref 613))) &&
    (decide (PySem.W.isFn K (.ref 613) = true) &&
    (decide (PySem.W.fnIn K 613 = true) &&
    (fnC K Af_Library___eq__ "Library.__eq__" &&
    (decide (PySem.W.keepIn K (.ref 613) = true) &&
    (decide (PySem.W.findIn K (.ref 623) "__str__" = some (some (.ref 620))) &&
    (decide (PySem.W.isFn K (.ref 620) = true) &&
    (decide (PySem.W.fnIn K 620 = true) &&
    (fnC K Af_Library___str__ "Library.__str__" &&
    (decide (PySem.W.keepIn K (.ref 620) = true) &&
    (decide (PySem.W.nsIn K mainGlobals "require_library" = some (some (.ref 634))) &&
    (fnC K Af_require_library "require_library" &&
    (decide (PySem.W.keepIn K (.ref 634) = true) &&
    (decide (PySem.W.nsIn K mainGlobals "atoms_in" = some (some (.ref 646))) &&
    (fnC K Af_atoms_in "atoms_in" &&
    (decide (PySem.W.keepIn K (.ref 646) = true) &&
    (decide (PySem.W.nsIn K mainGlobals "fresh_list" = some (some (.ref 670))))))))))))))))))))))
noncomputable def hdkb11 (K : PySem.W.Frag) : Bool :=
    fnC K Af_fresh_list "fresh_list" &&
    (decide (PySem.W.keepIn K (.ref 670) = true) &&
    (decide (PySem.W.nsIn K mainGlobals "fresh_names" = some (some (.ref 677))) &&
    (fnC K Af_fresh_names "fresh_names" &&
    (decide (PySem.W.keepIn K (.ref 677) = true) &&
    (decide (PySem.W.nsIn K mainGlobals "_law_dice" = some (some (.ref 684))) &&
    (fnC K Af__law_dice "_law_dice" &&
    (decide (PySem.W.keepIn K (.ref 684) = true) &&
    (decide (PySem.W.nsIn K mainGlobals "_law_roll" = some (some (.ref 691))) &&
    (fnC K Af__law_roll "_law_roll" &&
    (decide (PySem.W.keepIn K (.ref 691) = true) &&
    (decide (PySem.W.nsIn K mainGlobals "_law_pick" = some (some (.ref 698))) &&
    (fnC K Af__law_pick "_law_pick" &&
    (decide (PySem.W.keepIn K (.ref 698) = true) &&
    (decide (PySem.W.nsIn K mainGlobals "_law_some" = some (some (.ref 703))) &&
    (fnC K Af__law_some "_law_some" &&
    (decide (PySem.W.keepIn K (.ref 703) = true) &&
    (decide (PySem.W.nsIn K mainGlobals "_law_text" = some (some (.ref 710))) &&
    (fnC K Af__law_text "_law_text" &&
    (decide (PySem.W.keepIn K (.ref 710) = true))))))))))))))))))))
noncomputable def hdkb12 (K : PySem.W.Frag) : Bool :=
    decide (PySem.W.nsIn K mainGlobals "_law_atoms_of" = some (some (.ref 717))) &&
    (fnC K Af__law_atoms_of "_law_atoms_of" &&
    (decide (PySem.W.keepIn K (.ref 717) = true) &&
    (decide (PySem.W.nsIn K mainGlobals "_law_order" = some (some (.ref 722))) &&
    (fnC K Af__law_order "_law_order" &&
    (decide (PySem.W.keepIn K (.ref 722) = true) &&
    (decide (PySem.W.nsIn K mainGlobals "_law_kind" = some (some (.ref 729))) &&
    (fnC K Af__law_kind "_law_kind" &&
    (decide (PySem.W.keepIn K (.ref 729) = true) &&
    (decide (PySem.W.nsIn K mainGlobals "_law_made_kind" = some (some (.ref 734))) &&
    (fnC K Af__law_made_kind "_law_made_kind" &&
    (decide (PySem.W.keepIn K (.ref 734) = true) &&
    (decide (PySem.W.nsIn K mainGlobals "_law_library" = some (some (.ref 741))) &&
    (fnC K Af__law_library "_law_library" &&
    (decide (PySem.W.keepIn K (.ref 741) = true) &&
    (decide (PySem.W.nsIn K mainGlobals "_law_known_library" = some (some (.ref 748))) &&
    (fnC K Af__law_known_library "_law_known_library" &&
    (decide (PySem.W.keepIn K (.ref 748) = true) &&
    (decide (PySem.W.nsIn K mainGlobals "_law_lines" = some (some (.ref 753))) &&
    (fnC K Af__law_lines "_law_lines")))))))))))))))))))
noncomputable def hdkb13 (K : PySem.W.Frag) : Bool :=
    decide (PySem.W.keepIn K (.ref 753) = true) &&
    (decide (PySem.W.nsIn K mainGlobals "_law_made" = some (some (.ref 758))) &&
    (fnC K Af__law_made "_law_made" &&
    (decide (PySem.W.keepIn K (.ref 758) = true) &&
    (decide (PySem.W.nsIn K mainGlobals "_law_library_atoms" = some (some (.ref 765))) &&
    (fnC K Af__law_library_atoms "_law_library_atoms" &&
    (decide (PySem.W.keepIn K (.ref 765) = true) &&
    (decide (PySem.W.nsIn K mainGlobals "_law_told_right" = some (some (.ref 770))) &&
    (fnC K Af__law_told_right "_law_told_right" &&
    (decide (PySem.W.keepIn K (.ref 770) = true) &&
    (decide (PySem.W.nsIn K mainGlobals "_law_right" = some (some (.ref 775))) &&
    (fnC K Af__law_right "_law_right" &&
    (decide (PySem.W.keepIn K (.ref 775) = true) &&
    (decide (PySem.W.nsIn K mainGlobals "law" = some (some (.ref 782))) &&
    (fnC K Af_law "law" &&
    (decide (PySem.W.keepIn K (.ref 782) = true) &&
    (decide (PySem.W.nsIn K mainGlobals "InvalidLibrary" = some (some (.ref 92))) &&
    (decide (PySem.W.excIn K 92 veBm "ValueError.__new__" = true) &&
    (decide (PySem.W.keepIn K (.ref 92) = true) &&
    (decide (PySem.W.subIn K (.ref 92) (.type "BaseException") = some true))))))))))))))))))))
noncomputable def hdkb14 (K : PySem.W.Frag) : Bool :=
    decide (PySem.W.typeIn K (.ref 92) = some (.type "type")) &&
    (decide (PySem.W.isClsIn K 92 = true) &&
    (decide (PySem.W.subIn K (.ref 92) (.ref 92) = some true) &&
    (decide (PySem.W.nsIn K mainGlobals "InvalidType" = some (some (.ref 80))) &&
    (decide (PySem.W.excIn K 80 veBm "ValueError.__new__" = true) &&
    (decide (PySem.W.keepIn K (.ref 80) = true) &&
    (decide (PySem.W.subIn K (.ref 80) (.type "BaseException") = some true) &&
    (decide (PySem.W.typeIn K (.ref 80) = some (.type "type")) &&
    (decide (PySem.W.isClsIn K 80 = true) &&
    (decide (PySem.W.subIn K (.ref 80) (.ref 80) = some true) &&
    (decide (PySem.W.nsIn K mainGlobals "InvalidWord" = some (some (.ref 68))) &&
    (decide (PySem.W.excIn K 68 veBm "ValueError.__new__" = true) &&
    (decide (PySem.W.keepIn K (.ref 68) = true) &&
    (decide (PySem.W.subIn K (.ref 68) (.type "BaseException") = some true) &&
    (decide (PySem.W.typeIn K (.ref 68) = some (.type "type")) &&
    (decide (PySem.W.isClsIn K 68 = true) &&
    (decide (PySem.W.subIn K (.ref 68) (.ref 68) = some true)))))))))))))))))
noncomputable def hdkv0 (K : PySem.W.Frag) : List He.FnV := [fnV K Af_is_integer, fnV K Af_is_within, fnV K Af_is_word, fnV K Af_ascending_rows, fnV K Af_order_of, fnV K Af_input_text, fnV K Af_Type___init__, fnV K Af_Type_plain, fnV K Af_Type_text, fnV K Af_Type_atoms, fnV K Af_Type___str__, fnV K Af_signed_atoms, fnV K Af_is_parts, fnV K Af_Library___init__, fnV K Af_Library_parts, fnV K Af_Library_names, fnV K Af_Library_lines, fnV K Af_Library_atoms, fnV K Af_Library_scope, fnV K Af_Library_order, fnV K Af_Library_with_part, fnV K Af_Library_heads, fnV K Af_Library___getitem__, fnV K Af_Library___contains__, fnV K Af_Library___len__]
noncomputable def hdkw0 : List He.FnV := [fnX "is_integer" "is_integer" s_is_integer, fnX "is_within" "is_within" s_is_within, fnX "is_word" "is_word" s_is_word, fnX "ascending_rows" "ascending_rows" s_ascending_rows, fnX "order_of" "order_of" s_order_of, fnX "input_text" "input_text" s_input_text, fnX "__init__" "Type.__init__" s_Type___init__, fnX "plain" "Type.plain" s_Type_plain, fnX "text" "Type.text" s_Type_text, fnX "atoms" "Type.atoms" s_Type_atoms, fnX "__str__" "Type.__str__" s_Type___str__, fnX "signed_atoms" "signed_atoms" s_signed_atoms, fnX "is_parts" "is_parts" s_is_parts, fnX "__init__" "Library.__init__" s_Library___init__, fnX "parts" "Library.parts" s_Library_parts, fnX "names" "Library.names" s_Library_names, fnX "lines" "Library.lines" s_Library_lines, fnX "atoms" "Library.atoms" s_Library_atoms, fnX "scope" "Library.scope" s_Library_scope, fnX "order" "Library.order" s_Library_order, fnX "with_part" "Library.with_part" s_Library_with_part, fnX "heads" "Library.heads" s_Library_heads, fnX "__getitem__" "Library.__getitem__" s_Library___getitem__, fnX "__contains__" "Library.__contains__" s_Library___contains__, fnX "__len__" "Library.__len__" s_Library___len__]
noncomputable def hdkv1 (K : PySem.W.Frag) : List He.FnV := [fnV K Af_Library___iter__, fnV K Af_Library___eq__, fnV K Af_Library___str__, fnV K Af_require_library, fnV K Af_atoms_in, fnV K Af_fresh_list, fnV K Af_fresh_names, fnV K Af__law_dice, fnV K Af__law_roll, fnV K Af__law_pick, fnV K Af__law_some, fnV K Af__law_text, fnV K Af__law_atoms_of, fnV K Af__law_order, fnV K Af__law_kind, fnV K Af__law_made_kind, fnV K Af__law_library, fnV K Af__law_known_library, fnV K Af__law_lines, fnV K Af__law_made, fnV K Af__law_library_atoms, fnV K Af__law_told_right, fnV K Af__law_right, fnV K Af_law]
noncomputable def hdkw1 : List He.FnV := [fnX "__iter__" "Library.__iter__" s_Library___iter__, fnX "__eq__" "Library.__eq__" s_Library___eq__, fnX "__str__" "Library.__str__" s_Library___str__, fnX "require_library" "require_library" s_require_library, fnX "atoms_in" "atoms_in" s_atoms_in, fnX "fresh_list" "fresh_list" s_fresh_list, fnX "fresh_names" "fresh_names" s_fresh_names, fnX "_law_dice" "_law_dice" s__law_dice, fnX "_law_roll" "_law_roll" s__law_roll, fnX "_law_pick" "_law_pick" s__law_pick, fnX "_law_some" "_law_some" s__law_some, fnX "_law_text" "_law_text" s__law_text, fnX "_law_atoms_of" "_law_atoms_of" s__law_atoms_of, fnX "_law_order" "_law_order" s__law_order, fnX "_law_kind" "_law_kind" s__law_kind, fnX "_law_made_kind" "_law_made_kind" s__law_made_kind, fnX "_law_library" "_law_library" s__law_library, fnX "_law_known_library" "_law_known_library" s__law_known_library, fnX "_law_lines" "_law_lines" s__law_lines, fnX "_law_made" "_law_made" s__law_made, fnX "_law_library_atoms" "_law_library_atoms" s__law_library_atoms, fnX "_law_told_right" "_law_told_right" s__law_told_right, fnX "_law_right" "_law_right" s__law_right, fnX "law" "law" s_law]
noncomputable def hdKB0 (K : PySem.W.Frag) : Bool := hdkb0 K && (hdkb1 K && (hdkb2 K && (hdkb3 K && (hdkb4 K && (hdkb5 K && (hdkb6 K && (hdkb7 K && (hdkb8 K && (hdkb9 K && (hdkb10 K && (hdkb11 K && (hdkb12 K && (hdkb13 K && (hdkb14 K))))))))))))))
noncomputable def hdKV0 (K : PySem.W.Frag) : List He.FnV := hdkv0 K ++ (hdkv1 K)
noncomputable def hdKW0 : List He.FnV := hdkw0 ++ (hdkw1)
noncomputable abbrev hdKB (K : PySem.W.Frag) : Bool := hdKB0 K
noncomputable abbrev hdKV (K : PySem.W.Frag) : List He.FnV := hdKV0 K
noncomputable abbrev hdKW : List He.FnV := hdKW0
noncomputable def names0 : List PySem.Str := ["_wall", "MAX_LETTERS", "LETTERS", "LONGEST", "is_integer", "is_within", "is_word", "ascending_rows", "BuildError", "InvalidWord", "InvalidType", "InvalidLibrary", "InvalidOperation", "ParseError", "UnknownWord", "InvalidNumber", "MAX_PLACES", "MAX_ORDER", "ARROW", "signs_of", "KindReader", "shape_of", "kind_in", "order_of", "input_text", "Type", "type_of_text", "parts_list", "signed_atoms", "MAX_PARTS"]
noncomputable def names1 : List PySem.Str := ["COLON", "is_parts", "part_of_line", "Library", "require_library", "require_other_library", "atoms_in", "has_part", "library_but", "united_library", "fresh_list", "fresh_names", "_law_dice", "_law_roll", "_law_pick", "_law_some", "_law_text", "_law_atoms_of", "_law_order", "_law_kind", "_law_made_kind", "_law_library", "_law_known_library", "_law_lines", "_law_made", "_law_library_atoms", "_law_told_right", "_law_right"]
noncomputable def names : List PySem.Str := names0 ++ names1
noncomputable abbrev hR : PySem.W.OpenRow := PySem.W.OpenLaw.row PySem.Challenge.rw_fromparts_k10_libraries_told
noncomputable abbrev hQ : Program := PySem.W.view hR.prog [63]
set_option maxHeartbeats 0 in
theorem hRun0 : RunL hR hQ lits 5 hdKB0 hdKV0 hdKW0 30000 names := by
  intro w os
  kernel_rfl
theorem hRun : RunL hR hQ lits 5 hdKB hdKV hdKW 30000 names := hRun0
end K10
/-! FP0: dicts whose keys are tuples, nested: in the abstract heap (objects of one's own kind), read, changed, walked. -/
namespace FP
open PySem PySem.Spec PyProof.Rows L2
/-! ### keys -/
mutual
/-- a key in the abstract heap -/
noncomputable def KeyR (H : Hp) : NestedKey → V → Prop
  | .none, v => v = .non
  | .num i, v => v = .int i
  | .text x, v => v = .str x
  | .tup ks, v => ∃ b vs, v = .ref b ∧ H b = some (.tup vs) ∧ KeyRs H ks vs
noncomputable def KeyRs (H : Hp) : List NestedKey → List V → Prop
  | [], vs => vs = []
  | k :: ks, vs => ∃ v r, vs = v :: r ∧ KeyR H k v ∧ KeyRs H ks r
end
mutual
theorem KeyR.keep {H H' : Hp} (t : ∀ b vs, H b = some (.tup vs) → H' b = some (.tup vs)) : ∀ (k : NestedKey) (v : V), KeyR H k v → KeyR H' k v
  | .none, v, h => h
  | .num i, v, h => h
  | .text x, v, h => h
  | .tup ks, v, h => by
    obtain ⟨b, vs, h1, h2, h3⟩ := h
    exact ⟨b, vs, h1, t b vs h2, KeyRs.keep t ks vs h3⟩
theorem KeyRs.keep {H H' : Hp} (t : ∀ b vs, H b = some (.tup vs) → H' b = some (.tup vs)) : ∀ (ks : List NestedKey) (vs : List V), KeyRs H ks vs → KeyRs H' ks vs
  | [], vs, h => h
  | k :: ks, vs, h => by
    obtain ⟨v, r, h1, h2, h3⟩ := h
    exact ⟨v, r, h1, KeyR.keep t k v h2, KeyRs.keep t ks r h3⟩
end
section
variable {P : Program} {w : World} {H : Hp} {h : Heap}
mutual
theorem key_nested (ok : HOk P w H h) : ∀ (k : NestedKey) (v : V) (u : Value), KeyR H k v → RelV v u → NestedIs h k u
  | .none, v, u, q, r => by
    cases (show v = .non from q)
    cases (show u = Value.none from r)
    exact .none
  | .num i, v, u, q, r => by
    cases (show v = .int i from q)
    obtain ⟨t, rfl⟩ := r
    exact .int i t
  | .text x, v, u, q, r => by
    cases (show v = .str x from q)
    obtain ⟨t, rfl⟩ := r
    exact .text x t
  | .tup ks, v, u, q, r => by
    obtain ⟨b, vs, e, hb, hs⟩ := q
    subst e
    cases (show u = Value.ref b from r)
    obtain ⟨_, its, rv, o, h1, h2, n, h3⟩ := (show ObjOk P w H h b (.tup vs) from ok b _ hb)
    exact .tup h1 h2 h3 (keys_nested ok ks vs its hs rv)
theorem keys_nested (ok : HOk P w H h) : ∀ (ks : List NestedKey) (vs : List V) (us : List Value), KeyRs H ks vs → Vals vs us → NestedAll h ks us
  | [], vs, us, q, r => by
    cases (show vs = [] from q)
    cases r
    exact .nil
  | k :: ks, vs, us, q, r => by
    obtain ⟨v, rr, e, h1, h2⟩ := q
    subst e
    cases r with
    | cons r1 r2 => exact .cons (key_nested ok k v _ h1 r1) (keys_nested ok ks rr _ h2 r2)
end
end
/-! ### the dict's object -/
/-- an entry: the key, where its tuple stands, the value -/
noncomputable abbrev NEnt := NestedKey × Addr × V
noncomputable abbrev NEntV := NestedKey × Addr × Value
noncomputable def EntR (p : NEnt) (q : NEntV) : Prop := p.1 = q.1 ∧ p.2.1 = q.2.1 ∧ RelV p.2.2 q.2.2
noncomputable def entN (w : World) (q : NEntV) : DictEntry := ⟨q.1.hash w, .ref q.2.1, q.2.2⟩
/-- at a stands a dict with these entries -/
noncomputable def DictE (w : World) (a : Addr) (es : List NEnt) (ep : Nat) (h : Heap) : Prop := es.length ≤ sizeLine ∧ (a == sysModules) = false ∧ (∀ e ∈ es, e.1.depth ≤ 8) ∧ (es.map (·.1)).Nodup ∧
  ∃ (xs : List NEntV) (o : Obj) (hs : Array DictEntry), Paired EntR es xs ∧ h.get? a = some o ∧ o.ExactDict ∧ o.data = .dict hs ep ∧ hs.toList = xs.map (entN w)
noncomputable abbrev nO (w : World) (a : Addr) (es : List NEnt) (ep : Nat) : HO := .ext (DictE w a es ep)
/-- the keys' tuples stand in H -/
noncomputable def EntK (H : Hp) (es : List NEnt) : Prop := ∀ e ∈ es, KeyR H e.1 (.ref e.2.1)
theorem EntK.keep {H H' : Hp} {es : List NEnt} (k : EntK H es) (t : ∀ b vs, H b = some (.tup vs) → H' b = some (.tup vs)) : EntK H' es := fun e he => KeyR.keep t _ _ (k e he)
noncomputable def putN (es : List NEnt) (k : NestedKey) (b : Addr) (v : V) : List NEnt :=
  if (es.any fun e => decide (e.1 = k)) = true then es.map (fun e => if e.1 = k then (e.1, e.2.1, v) else e) else es ++ [(k, b, v)]
theorem paired_len {α β : Type} {G : α → β → Prop} {l₁ : List α} {l₂ : List β} (h : Paired G l₁ l₂) : l₁.length = l₂.length := Paired.length h
section
variable {P : Program} {w : World} {H : Hp} {h h' : Heap} {a b : Addr} {es : List NEnt} {xs : List NEntV} {k : NestedKey} {v : V} {u : Value} {ep : Nat}
theorem ent_keys : ∀ {es : List NEnt} {xs : List NEntV}, Paired EntR es xs → es.map (·.1) = xs.map (·.1)
  | _, _, .nil => rfl
  | _, _, .cons r t => by rw [List.map_cons, List.map_cons, r.1, ent_keys t]
theorem ent_mem : ∀ {es : List NEnt} {xs : List NEntV}, Paired EntR es xs → ∀ x ∈ xs, ∃ e ∈ es, EntR e x
  | _, _, .nil, _, h => absurd h List.not_mem_nil
  | _, _, .cons r t, x, h => by
    rcases List.mem_cons.mp h with e | h
    · rw [e]
      exact ⟨_, List.mem_cons_self, r⟩
    · obtain ⟨e, he, q⟩ := ent_mem t x h
      exact ⟨e, List.mem_cons_of_mem _ he, q⟩
theorem putN_mem {e : NEnt} (h : e ∈ putN es k b v) : (∃ e' ∈ es, e.1 = e'.1 ∧ e.2.1 = e'.2.1) ∨ (e.1 = k ∧ e.2.1 = b) := by
  unfold putN at h
  split at h
  · obtain ⟨e', he, q⟩ := List.mem_map.mp h
    refine .inl ⟨e', he, ?_⟩
    by_cases z : e'.1 = k
    · rw [if_pos z] at q
      rw [← q]
      exact ⟨rfl, rfl⟩
    · rw [if_neg z] at q
      rw [q]
      exact ⟨rfl, rfl⟩
  · rcases List.mem_append.mp h with h | h
    · exact .inl ⟨e, h, rfl, rfl⟩
    · rw [List.mem_singleton.mp h]
      exact .inr ⟨rfl, rfl⟩
theorem EntK.put (q : EntK H es) (r : KeyR H k (.ref b)) : EntK H (putN es k b v) := fun e he => by
  rcases putN_mem he with ⟨e', h1, h2, h3⟩ | ⟨h1, h2⟩
  · rw [h2, h3]
    exact q e' h1
  · rw [h1, h2]
    exact r
theorem nd_rd (ok : HOk P w H h) {w' : World} (e : H a = some (nO w' a es ep)) : DictE w' a es ep h := (show ObjOk P w H h a (nO w' a es ep) from ok a _ e).1
/-- the library's word for it -/
theorem nd_ofH (ok : HOk P w H h) (d : DictE w a es ep h) (kk : EntK H es) : ∃ xs, Paired EntR es xs ∧ h.DictOfH (nestedKind P w) a xs := by
  obtain ⟨_, _, hd, hn, xs, o, hs, p, h1, h2, h3, h4⟩ := d
  refine ⟨xs, p, o, hs, ep, h1, h2, h3, h4, fun x hx => ?_, by rw [← ent_keys p]; exact hn⟩
  obtain ⟨e, he, r⟩ := ent_mem p x hx
  refine ⟨?_, by rw [← r.1]; exact hd e he⟩
  have q := key_nested ok e.1 (.ref e.2.1) (.ref e.2.1) (kk e he) rfl
  rw [r.1, r.2.1] at q
  exact q
end
/-! ### reading and changing, at a state -/
section
variable {X : Cx} {pins : List (Addr × Obj)} {σ : L2.St} {H : Hp} {s : Shared} {a b : Addr} {y v : V} {u r : Value} {o : Option V} {A : Around} {E : Value → Shared → Prop} {es : List NEnt} {k : NestedKey} {ep : Nat}
theorem n_len {Q : Value → Shared → Prop} (I : Inv X pins σ H s) (e : H a = some (nO X.w a es ep)) (ek : EntK H es) (h : ∀ t s', Inv X pins σ H s' → Q (.int es.length t) s') : wpAny (model X.prog X.w) A (call (.builtin "dict.__len__") [.ref a]) Q E s := by
  have d := nd_rd I.hok e
  obtain ⟨xs, p, dd⟩ := nd_ofH I.hok d ek
  refine len_keyed (knd := nestedKind X.prog X.w) d.2.1 ⟨xs, dd, rfl⟩ ?_
  rw [pairsH_length, ← paired_len p]
  exact h _ _ (I.tok _)
end
end FP
/-! FP1: a heap-free layer over HandS: data D, worlds, judgements whose readings speak of data alone. -/
namespace FP
open PySem L2
/-- a world: what never changes; what may change under all (the dice, the tables of code); the dice -/
structure Wd where
  H : Hp
  T : Addr → Prop
  Dc : Addr → Prop
/-- data without addresses (a lambda at hand is told by its place and the world at its making) -/
inductive D where
  | non | bl (b : Bool) | int (i : Int) | str (x : Str)
  | tup (xs : List D) | lst (xs : List D) | fz (xs : List D)
  | dct (kvs : List (Key × D)) | dn (kvs : List (D × D)) | ins (c : Str) (fs : List (Str × D)) | tok | cl (c : Str)
  | fn (f : Addr) (W : Wd)
/-- the module: its names, the written part -/
structure Gm where
  mg : Str → Option Value
  K : PySem.W.Frag
/-- the tables of code, with the names of what is made there -/
class Tabl where
  B : List (Addr × Str)
  w : Option World
variable [Tabl]
mutual
/-- a datum as a key of a nested dict -/
noncomputable def nkD : D → Option NestedKey
  | .non => some .none
  | .int i => some (.num i)
  | .str x => some (.text x)
  | .tup xs => match nkDs xs with
    | some ks => some (.tup ks)
    | none => none
  | _ => none
noncomputable def nkDs : List D → Option (List NestedKey)
  | [] => some []
  | x :: xs => match nkD x, nkDs xs with
    | some k, some ks => some (k :: ks)
    | _, _ => none
end
structure Le (W W' : Wd) : Prop where
  h : Same W.H W'.H
  t : ∀ a, W.T a → W'.T a
  dc : ∀ a, W.Dc a → W'.Dc a
theorem Le.refl (W : Wd) : Le W W := ⟨Same.refl _, fun _ h => h, fun _ h => h⟩
theorem Le.trans {W W1 W2 : Wd} (a : Le W W1) (b : Le W1 W2) : Le W W2 := ⟨a.h.trans b.h, fun x h => b.t x (a.t x h), fun x h => b.dc x (a.dc x h)⟩
mutual
inductive Rep (mg : Gm) (W : Wd) : V → D → Prop
  | non : Rep mg W .non .non
  | bl (b : Bool) : Rep mg W (.bl b) (.bl b)
  | int (i : Int) : Rep mg W (.int i) (.int i)
  | str (x : Str) : Rep mg W (.str x) (.str x)
  | tup {a : Addr} {vs : List V} {ds : List D} : W.H a = some (.tup vs) → Reps mg W vs ds → Rep mg W (.ref a) (.tup ds)
  | lst {a : Addr} {vs : List V} {ds : List D} : W.H a = some (.lst vs) → Reps mg W vs ds → Rep mg W (.ref a) (.lst ds)
  | fz {a : Addr} {vs : List V} {ds : List D} : SqL mg.K W.H a vs → Reps mg W vs ds → Rep mg W (.ref a) (.fz ds)
  | dct {a : Addr} {o : Obj} {kvs : List (Key × V)} {ds : List (Key × D)} : W.H a = some (.frz o (.dK kvs)) → kvs.map (·.1) = ds.map (·.1) → Reps mg W (kvs.map (·.2)) (ds.map (·.2)) → Rep mg W (.ref a) (.dct ds)
  | dn {a : Addr} {w : World} {es : List NEnt} {ep : Nat} {kvs : List (D × D)} : Tabl.w = some w → W.H a = some (nO w a es ep) → es.map (fun e => some e.1) = kvs.map (fun p => nkD p.1) → Reps mg W (es.map fun e => .ref e.2.1) (kvs.map (·.1)) → Reps mg W (es.map (·.2.2)) (kvs.map (·.2)) → Rep mg W (.ref a) (.dn kvs)
  | ins {a C dx : Addr} {fs : List (Str × V)} {c : Str} {ds : List (Str × D)} : mg.mg c = some (.ref C) → W.H a = some (.ins C dx fs) → fs.map (·.1) = ds.map (·.1) → Reps mg W (fs.map (·.2)) (ds.map (·.2)) → Rep mg W (.ref a) (.ins c ds)
  | tok {a : Addr} : W.Dc a → Rep mg W (.ref a) .tok
  | cl {C : Addr} {c : Str} : mg.mg c = some (.ref C) → Rep mg W (.ref C) (.cl c)
  | fn {f : Addr} {W0 : Wd} : Le W0 W → Rep mg W (.ref f) (.fn f W0)
inductive Reps (mg : Gm) (W : Wd) : List V → List D → Prop
  | nil : Reps mg W [] []
  | cons {v : V} {vs : List V} {d : D} {ds : List D} : Rep mg W v d → Reps mg W vs ds → Reps mg W (v :: vs) (d :: ds)
end
section
variable {mg : Gm} {W W' : Wd}
theorem Rep.mono (l : Le W W') {v : V} {d : D} (r : Rep mg W v d) : Rep mg W' v d :=
  Rep.rec (motive_1 := fun v d _ => Rep mg W' v d) (motive_2 := fun vs ds _ => Reps mg W' vs ds) .non (fun b => .bl b) (fun b => .int b) (fun b => .str b) (fun h _ r => .tup (l.h _ _ h) r) (fun h _ r => .lst (l.h _ _ h) r) (fun h _ r => .fz (l.h.seq h) r) (fun h e _ r => .dct (l.h _ _ h) e r) (fun t h e _ _ r1 r2 => .dn t (l.h _ _ h) e r1 r2) (fun c h e _ r => .ins c (l.h _ _ h) e r) (fun t => .tok (l.dc _ t)) (fun h => .cl h) (fun h => .fn (h.trans l)) .nil (fun _ _ r t => .cons r t) r
theorem Reps.mono (l : Le W W') {vs : List V} {ds : List D} (r : Reps mg W vs ds) : Reps mg W' vs ds :=
  Reps.rec (motive_1 := fun v d _ => True) (motive_2 := fun vs ds _ => Reps mg W' vs ds) True.intro (fun _ => True.intro) (fun _ => True.intro) (fun _ => True.intro) (fun _ _ _ => True.intro) (fun _ _ _ => True.intro) (fun _ _ _ => True.intro) (fun _ _ _ _ => True.intro) (fun _ _ _ _ _ _ _ => True.intro) (fun _ _ _ _ _ => True.intro) (fun _ => True.intro) (fun _ => True.intro) (fun _ => True.intro) .nil (fun r _ _ t => .cons (r.mono l) t) r
theorem Reps.length : ∀ {vs : List V} {ds : List D}, Reps mg W vs ds → vs.length = ds.length
  | _, _, .nil => rfl
  | _, _, .cons _ t => congrArg (· + 1) (Reps.length t)
theorem Reps.append : ∀ {vs : List V} {ds : List D} {us : List V} {es : List D}, Reps mg W vs ds → Reps mg W us es → Reps mg W (vs ++ us) (ds ++ es)
  | _, _, _, _, .nil, s => s
  | _, _, _, _, .cons r t, s => .cons r (Reps.append t s)
theorem Reps.snoc {vs : List V} {ds : List D} {v : V} {d : D} (r : Reps mg W vs ds) (h : Rep mg W v d) : Reps mg W (vs ++ [v]) (ds ++ [d]) := r.append (.cons h .nil)
theorem Reps.get : ∀ {vs : List V} {ds : List D} {i : Nat} {d : D}, Reps mg W vs ds → ds[i]? = some d → ∃ v, vs[i]? = some v ∧ Rep mg W v d
  | _, _, _, _, .nil, e => by simp at e
  | _, _, 0, _, .cons r _, e => by
    simp at e
    subst e
    exact ⟨_, rfl, r⟩
  | _, _, i + 1, d, .cons _ t, e => by
    obtain ⟨v, h1, h2⟩ := Reps.get (i := i) (d := d) t (by simpa using e)
    exact ⟨v, by simpa using h1, h2⟩
theorem Reps.getV : ∀ {vs : List V} {ds : List D} {i : Nat} {v : V}, Reps mg W vs ds → vs[i]? = some v → ∃ d, ds[i]? = some d ∧ Rep mg W v d
  | _, _, _, _, .nil, e => by simp at e
  | _, _, 0, _, .cons r _, e => by
    simp at e
    subst e
    exact ⟨_, rfl, r⟩
  | _, _, i + 1, d, .cons _ t, e => by
    obtain ⟨v, h1, h2⟩ := Reps.getV (i := i) (v := d) t (by simpa using e)
    exact ⟨v, by simpa using h1, h2⟩
theorem Reps.drop : ∀ {vs : List V} {ds : List D} (n : Nat), Reps mg W vs ds → Reps mg W (vs.drop n) (ds.drop n)
  | _, _, 0, r => r
  | _, _, _ + 1, .nil => .nil
  | _, _, n + 1, .cons _ t => Reps.drop n t
theorem Reps.take : ∀ {vs : List V} {ds : List D} (n : Nat), Reps mg W vs ds → Reps mg W (vs.take n) (ds.take n)
  | _, _, 0, _ => .nil
  | _, _, _ + 1, .nil => .nil
  | _, _, n + 1, .cons r t => .cons r (Reps.take n t)
theorem Reps.eraseIdx : ∀ {vs : List V} {ds : List D} (n : Nat), Reps mg W vs ds → Reps mg W (vs.eraseIdx n) (ds.eraseIdx n)
  | _, _, _, .nil => .nil
  | _, _, 0, .cons _ t => t
  | _, _, n + 1, .cons r t => .cons r (Reps.eraseIdx n t)
theorem Reps.set : ∀ {vs : List V} {ds : List D} {v : V} {d : D} (n : Nat), Reps mg W vs ds → Rep mg W v d → Reps mg W (vs.set n v) (ds.set n d)
  | _, _, _, _, _, .nil, _ => .nil
  | _, _, _, _, 0, .cons _ t, h => .cons h t
  | _, _, _, _, n + 1, .cons r t, h => .cons r (Reps.set n t h)
theorem Reps.replicate {v : V} {d : D} (h : Rep mg W v d) : ∀ n, Reps mg W (List.replicate n v) (List.replicate n d)
  | 0 => .nil
  | n + 1 => .cons h (Reps.replicate h n)
theorem Reps.ints : ∀ (ns : List Int), Reps mg W (ns.map V.int) (ns.map D.int)
  | [] => .nil
  | n :: r => .cons (.int n) (Reps.ints r)
theorem Reps.strs : ∀ (ns : List Str), Reps mg W (ns.map V.str) (ns.map D.str)
  | [] => .nil
  | n :: r => .cons (.str n) (Reps.strs r)
end
/-- the heap bears the world -/
structure Holds (W : Wd) (H : Hp) : Prop where
  same : Same W.H H
  exm : ∀ a, W.T a → W.H a = none ∧ ∃ o, H a = some o
  tok : ∀ a, W.Dc a → W.T a ∧ ∃ x y z, H a = some (.lst [.int x, .int y, .int z])
  tab : ∀ p ∈ Tabl.B, W.T p.1 ∧ LamX.TabS H p.1 p.2
  all : ∀ b ps, H b = some (.tbl ps) → ∃ q, (b, q) ∈ Tabl.B
/-- a new object of the unchanging part -/
noncomputable def Wd.put (W : Wd) (p : Addr) (o : HO) : Wd := { W with H := upd W.H p o }
theorem Holds.nT {W : Wd} {H : Hp} (h : Holds W H) {p : Addr} (n : H p = none) : ¬ W.T p := fun t => by
  obtain ⟨_, o, e⟩ := h.exm p t
  rw [e] at n
  cases n
theorem Holds.lay {W : Wd} {H : Hp} (h : Holds W H) {p : Addr} {o : HO} (n : H p = none) (no : ∀ ps, o ≠ .tbl ps) : Holds W (upd H p o) := by
  have up : ∀ b u, H b = some u → upd H p o b = some u := fun b u e => by
    rw [upd_ne (ne_of_none e n)]
    exact e
  refine ⟨fun b u e => up b u (h.same b u e), fun a t => ?_, fun a t => ?_, fun q hq => ?_, fun b ps e => ?_⟩
  · obtain ⟨h1, u, h2⟩ := h.exm a t
    exact ⟨h1, u, up a u h2⟩
  · obtain ⟨h1, x, y, z, h2⟩ := h.tok a t
    exact ⟨h1, x, y, z, up a _ h2⟩
  · obtain ⟨h1, h2⟩ := h.tab q hq
    exact ⟨h1, h2.ext up⟩
  · by_cases hb : b = p
    · rw [hb, upd_same] at e
      exact absurd (Option.some.inj e) (no ps)
    · rw [upd_ne hb] at e
      exact h.all b ps e
theorem Holds.put {W : Wd} {H : Hp} (h : Holds W H) {p : Addr} {o : HO} (e : H p = some o) (nt : ¬ W.T p) : Holds (W.put p o) H := by
  refine ⟨fun b u q => ?_, fun a t => ?_, h.tok, h.tab, h.all⟩
  · by_cases hb : b = p
    · subst hb
      have q' : upd W.H b o b = some u := q
      rw [upd_same] at q'
      rw [e]
      exact q'
    · have q' : upd W.H p o b = some u := q
      rw [upd_ne hb] at q'
      exact h.same b u q'
  · have na : a ≠ p := fun q => nt (q ▸ t)
    obtain ⟨h1, r⟩ := h.exm a t
    refine ⟨?_, r⟩
    show upd W.H p o a = none
    rw [upd_ne na]
    exact h1
theorem Holds.own {W : Wd} {H : Hp} (h : Holds W H) {p : Addr} {o o' : HO} (e : H p = some o) (nw : W.H p = none) (nt : ¬ W.T p) (nx : ∀ φ, o ≠ .ext φ) (no : ∀ ps, o' ≠ .tbl ps) : Holds W (upd H p o') := by
  refine ⟨fun b u q => ?_, fun a t => ?_, fun a t => ?_, fun q hq => ?_, fun b ps q => ?_⟩
  · rw [upd_ne (ne_of_none q nw)]
    exact h.same b u q
  · have na : a ≠ p := fun q => nt (q ▸ t)
    obtain ⟨h1, u, h2⟩ := h.exm a t
    exact ⟨h1, u, by rw [upd_ne na]; exact h2⟩
  · obtain ⟨h1, x, y, z, h2⟩ := h.tok a t
    have na : a ≠ p := fun q => nt (q ▸ h1)
    exact ⟨h1, x, y, z, by rw [upd_ne na]; exact h2⟩
  · obtain ⟨h1, ps, h2, h3, h4⟩ := h.tab q hq
    have na : q.1 ≠ p := fun z => nt (z ▸ h1)
    refine ⟨h1, ps, by rw [upd_ne na]; exact h2, h3, fun pos cv hc => ?_⟩
    obtain ⟨c, e1, e2⟩ := h4 pos cv hc
    refine ⟨c, e1, ?_⟩
    have nc : c ≠ p := fun z => by
      rw [z, e] at e2
      exact nx _ (Option.some.inj e2)
    rw [upd_ne nc]
    exact e2
  · by_cases hb : b = p
    · rw [hb, upd_same] at q
      exact absurd (Option.some.inj q) (no ps)
    · rw [upd_ne hb] at q
      exact h.all b ps q
structure Step (W : Wd) (H : Hp) (W' : Wd) (H' : Hp) : Prop where
  le : Le W W'
  holds : Holds W' H'
  keep : ∀ b o, H b = some o → ¬ W.T b → H' b = some o
  fresh : ∀ b o, H b = some o → W'.H b = W.H b
  freshT : ∀ b, W'.T b → W.T b ∨ H b = none
  live : ∀ b o, H b = some o → ∃ o', H' b = some o'
theorem Step.refl {W : Wd} {H : Hp} (h : Holds W H) : Step W H W H :=
  ⟨Le.refl W, h, fun _ _ e _ => e, fun _ _ _ => rfl, fun _ t => .inl t, fun _ o e => ⟨o, e⟩⟩
theorem Step.trans {W W1 W2 : Wd} {H H1 H2 : Hp} (a : Step W H W1 H1) (b : Step W1 H1 W2 H2) : Step W H W2 H2 where
  le := a.le.trans b.le
  holds := b.holds
  keep := fun c o e n => by
    refine b.keep c o (a.keep c o e n) fun t => ?_
    rcases a.freshT c t with t | t
    · exact n t
    · rw [e] at t
      cases t
  fresh := fun c o e => by
    obtain ⟨o', e'⟩ := a.live c o e
    rw [b.fresh c o' e', a.fresh c o e]
  freshT := fun c t => by
    rcases b.freshT c t with t | t
    · exact a.freshT c t
    · refine .inr ?_
      cases q : H c with
      | none => rfl
      | some o =>
        obtain ⟨o', e'⟩ := a.live c o q
        rw [e'] at t
        cases t
  live := fun c o e => by
    obtain ⟨o', e'⟩ := a.live c o e
    exact b.live c o' e'
/-- from the same heap on, with a later world -/
theorem Step.rebase {W W1 : Wd} {H H1 : Hp} (a : Step W H W1 H1) : Step W1 H W1 H1 :=
  ⟨Le.refl W1, a.holds, fun b o e n => a.keep b o e fun t => n (a.le.t b t), fun _ _ _ => rfl, fun _ t => .inl t, a.live⟩
theorem Step.join {W W1 W2 : Wd} {H H1 H2 : Hp} (a : Step W H W1 H1) (b : Step W1 H W2 H2) : Step W H W2 H2 where
  le := a.le.trans b.le
  holds := b.holds
  keep := fun c o e n => b.keep c o e fun t => by
    rcases a.freshT c t with t | t
    · exact n t
    · rw [e] at t
      cases t
  fresh := fun c o e => (b.fresh c o e).trans (a.fresh c o e)
  freshT := fun c t => by
    rcases b.freshT c t with t | t
    · exact a.freshT c t
    · exact .inr t
  live := b.live
theorem Wd.put_le {W : Wd} {p : Addr} {o : HO} (nw : W.H p = none) : Le W (W.put p o) := ⟨fun b u e => by
  show upd W.H p o b = some u
  rw [upd_ne (ne_of_none e nw)]
  exact e, fun _ t => t, fun _ t => t⟩
theorem Step.alloc {W : Wd} {H : Hp} (h : Holds W H) {p : Addr} {o : HO} (n : H p = none) (no : ∀ ps, o ≠ .tbl ps := by intro _ h; cases h) : Step W H (W.put p o) (upd H p o) := by
  have nw : W.H p = none := h.same.free n
  refine ⟨Wd.put_le nw, (h.lay n no).put upd_same (h.nT n), fun b u e _ => ?_, fun b u e => ?_, fun b t => .inl t, fun b u e => ?_⟩
  · rw [upd_ne (ne_of_none e n)]
    exact e
  · show upd W.H p o b = W.H b
    rw [upd_ne (ne_of_none e n)]
  · exact ⟨u, by rw [upd_ne (ne_of_none e n)]; exact e⟩
/-- a new object beside the world (owned) -/
theorem Step.lay {W : Wd} {H : Hp} (h : Holds W H) {p : Addr} {o : HO} (n : H p = none) (no : ∀ ps, o ≠ .tbl ps := by intro _ h; cases h) : Step W H W (upd H p o) := by
  refine ⟨Le.refl W, h.lay n no, fun b u e _ => ?_, fun _ _ _ => rfl, fun b t => .inl t, fun b u e => ?_⟩
  · rw [upd_ne (ne_of_none e n)]
    exact e
  · exact ⟨u, by rw [upd_ne (ne_of_none e n)]; exact e⟩
/-- an owned thing is taken into the world -/
theorem Step.take {W : Wd} {H : Hp} (h : Holds W H) {p : Addr} {o : HO} (e : H p = some o) (nw : W.H p = none) (nt : ¬ W.T p) : Le W (W.put p o) ∧ Holds (W.put p o) H := ⟨Wd.put_le nw, h.put e nt⟩
/-- a step that ends with the taking in of an object that was not there at its start -/
theorem Step.taken {W W1 : Wd} {H H1 : Hp} (s : Step W H W1 H1) {p : Addr} {o : HO} (n : H p = none) (e : H1 p = some o) (nw : W1.H p = none) (nt : ¬ W1.T p) : Step W H (W1.put p o) H1 := by
  obtain ⟨l, h⟩ := Step.take s.holds e nw nt
  refine ⟨s.le.trans l, h, s.keep, fun b u q => ?_, s.freshT, s.live⟩
  show upd W1.H p o b = W.H b
  rw [upd_ne (ne_of_none q n)]
  exact s.fresh b u q
/-- an owned thing is changed -/
theorem Step.own {W W1 : Wd} {H H1 : Hp} (s : Step W H W1 H1) {p : Addr} {o o' : HO} (n : H p = none) (e : H1 p = some o) (nw : W1.H p = none) (nt : ¬ W1.T p) (nx : ∀ φ, o ≠ .ext φ := by intro _ h; cases h) (no : ∀ ps, o' ≠ .tbl ps := by intro _ h; cases h) : Step W H W1 (upd H1 p o') := by
  refine ⟨s.le, s.holds.own e nw nt nx no, fun b u q nq => ?_, s.fresh, s.freshT, fun b u q => ?_⟩
  · rw [upd_ne (ne_of_none q n)]
    exact s.keep b u q nq
  · by_cases hb : b = p
    · rw [hb]
      exact ⟨_, upd_same⟩
    · rw [upd_ne hb]
      exact s.live b u q
/-- a field of an owned object: a datum, an owned list, an owned list of owned lists -/
inductive OF where
  | d (x : D) | l (xs : List D) | ll (xss : List (List D)) | nd (kvs : List (D × D))
/-- own lists in an own list, or in an own dict -/
inductive O2 where
  | ll (xss : List (List D)) | dl (kvs : List (Key × List D)) | pd (vs : List (Key × V)) (kvs : List (Key × D)) | nd (kvs : List (D × D))
/-- a local name's place: nothing, a datum, a list that is this def's own, an object that is this def's own, an owned object whose fields may be owned lists (its addresses told) -/
inductive Sl where
  | no | d (x : D) | own (xs : List D) | ob (c : Str) (a : Addr) (fs : List (Str × D)) | ow (c : Str) (as : List Addr) (fs : List (Str × OF))
  | exc (a : Addr) (cls : Value) (d : Option Addr) (c : Str) (fs : List (Str × D))
  | od (kvs : List (Key × D))
  | o2 (as : List Addr) (x : O2)
  | hv (f : Addr → HO)
noncomputable abbrev Env := List Sl
/-- the addresses that a place owns -/
noncomputable def Sl.fp (o : Option V) : Sl → List Addr
  | .own _ => match o with
    | some (.ref a) => [a]
    | _ => []
  | .od _ => match o with
    | some (.ref a) => [a]
    | _ => []
  | .ob _ a _ => [a]
  | .ow _ as _ => as
  | .o2 as _ => as
  | .hv _ => match o with
    | some (.ref a) => [a]
    | _ => []
  | _ => []
/-- the inner lists -/
noncomputable def Inn (mg : Gm) (W : Wd) (H : Hp) (Ls : List Addr) (xss : List (List D)) : Prop :=
  Ls.length = xss.length ∧ ∀ (i : Nat) (l : Addr) (xs : List D), Ls[i]? = some l → xss[i]? = some xs → ∃ vs, H l = some (.lst vs) ∧ Reps mg W vs xs
/-- an own nested dict -/
noncomputable def NdR (mg : Gm) (W : Wd) (H : Hp) (a : Addr) (kvs : List (D × D)) : Prop := ∃ w es ep, Tabl.w = some w ∧ H a = some (nO w a es ep) ∧ es.map (fun e => some e.1) = kvs.map (fun p => nkD p.1) ∧ Reps mg W (es.map fun e => .ref e.2.1) (kvs.map (·.1)) ∧ Reps mg W (es.map (·.2.2)) (kvs.map (·.2))
theorem NdR.keep {mg : Gm} {W W' : Wd} {H H' : Hp} {a : Addr} {kvs : List (D × D)} (h : NdR mg W H a kvs) (l : Le W W') (k : ∀ u, H a = some u → H' a = some u) : NdR mg W' H' a kvs := by
  obtain ⟨w, es, ep, h1, h2, h3, h4, h5⟩ := h
  exact ⟨w, es, ep, h1, k _ h2, h3, h4.mono l, h5.mono l⟩
noncomputable def O2R (mg : Gm) (W : Wd) (H : Hp) (a : Addr) (Ls : List Addr) : O2 → Prop
  | .ll xss => H a = some (.lst (Ls.map V.ref)) ∧ Inn mg W H Ls xss
  | .dl kvs => H a = some (.dK ((kvs.map (·.1)).zip (Ls.map V.ref))) ∧ Inn mg W H Ls (kvs.map (·.2))
  | .nd kvs => Ls = [] ∧ NdR mg W H a kvs
  | .pd vs kvs => Ls = [] ∧ H a = some (.dK vs) ∧ vs.map (·.1) = kvs.map (·.1) ∧ Reps mg W (vs.map (·.2)) (kvs.map (·.2))
/-- an owned field, with its addresses -/
noncomputable def OFR (mg : Gm) (W : Wd) (H : Hp) (v : V) : OF → List Addr → Prop
  | .d x, as => as = [] ∧ Rep mg W v x
  | .l xs, as => ∃ L vs, as = [L] ∧ v = .ref L ∧ H L = some (.lst vs) ∧ Reps mg W vs xs
  | .nd kvs, as => ∃ L, as = [L] ∧ v = .ref L ∧ NdR mg W H L kvs
  | .ll xss, as => ∃ L Ls, as = L :: Ls ∧ v = .ref L ∧ H L = some (.lst (Ls.map V.ref)) ∧ Ls.length = xss.length ∧ ∀ (i : Nat) (l : Addr) (xs : List D), Ls[i]? = some l → xss[i]? = some xs → ∃ vs, H l = some (.lst vs) ∧ Reps mg W vs xs
noncomputable def OFs (mg : Gm) (W : Wd) (H : Hp) : List (Str × V) → List (Str × OF) → List Addr → Prop
  | [], [], as => as = []
  | (f, v) :: vs, (g, x) :: fs, as => f = g ∧ ∃ as1 as2, as = as1 ++ as2 ∧ OFR mg W H v x as1 ∧ OFs mg W H vs fs as2
  | _, _, _ => False
/-- an exception's class and its dict -/
noncomputable def ExcR (mg : Gm) (W : Wd) (cls : Value) (dd : Option Addr) (c : Str) (fs : List (Str × D)) : Prop :=
  ∃ C, mg.mg c = some (.ref C) ∧ cls = .ref C ∧ ((fs = [] ∧ dd = none) ∨ ∃ a vs, dd = some a ∧ W.H a = some (.xd vs) ∧ vs.map (·.1) = fs.map (·.1) ∧ Reps mg W (vs.map (·.2)) (fs.map (·.2)))
theorem ExcR.mono {mg : Gm} {W W' : Wd} {cls : Value} {dd : Option Addr} {c : Str} {fs : List (Str × D)} (h : ExcR mg W cls dd c fs) (l : Le W W') : ExcR mg W' cls dd c fs := by
  obtain ⟨C, h1, h2, h | ⟨a, vs, h3, h4, h5, h6⟩⟩ := h
  · exact ⟨C, h1, h2, .inl h⟩
  · exact ⟨C, h1, h2, .inr ⟨a, vs, h3, l.h _ _ h4, h5, h6.mono l⟩⟩
noncomputable def SlR (mg : Gm) (B : Hp) (W : Wd) (H : Hp) (o : Option V) : Sl → Prop
  | .no => True
  | .exc a cls d c fs => o = some (.ref a) ∧ ExcR mg W cls d c fs
  | .d x => ∃ v, o = some v ∧ Rep mg W v x
  | .own xs => ∃ a vs, o = some (.ref a) ∧ H a = some (.lst vs) ∧ W.H a = none ∧ ¬ W.T a ∧ B a = none ∧ Reps mg W vs xs
  | .od kvs => ∃ a vs, o = some (.ref a) ∧ H a = some (.dK vs) ∧ W.H a = none ∧ ¬ W.T a ∧ B a = none ∧ vs.map (·.1) = kvs.map (·.1) ∧ Reps mg W (vs.map (·.2)) (kvs.map (·.2))
  | .ob c a fs => ∃ vs, o = some (.ref a) ∧ (∃ C dx, mg.mg c = some (.ref C) ∧ H a = some (.ins C dx vs)) ∧ W.H a = none ∧ ¬ W.T a ∧ B a = none ∧ vs.map (·.1) = fs.map (·.1) ∧ Reps mg W (vs.map (·.2)) (fs.map (·.2))
  | .ow c as fs => ∃ a as' vs, as = a :: as' ∧ o = some (.ref a) ∧ (∃ C dx, mg.mg c = some (.ref C) ∧ H a = some (.ins C dx vs)) ∧ OFs mg W H vs fs as' ∧ as.Nodup ∧ ∀ b ∈ as, (∃ u, H b = some u) ∧ W.H b = none ∧ ¬ W.T b ∧ B b = none
  | .o2 as x => ∃ a Ls, as = a :: Ls ∧ o = some (.ref a) ∧ O2R mg W H a Ls x ∧ as.Nodup ∧ ∀ b ∈ as, (∃ u, H b = some u) ∧ W.H b = none ∧ ¬ W.T b ∧ B b = none
  | .hv f => ∃ a, o = some (.ref a) ∧ H a = some (f a) ∧ W.H a = none ∧ ¬ W.T a ∧ B a = none
structure EnvR (mg : Gm) (B : Hp) (W : Wd) (H : Hp) (σ : St) (ρ : Env) : Prop where
  len : σ.length = ρ.length
  sl : ∀ (i : Nat) (s : Sl), ρ[i]? = some s → ∃ o, σ[i]? = some o ∧ SlR mg B W H o s
  dis : ∀ (i j : Nat) (s t : Sl) (o o' : Option V) (a : Addr), i ≠ j → ρ[i]? = some s → ρ[j]? = some t → σ[i]? = some o → σ[j]? = some o' → a ∈ s.fp o → a ∈ t.fp o' → False
section
variable {mg : Gm} {B : Hp} {W W' : Wd} {H H' : Hp} {σ : St} {ρ : Env}
/-- what is mine has addresses of its own -/
theorem SlR.at {o : Option V} {s : Sl} (h : SlR mg B W H o s) {a : Addr} (m : a ∈ s.fp o) : ∃ u, H a = some u ∧ W.H a = none ∧ ¬ W.T a ∧ B a = none := by
  cases s with
  | no => cases m
  | exc => cases m
  | d x => cases m
  | own xs =>
    obtain ⟨b, vs, h1, h2, h3, h4, h5, _⟩ := h
    subst h1
    obtain rfl := List.mem_singleton.mp m
    exact ⟨_, h2, h3, h4, h5⟩
  | od xs =>
    obtain ⟨b, vs, h1, h2, h3, h4, h5, _⟩ := h
    subst h1
    obtain rfl := List.mem_singleton.mp m
    exact ⟨_, h2, h3, h4, h5⟩
  | ob c b fs =>
    obtain ⟨vs, h1, ⟨C, dx, _, h2⟩, h3, h4, h5, _⟩ := h
    obtain rfl := List.mem_singleton.mp m
    exact ⟨_, h2, h3, h4, h5⟩
  | ow c as fs =>
    obtain ⟨b, as', vs, _, _, _, _, _, k⟩ := h
    obtain ⟨⟨u, hu⟩, k⟩ := k a m
    exact ⟨u, hu, k⟩
  | o2 as x =>
    obtain ⟨b, Ls, _, _, _, _, k⟩ := h
    obtain ⟨⟨u, hu⟩, k⟩ := k a m
    exact ⟨u, hu, k⟩
  | hv f =>
    obtain ⟨b, h1, h2, h3, h4, h5⟩ := h
    subst h1
    obtain rfl := List.mem_singleton.mp m
    exact ⟨_, h2, h3, h4, h5⟩
theorem Inn.keep {Ls : List Addr} {xss : List (List D)} (h : Inn mg W H Ls xss) (l : Le W W') (k : ∀ b ∈ Ls, ∀ u, H b = some u → H' b = some u) : Inn mg W' H' Ls xss := ⟨h.1, fun i b xs q1 q2 => by
  obtain ⟨vs, g1, g2⟩ := h.2 i b xs q1 q2
  exact ⟨vs, k b (List.mem_of_getElem? q1) _ g1, g2.mono l⟩⟩
theorem O2R.keep {a : Addr} {Ls : List Addr} {x : O2} (h : O2R mg W H a Ls x) (l : Le W W') (k : ∀ b ∈ a :: Ls, ∀ u, H b = some u → H' b = some u) : O2R mg W' H' a Ls x := by
  cases x with
  | ll xss => exact ⟨k a List.mem_cons_self _ h.1, h.2.keep l fun b hb => k b (List.mem_cons_of_mem _ hb)⟩
  | dl kvs => exact ⟨k a List.mem_cons_self _ h.1, h.2.keep l fun b hb => k b (List.mem_cons_of_mem _ hb)⟩
  | nd kvs => exact ⟨h.1, h.2.keep l fun u hu => k a List.mem_cons_self u hu⟩
  | pd vs kvs =>
    obtain ⟨e, h1, h2, h3⟩ := h
    exact ⟨e, k a List.mem_cons_self _ h1, h2, h3.mono l⟩
theorem OFR.keep {v : V} {x : OF} {as : List Addr} (h : OFR mg W H v x as) (l : Le W W') (k : ∀ b ∈ as, ∀ u, H b = some u → H' b = some u) : OFR mg W' H' v x as := by
  cases x with
  | d x => exact ⟨h.1, h.2.mono l⟩
  | l xs =>
    obtain ⟨L, vs, rfl, h2, h3, h4⟩ := h
    exact ⟨L, vs, rfl, h2, k L (by simp) _ h3, h4.mono l⟩
  | nd kvs =>
    obtain ⟨L, rfl, h2, h3⟩ := h
    exact ⟨L, rfl, h2, h3.keep l fun u hu => k L (by simp) u hu⟩
  | ll xss =>
    obtain ⟨L, Ls, rfl, h2, h3, h4, h5⟩ := h
    refine ⟨L, Ls, rfl, h2, k L (by simp) _ h3, h4, fun i b xs q1 q2 => ?_⟩
    obtain ⟨vs, g1, g2⟩ := h5 i b xs q1 q2
    exact ⟨vs, k b (List.mem_cons_of_mem _ (List.mem_of_getElem? q1)) _ g1, g2.mono l⟩
theorem OFs.keep : ∀ {vs : List (Str × V)} {fs : List (Str × OF)} {as : List Addr}, OFs mg W H vs fs as → Le W W' → (∀ b ∈ as, ∀ u, H b = some u → H' b = some u) → OFs mg W' H' vs fs as
  | [], [], _, h, _, _ => h
  | _ :: _, _ :: _, _, ⟨e, as1, as2, rfl, h1, h2⟩, l, k => ⟨e, as1, as2, rfl, h1.keep l fun b hb => k b (List.mem_append_left _ hb), OFs.keep h2 l fun b hb => k b (List.mem_append_right _ hb)⟩
  | [], _ :: _, _, h, _, _ => h.elim
  | _ :: _, [], _, h, _, _ => h.elim
/-- a place is kept: the world grows, what is mine stands as it stood -/
theorem SlR.keep {o : Option V} {s : Sl} (h : SlR mg B W H o s) (l : Le W W') (k : ∀ a ∈ s.fp o, ∀ u, H a = some u → W.H a = none → ¬ W.T a → H' a = some u ∧ W'.H a = none ∧ ¬ W'.T a) : SlR mg B W' H' o s := by
  cases s with
  | no => exact True.intro
  | exc => exact ⟨h.1, h.2.mono l⟩
  | d x =>
    obtain ⟨v, q, r⟩ := h
    exact ⟨v, q, r.mono l⟩
  | own xs =>
    obtain ⟨a, vs, h1, h2, h3, h4, h5, r⟩ := h
    subst h1
    obtain ⟨k1, k2, k3⟩ := k a (List.mem_singleton.mpr rfl) _ h2 h3 h4
    exact ⟨a, vs, rfl, k1, k2, k3, h5, r.mono l⟩
  | od xs =>
    obtain ⟨a, vs, h1, h2, h3, h4, h5, hk, r⟩ := h
    subst h1
    obtain ⟨k1, k2, k3⟩ := k a (List.mem_singleton.mpr rfl) _ h2 h3 h4
    exact ⟨a, vs, rfl, k1, k2, k3, h5, hk, r.mono l⟩
  | ob c a fs =>
    obtain ⟨vs, h1, ⟨C, dx, hc, h2⟩, h3, h4, h5, hk, r⟩ := h
    obtain ⟨k1, k2, k3⟩ := k a (List.mem_singleton.mpr rfl) _ h2 h3 h4
    exact ⟨vs, h1, ⟨C, dx, hc, k1⟩, k2, k3, h5, hk, r.mono l⟩
  | ow c as fs =>
    obtain ⟨a, as', vs, rfl, h1, ⟨C, dx, hc, h2⟩, h3, h4, h5⟩ := h
    have kk : ∀ b ∈ a :: as', ∀ u, H b = some u → H' b = some u ∧ W'.H b = none ∧ ¬ W'.T b := fun b hb u hu => k b hb u hu (h5 b hb).2.1 (h5 b hb).2.2.1
    refine ⟨a, as', vs, rfl, h1, ⟨C, dx, hc, (kk a List.mem_cons_self _ h2).1⟩, h3.keep l fun b hb u hu => (kk b (List.mem_cons_of_mem _ hb) u hu).1, h4, fun b hb => ?_⟩
    obtain ⟨⟨u, hu⟩, _, _, g4⟩ := h5 b hb
    obtain ⟨k1, k2, k3⟩ := kk b hb u hu
    exact ⟨⟨u, k1⟩, k2, k3, g4⟩
  | o2 as x =>
    obtain ⟨a, Ls, rfl, h1, h3, h4, h5⟩ := h
    have kk : ∀ b ∈ a :: Ls, ∀ u, H b = some u → H' b = some u ∧ W'.H b = none ∧ ¬ W'.T b := fun b hb u hu => k b hb u hu (h5 b hb).2.1 (h5 b hb).2.2.1
    refine ⟨a, Ls, rfl, h1, h3.keep l fun b hb u hu => (kk b hb u hu).1, h4, fun b hb => ?_⟩
    obtain ⟨⟨u, hu⟩, _, _, g4⟩ := h5 b hb
    obtain ⟨k1, k2, k3⟩ := kk b hb u hu
    exact ⟨⟨u, k1⟩, k2, k3, g4⟩
  | hv f =>
    obtain ⟨a, h1, h2, h3, h4, h5⟩ := h
    subst h1
    obtain ⟨k1, k2, k3⟩ := k a (List.mem_singleton.mpr rfl) _ h2 h3 h4
    exact ⟨a, rfl, k1, k2, k3, h5⟩
theorem Step.mine {a : Addr} {u : HO} (s : Step W H W' H') (h2 : H a = some u) (h3 : W.H a = none) (h4 : ¬ W.T a) : H' a = some u ∧ W'.H a = none ∧ ¬ W'.T a := by
  refine ⟨s.keep a _ h2 h4, ?_, fun t => ?_⟩
  · rw [s.fresh a _ h2]
    exact h3
  · rcases s.freshT a t with t | t
    · exact h4 t
    · rw [h2] at t
      cases t
theorem EnvR.step (e : EnvR mg B W H σ ρ) (s : Step W H W' H') : EnvR mg B W' H' σ ρ := by
  refine ⟨e.len, fun i sl h => ?_, e.dis⟩
  obtain ⟨o, h1, h2⟩ := e.sl i sl h
  exact ⟨o, h1, h2.keep s.le fun a _ u h2 h3 h4 => s.mine h2 h3 h4⟩
theorem EnvR.get (e : EnvR mg B W H σ ρ) {i : Nat} {x : D} (h : ρ[i]? = some (.d x)) : ∃ v, σ[i]? = some (some v) ∧ Rep mg W v x := by
  obtain ⟨o, h1, v, q, r⟩ := e.sl i _ h
  exact ⟨v, by rw [h1, q], r⟩
theorem get_set {α : Type} {l : List α} {i j : Nat} {x y : α} (h : (l.set i x)[j]? = some y) : (i = j ∧ x = y) ∨ (i ≠ j ∧ l[j]? = some y) := by
  by_cases e : i = j
  · subst e
    refine .inl ⟨rfl, ?_⟩
    rw [List.getElem?_set_self'] at h
    cases q : l[i]? with
    | none =>
      rw [q] at h
      cases h
    | some z =>
      rw [q] at h
      exact Option.some.inj h
  · rw [List.getElem?_set_ne e] at h
    exact .inr ⟨e, h⟩
theorem set_get {α : Type} {l : List α} {i : Nat} {x y : α} (h : l[i]? = some y) : (l.set i x)[i]? = some x := by
  rw [List.getElem?_set_self', h]
  rfl
/-- a place is stored -/
theorem EnvR.put (e : EnvR mg B W H σ ρ) {i : Nat} {o : Option V} {s : Sl} (n : s.fp o = []) (r : SlR mg B W H o s) : EnvR mg B W H (σ.set i o) (ρ.set i s) := by
  refine ⟨by simpa using e.len, fun j t h => ?_, fun j k s1 s2 o1 o2 a hjk h1 h2 h3 h4 m1 m2 => ?_⟩
  · rcases get_set h with ⟨rfl, rfl⟩ | ⟨nj, h⟩
    · have hl : i < ρ.length := by simpa using (List.getElem?_eq_some_iff.mp h).1
      exact ⟨o, by rw [List.getElem?_set_self (by rw [e.len]; exact hl)], r⟩
    · obtain ⟨o', h1, h2⟩ := e.sl j t h
      exact ⟨o', by rw [List.getElem?_set_ne nj]; exact h1, h2⟩
  · rcases get_set h1 with ⟨e1, z⟩ | ⟨n1, h1⟩
    · rcases get_set h3 with ⟨_, z'⟩ | ⟨q, _⟩
      · rw [← z, ← z', n] at m1
        cases m1
      · exact q e1
    · rcases get_set h2 with ⟨e2, z⟩ | ⟨n2, h2⟩
      · rcases get_set h4 with ⟨_, z'⟩ | ⟨q, _⟩
        · rw [← z, ← z', n] at m2
          cases m2
        · exact q e2
      · rw [List.getElem?_set_ne n1] at h3
        rw [List.getElem?_set_ne n2] at h4
        exact e.dis j k s1 s2 o1 o2 a hjk h1 h2 h3 h4 m1 m2
/-- nothing is said of any place -/
noncomputable def noEnv (ρ : Env) : Env := ρ.map fun _ => Sl.no
theorem EnvR.noEnv (h : σ.length = ρ.length) : EnvR mg B W H σ (noEnv ρ) := by
  have no : ∀ (i : Nat) (s : Sl), (FP.noEnv ρ)[i]? = some s → s = .no ∧ i < σ.length := fun i s q => by
    unfold FP.noEnv at q
    rw [List.getElem?_map] at q
    cases z : ρ[i]? with
    | none =>
      rw [z] at q
      cases q
    | some y =>
      rw [z] at q
      cases q
      exact ⟨rfl, by rw [h]; exact (List.getElem?_eq_some_iff.mp z).1⟩
  refine ⟨by simpa [FP.noEnv] using h, fun i s q => ?_, fun i j s t o o' a _ h1 _ _ _ m _ => ?_⟩
  · obtain ⟨rfl, hl⟩ := no i s q
    exact ⟨_, List.getElem?_eq_getElem hl, True.intro⟩
  · obtain ⟨rfl, _⟩ := no i s h1
    cases m
theorem EnvR.set (e : EnvR mg B W H σ ρ) {i : Nat} {v : V} {x : D} (r : Rep mg W v x) : EnvR mg B W H (σ.set i (some v)) (ρ.set i (.d x)) := e.put rfl ⟨v, rfl, r⟩
theorem EnvR.no (e : EnvR mg B W H σ ρ) {i : Nat} {o : Option V} : EnvR mg B W H (σ.set i o) (ρ.set i .no) := e.put rfl True.intro
/-- new things of one's own at a place -/
theorem EnvR.news (e : EnvR mg B W H σ ρ) {i : Nat} {o : Option V} {s : Sl} (st : Step W H W H') (n : ∀ a ∈ s.fp o, H a = none) (r : SlR mg B W H' o s) : EnvR mg B W H' (σ.set i o) (ρ.set i s) := by
  have e1 := e.step st
  have old : ∀ (j : Nat) (t : Sl) (o' : Option V) (b : Addr), ρ[j]? = some t → σ[j]? = some o' → b ∈ t.fp o' → b ∈ s.fp o → False := fun j t o' b h1 h2 m m' => by
    obtain ⟨o2, h3, h4⟩ := e.sl j _ h1
    rw [h2] at h3
    cases h3
    obtain ⟨u', h6, _⟩ := h4.at m
    rw [n b m'] at h6
    cases h6
  refine ⟨by simpa using e.len, fun j sl hj => ?_, fun j k s1 s2 o1 o2 a hjk h1 h2 h3 h4 m1 m2 => ?_⟩
  · rcases get_set hj with ⟨rfl, rfl⟩ | ⟨nj, hj⟩
    · have hl : i < ρ.length := by simpa using (List.getElem?_eq_some_iff.mp hj).1
      exact ⟨o, by rw [List.getElem?_set_self (by rw [e.len]; exact hl)], r⟩
    · obtain ⟨o', h1, h2⟩ := e1.sl j sl hj
      exact ⟨o', by rw [List.getElem?_set_ne nj]; exact h1, h2⟩
  · rcases get_set h1 with ⟨e1, z1⟩ | ⟨n1, h1⟩
    · rcases get_set h2 with ⟨q, _⟩ | ⟨n2, h2⟩
      · exact hjk (e1.symm.trans q)
      · rw [List.getElem?_set_ne n2] at h4
        rcases get_set h3 with ⟨_, q⟩ | ⟨q, _⟩
        · rw [← z1, ← q] at m1
          exact old k s2 o2 a h2 h4 m2 m1
        · exact q e1
    · rcases get_set h2 with ⟨e2, z2⟩ | ⟨n2, h2⟩
      · rw [List.getElem?_set_ne n1] at h3
        rcases get_set h4 with ⟨_, q⟩ | ⟨q, _⟩
        · rw [← z2, ← q] at m2
          exact old j s1 o1 a h1 h3 m1 m2
        · exact q e2
      · rw [List.getElem?_set_ne n1] at h3
        rw [List.getElem?_set_ne n2] at h4
        exact e.dis j k s1 s2 o1 o2 a hjk h1 h2 h3 h4 m1 m2
/-- a new list of one's own -/
theorem EnvR.setOwn (e : EnvR mg B W H σ ρ) (h : Holds W H) {i : Nat} {p : Addr} {vs : List V} {xs : List D} (n : H p = none) (nb : B p = none) (r : Reps mg W vs xs) : EnvR mg B W (upd H p (.lst vs)) (σ.set i (some (.ref p))) (ρ.set i (.own xs)) :=
  e.news (Step.lay h n) (fun a ha => by obtain rfl := List.mem_singleton.mp ha; exact n) ⟨p, vs, rfl, upd_same, h.same.free n, h.nT n, nb, r⟩
/-- what is mine at a place is changed, or another thing is said of the place: the heap differs at its addresses alone; new ones are new -/
theorem EnvR.turns (e : EnvR mg B W H σ ρ) {i : Nat} {o : Option V} {s s' : Sl} (hi : ρ[i]? = some s) (hs : σ[i]? = some o) (hH : ∀ b u, H b = some u → b ∉ s.fp o → H' b = some u) (hn : ∀ a ∈ s'.fp o, a ∈ s.fp o ∨ H a = none) (r : SlR mg B W H' o s') : EnvR mg B W H' σ (ρ.set i s') := by
  have off : ∀ (j : Nat) (t : Sl) (o' : Option V) (b : Addr), j ≠ i → ρ[j]? = some t → σ[j]? = some o' → b ∈ t.fp o' → b ∈ s'.fp o → False := fun j t o' b nj h1 h2 m m' => by
    rcases hn b m' with z | z
    · exact e.dis j i t s o' o b nj h1 hi h2 hs m z
    · obtain ⟨o2, h3, h4⟩ := e.sl j _ h1
      rw [h2] at h3
      cases h3
      obtain ⟨u', h6, _⟩ := h4.at m
      rw [z] at h6
      cases h6
  refine ⟨by simpa using e.len, fun j sl hj => ?_, fun j k s1 s2 o1 o2 a hjk h1 h2 h3 h4 m1 m2 => ?_⟩
  · rcases get_set hj with ⟨rfl, rfl⟩ | ⟨nj, hj⟩
    · exact ⟨_, hs, r⟩
    · obtain ⟨o', h1, h2⟩ := e.sl j sl hj
      exact ⟨o', h1, h2.keep (Le.refl W) fun a ha u h5 h6 h7 => ⟨hH a u h5 fun z => e.dis i j s sl o o' a nj hi hj hs h1 z ha, h6, h7⟩⟩
  · rcases get_set h1 with ⟨e1, z1⟩ | ⟨n1, h1⟩
    · rcases get_set h2 with ⟨q, _⟩ | ⟨n2, h2⟩
      · exact hjk (e1.symm.trans q)
      · subst e1
        rw [hs] at h3
        cases h3
        rw [← z1] at m1
        exact off k s2 o2 a (Ne.symm n2) h2 h4 m2 m1
    · rcases get_set h2 with ⟨e2, z2⟩ | ⟨n2, h2⟩
      · subst e2
        rw [hs] at h4
        cases h4
        rw [← z2] at m2
        exact off j s1 o1 a (Ne.symm n1) h1 h3 m1 m2
      · exact e.dis j k s1 s2 o1 o2 a hjk h1 h2 h3 h4 m1 m2
/-- one address of one's own is changed -/
theorem EnvR.turn (e : EnvR mg B W H σ ρ) {i : Nat} {p : Addr} {u : HO} {o : Option V} {s s' : Sl} (hi : ρ[i]? = some s) (hs : σ[i]? = some o) (m : p ∈ s.fp o) (hf : ∀ a ∈ s'.fp o, a ∈ s.fp o) (r : SlR mg B W (upd H p u) o s') : EnvR mg B W (upd H p u) σ (ρ.set i s') :=
  e.turns hi hs (fun b u' h n => by
    have ne : b ≠ p := fun q => n (by rw [q]; exact m)
    rw [upd_ne ne]
    exact h) (fun a ha => .inl (hf a ha)) r
/-- one's own list is changed -/
theorem EnvR.own (e : EnvR mg B W H σ ρ) {i : Nat} {p : Addr} {us vs : List V} {xs ys : List D} (hi : ρ[i]? = some (.own xs)) (hs : σ[i]? = some (some (.ref p))) (r : Reps mg W vs ys) : EnvR mg B W (upd H p (.lst vs)) σ (ρ.set i (.own ys)) := by
  obtain ⟨o, h1, h2⟩ := e.sl i _ hi
  rw [hs] at h1
  cases h1
  obtain ⟨u, h4, h5, h6, h7⟩ := h2.at (a := p) (List.mem_singleton.mpr rfl)
  exact e.turn hi hs (List.mem_singleton.mpr rfl) (fun _ h => h) ⟨p, vs, rfl, upd_same, h5, h6, h7, r⟩
/-- what is mine is handed to the world -/
theorem EnvR.give (e : EnvR mg B W H σ ρ) (h : Holds W H) {i : Nat} {p : Addr} {u : HO} {s : Sl} {x : D} (hi : ρ[i]? = some s) (hs : σ[i]? = some (some (.ref p))) (m : p ∈ s.fp (some (.ref p))) (hu : H p = some u) (hw : W.H p = none) (ht : ¬ W.T p) (r : Rep mg (W.put p u) (.ref p) x) : EnvR mg B (W.put p u) H σ (ρ.set i (.d x)) := by
  obtain ⟨l, hh⟩ := Step.take h hu hw ht
  refine ⟨by simpa using e.len, fun j sl hj => ?_, fun j k s1 s2 o1 o2 a hjk q1 q2 q3 q4 m1 m2 => ?_⟩
  · rcases get_set hj with ⟨rfl, rfl⟩ | ⟨nj, hj⟩
    · exact ⟨_, hs, _, rfl, r⟩
    · obtain ⟨o, g1, g2⟩ := e.sl j sl hj
      refine ⟨o, g1, g2.keep l fun a ha u' h5 h6 h7 => ⟨h5, ?_, h7⟩⟩
      show upd W.H p _ a = none
      have ne : a ≠ p := fun q => e.dis i j s sl _ o p nj hi hj hs g1 m (by rw [← q]; exact ha)
      rw [upd_ne ne]
      exact h6
  · rcases get_set q1 with ⟨_, z⟩ | ⟨n1, q1⟩
    · rw [← z] at m1
      cases m1
    · rcases get_set q2 with ⟨_, z⟩ | ⟨n2, q2⟩
      · rw [← z] at m2
        cases m2
      · exact e.dis j k s1 s2 o1 o2 a hjk q1 q2 q3 q4 m1 m2
/-- one's own list is handed to the world -/
theorem EnvR.freeze (e : EnvR mg B W H σ ρ) (h : Holds W H) {i : Nat} {xs : List D} (hi : ρ[i]? = some (.own xs)) :
    ∃ p vs, σ[i]? = some (some (.ref p)) ∧ H p = some (.lst vs) ∧ W.H p = none ∧ ¬ W.T p ∧ B p = none ∧ Reps mg W vs xs ∧ EnvR mg B (W.put p (.lst vs)) H σ (ρ.set i (.d (.lst xs))) := by
  obtain ⟨o, h1, p, vs, h2, h3, h4, h5, h6, r⟩ := e.sl i _ hi
  subst h2
  obtain ⟨l, hh⟩ := Step.take h h3 h4 h5
  exact ⟨p, vs, h1, h3, h4, h5, h6, r, e.give h hi h1 (List.mem_singleton.mpr rfl) h3 h4 h5 (.lst (show upd W.H p (.lst vs) p = _ from upd_same) (r.mono l))⟩
end
end FP
/-! FP2: judgements over data: expressions, tests, arguments, statements; a def's promise. -/
namespace FP
open PySem L2
variable [Tabl]
/-- an exception as a datum -/
structure XD where
  cls : Str
  fs : List (Str × D)
noncomputable abbrev M (α : Type) := (α → Prop) → (XD → Prop) → Prop
noncomputable abbrev DTE := Env → M D
noncomputable abbrev DTT := Env → M Bool
noncomputable abbrev DTA := Env → M (List D)
noncomputable abbrev DTI := Env → M (List D)
structure Nd where
  nx : Env → Prop
  rt : D → Env → Prop
  bk : Env → Prop
  ct : Env → Prop
  rs : XD → Env → Prop
noncomputable abbrev DTS := Nd → Env → Prop
noncomputable abbrev F0 : XD → Prop := fun _ => False
noncomputable abbrev Wx0 : WX := fun _ _ _ _ => False
noncomputable def RepX (mg : Gm) (W : Wd) (_H : Hp) (cls : Value) (dd : Option Addr) (x : XD) : Prop := ExcR mg W cls dd x.cls x.fs
noncomputable def ExR (mg : Gm) (Wx : WX) (W : Wd) (H : Hp) (σ : St) (E : XD → Prop) : Prop :=
  ∀ W' H' cls dd x, Step W H W' H' → RepX mg W' H' cls dd x → E x → Wx cls dd σ H'
theorem ExR.step {mg : Gm} {Wx : WX} {W W1 : Wd} {H H1 : Hp} {σ : St} {E : XD → Prop} (e : ExR mg Wx W H σ E) (s : Step W H W1 H1) : ExR mg Wx W1 H1 σ E :=
  fun W' H' cls dd x s' r h => e W' H' cls dd x (s.trans s') r h
theorem ExR.f0 {mg : Gm} {Wx : WX} {W : Wd} {H : Hp} {σ : St} : ExR mg Wx W H σ F0 := fun _ _ _ _ _ _ _ h => h.elim
/-- what is wanted behind a value, by its datum -/
noncomputable abbrev ToV (mg : Gm) (W : Wd) (H : Hp) (Q : D → Prop) (Q' : VK) : Prop := ∀ W' H' v d, Step W H W' H' → Rep mg W' v d → Q d → Q' v H'
noncomputable def Cp (mg : Gm) (Wx : WX) (t : TE) (f : DTE) : Prop := ∀ B ρ Q E, f ρ Q E → ∀ W σ H Q', Holds W H → EnvR mg B W H σ ρ → ExR mg Wx W H σ E → ToV mg W H Q Q' → t σ H Q'
noncomputable def CpT (mg : Gm) (Wx : WX) (t : TT) (f : DTT) : Prop := ∀ B ρ Q E, f ρ Q E → ∀ W σ H Q', Holds W H → EnvR mg B W H σ ρ → ExR mg Wx W H σ E → (∀ W' H' b, Step W H W' H' → Q b → Q' b H') → t σ H Q'
noncomputable def CpA (mg : Gm) (Wx : WX) (t : TA) (f : DTA) : Prop := ∀ B ρ Q E, f ρ Q E → ∀ W σ H Q', Holds W H → EnvR mg B W H σ ρ → ExR mg Wx W H σ E → (∀ W' H' vs ds, Step W H W' H' → Reps mg W' vs ds → Q ds → Q' vs H') → t σ H Q'
structure EndsR (mg : Gm) (Wx : WX) (W0 : Wd) (B : Hp) (N : Nd) (Ds : Ends) : Prop where
  nx : ∀ W' H' σ' ρ', Step W0 B W' H' → EnvR mg B W' H' σ' ρ' → N.nx ρ' → Ds.nx σ' H'
  rt : ∀ W' H' σ' ρ' v d, Step W0 B W' H' → EnvR mg B W' H' σ' ρ' → Rep mg W' v d → N.rt d ρ' → Ds.rt v H'
  bk : ∀ W' H' σ' ρ', Step W0 B W' H' → EnvR mg B W' H' σ' ρ' → N.bk ρ' → Ds.bk σ' H'
  ct : ∀ W' H' σ' ρ', Step W0 B W' H' → EnvR mg B W' H' σ' ρ' → N.ct ρ' → Ds.ct σ' H'
  rs : ∀ W' H' σ' ρ' cls dd x, Step W0 B W' H' → EnvR mg B W' H' σ' ρ' → RepX mg W' H' cls dd x → N.rs x ρ' → Wx cls dd σ' H'
noncomputable def CpS (mg : Gm) (Wx : WX) (t : TS) (f : DTS) : Prop := ∀ W0 B N ρ, f N ρ → ∀ W σ H Ds, Step W0 B W H → EnvR mg B W H σ ρ → EndsR mg Wx W0 B N Ds → t Ds σ H
theorem EndsR.ex {mg : Gm} {Wx : WX} {W0 W : Wd} {B H : Hp} {N : Nd} {Ds : Ends} {σ : St} {ρ : Env} (n : EndsR mg Wx W0 B N Ds) (s : Step W0 B W H) (e : EnvR mg B W H σ ρ) : ExR mg Wx W H σ (fun x => N.rs x ρ) :=
  fun W' H' cls dd x s' r h => n.rs W' H' σ ρ cls dd x (s.trans s') (e.step s') r h
section
variable {ι : Type}
noncomputable def DE (Xs : ι → Cx) (mg : Gm) (Wx : WX) (e : Expr) (f : DTE) : Prop := ∃ t, (∀ i, PE (Xs i) e t) ∧ Cp mg Wx t f
noncomputable def DT (Xs : ι → Cx) (mg : Gm) (Wx : WX) (e : Expr) (f : DTT) : Prop := ∃ t, (∀ i, PT (Xs i) e t) ∧ CpT mg Wx t f
noncomputable def DW (Xs : ι → Cx) (mg : Gm) (Wx : WX) (e : Expr) (f : DTT) : Prop := ∃ t, (∀ i, PW (Xs i) e t) ∧ CpT mg Wx t f
noncomputable def DA (Xs : ι → Cx) (mg : Gm) (Wx : WX) (es : List Expr) (f : DTA) : Prop := ∃ t, (∀ i, PA (Xs i) es t) ∧ CpA mg Wx t f
noncomputable def DS (Xs : ι → Cx) (mg : Gm) (Wx : WX) (st : Stmt) (f : DTS) : Prop := ∃ t, (∀ i, PS (Xs i) st t) ∧ CpS mg Wx t f
noncomputable def DSs (Xs : ι → Cx) (mg : Gm) (Wx : WX) (st : List Stmt) (f : DTS) : Prop := ∃ t, (∀ i, PSs (Xs i) st t) ∧ CpS mg Wx t f
end
section
variable {ι : Type} {Xs : ι → Cx} {mg : Gm} {Wx : WX} {pos : Pos}
/-- one of two ways -/
noncomputable def bit (b : Bool) (A B : Prop) : Prop := match b with
  | true => A
  | false => B
/-- a truth as a datum -/
noncomputable def blc (d : D) (k : Bool → Prop) : Prop := match d with
  | .bl b => k b
  | _ => False
theorem bit_t (A B : Prop) : bit true A B = A := rfl
theorem bit_f (A B : Prop) : bit false A B = B := rfl
theorem bit_not (b : Bool) (A B : Prop) : bit (!b) A B = bit b B A := by cases b <;> rfl
theorem bit_dec (p : Prop) [Decidable p] (A B : Prop) : bit (decide p) A B = ((p → A) ∧ (¬ p → B)) := by
  by_cases h : p <;> simp [h, bit]
theorem blc_bl (b : Bool) (k : Bool → Prop) : blc (.bl b) k = k b := rfl
/-! ### what is new is locked -/
noncomputable def tLk (t : TE) : TE := fun σ H Q => t σ H fun v H1 => ∃ p u, v = .ref p ∧ H1 p = some u ∧ Mut (some u) ∧ ∀ od, Q v (upd H1 p (.frz od u))
theorem pe_lk {X : Cx} {e : Expr} {t : TE} (h : PE X e t) : PE X e (tLk t) := by
  refine ⟨fun pins s σ H Q I hw => ?_⟩
  refine thn (h.run pins s σ H _ I hw) fun v s1 ⟨x, H1, I1, r, p, u, e, hp, mu, q⟩ => ?_
  obtain ⟨od, I2⟩ := I1.lock hp mu
  exact ⟨x, _, I2, r, q od⟩
/-! ### names, constants -/
noncomputable abbrev dVar (i : Nat) : DTE := fun ρ Q _ => match ρ[i]? with
  | some (.d x) => Q x
  | _ => False
theorem de_var (i : Nat) {x : Str} (hN : ∀ j, (Xs j).N[i]? = some x := by intro _; rfl) (hv : ∀ j, Vis (Xs j).env.scope x := by intro _; first | exact Or.inl rfl | exact Or.inr (Or.inl rfl) | exact Or.inr (Or.inr rfl))
    (hd : (x == ("__debug__" : Str)) = false := by decide) (hcd : (x == ("__classdict__" : Str)) = false := by decide) : DE Xs mg Wx (.Name x pos) (dVar i) := by
  refine ⟨tVar i, fun j => pe_var (hN j) (hv j) hd hcd, fun B ρ Q E h W σ H Q' hh e _ q => ?_⟩
  unfold dVar at h
  split at h
  · rename_i z hz
    obtain ⟨v, hv, r⟩ := e.get hz
    exact ⟨v, hv, q W H v z (Step.refl hh) r h⟩
  · exact h.elim
noncomputable abbrev dC (x : D) : DTE := fun _ Q _ => Q x
theorem Cp.const {v : V} {d : D} (r : ∀ W, Rep mg W v d) : Cp mg Wx (tC v) (dC d) := fun B ρ Q E h W σ H Q' hh _ _ q => q W H v d (Step.refl hh) (r W) h
theorem de_int {i : Int} {j : Nat} : DE Xs mg Wx (.Constant (.int i) j pos) (dC (.int i)) := ⟨_, fun _ => pe_int, Cp.const fun _ => .int i⟩
theorem de_bl {b : Bool} {j : Nat} : DE Xs mg Wx (.Constant (.bool b) j pos) (dC (.bl b)) := ⟨_, fun _ => pe_bl, Cp.const fun _ => .bl b⟩
theorem de_non {j : Nat} : DE Xs mg Wx (.Constant .none j pos) (dC .non) := ⟨_, fun _ => pe_non, Cp.const fun _ => .non⟩
theorem de_str {x : Str} {j : Nat} : DE Xs mg Wx (.Constant (.str x) j pos) (dC (.str x)) := ⟨_, fun _ => pe_str, Cp.const fun _ => .str x⟩
theorem de_gint {x : Str} {i : Int} (hm' : ∃ tk, mg.mg x = some (.int i tk)) (hM : ∀ j, (Xs j).mg = mg.mg := by intro _; rfl) (hg : ∀ j, Gl (Xs j) x := by intro _; rfl) (hd : (x == ("__debug__" : Str)) = false := by decide) : DE Xs mg Wx (.Name x pos) (dC (.int i)) := by
  obtain ⟨tk, hm⟩ := hm'
  exact ⟨_, fun j => pe_glob (v := .int i) (hg j) (by rw [hM j]; exact hm) ⟨tk, rfl⟩ hd, Cp.const fun _ => .int i⟩
theorem de_gstr {x y : Str} (hm' : ∃ tk, mg.mg x = some (.str y tk)) (hM : ∀ j, (Xs j).mg = mg.mg := by intro _; rfl) (hg : ∀ j, Gl (Xs j) x := by intro _; rfl) (hd : (x == ("__debug__" : Str)) = false := by decide) : DE Xs mg Wx (.Name x pos) (dC (.str y)) := by
  obtain ⟨tk, hm⟩ := hm'
  exact ⟨_, fun j => pe_glob (v := .str y) (hg j) (by rw [hM j]; exact hm) ⟨tk, rfl⟩ hd, Cp.const fun _ => .str y⟩
/-! ### operators by data -/
noncomputable abbrev RD2 := D → D → (D → Prop) → Prop
noncomputable def OpD (mg : Gm) (r : R2) (rd : RD2) : Prop := ∀ W H x y dx dy Q Q', Holds W H → Rep mg W x dx → Rep mg W y dy → rd dx dy Q → ToV mg W H Q Q' → r x y H Q'
/-- an operator that reads data alone -/
noncomputable def OpOk (Xs : ι → Cx) (mg : Gm) (f : Value → Value → Sem Value) (rd : RD2) : Prop := ∃ r, (∀ i, OpR (Xs i) f r) ∧ OpD mg r rd
theorem OpOk.mk {f : Value → Value → Sem Value} {rd : RD2} {r : R2} (h : ∀ i, OpR (Xs i) f r) (k : ∀ (W : Wd) (H : Hp) (x y : V) (dx dy : D) (Q : D → Prop) (Q' : VK) (P : V → V → Prop), Holds W H → Rep mg W x dx → Rep mg W y dy → rd dx dy Q → ToV mg W H Q Q' → (∀ x y, r x y H Q' → P x y) → P x y) : OpOk Xs mg f rd := ⟨r, h, fun W H x y dx dy Q Q' hh rx ry hd q => k W H x y dx dy Q Q' (fun x y => r x y H Q') hh rx ry hd q fun _ _ z => z⟩
noncomputable abbrev dOp (rd : RD2) (fa fb : DTE) : DTE := fun ρ Q E => fa ρ (fun x => fb ρ (fun y => rd x y Q) E) E
theorem Cp.op {r : R2} {rd : RD2} {ta tb : TE} {fa fb : DTE} (o : OpD mg r rd) (ha : Cp mg Wx ta fa) (hb : Cp mg Wx tb fb) : Cp mg Wx (tOp r ta tb) (dOp rd fa fb) := by
  intro B ρ Q E h W σ H Q' hh e x q
  refine ha B ρ _ E h W σ H _ hh e x fun W1 H1 v1 d1 s1 r1 h1 => ?_
  refine hb B ρ _ E h1 W1 σ H1 _ s1.holds (e.step s1) (x.step s1) fun W2 H2 v2 d2 s2 r2 h2 => ?_
  exact o W2 H2 v1 v2 d1 d2 _ _ s2.holds (r1.mono s2.le) r2 h2 fun W3 H3 v3 d3 s3 r3 h3 => q W3 H3 v3 d3 ((s1.trans s2).trans s3) r3 h3
theorem de_op {op : Operator} {rd : RD2} {a b : Expr} {fa fb : DTE} (o : OpOk Xs mg (binaryOp op) rd) (ha : DE Xs mg Wx a fa) (hb : DE Xs mg Wx b fb) : DE Xs mg Wx (.BinOp a op b pos) (dOp rd fa fb) := by
  obtain ⟨r, h1, h2⟩ := o
  obtain ⟨ta, a1, a2⟩ := ha
  obtain ⟨tb, b1, b2⟩ := hb
  exact ⟨_, fun i => pe_op (h1 i) (a1 i) (b1 i), Cp.op h2 a2 b2⟩
theorem de_cmp {op : CmpOp} {rd : RD2} {a b : Expr} {fa fb : DTE} (o : OpOk Xs mg (compareOp op) rd) (ha : DE Xs mg Wx a fa) (hb : DE Xs mg Wx b fb) (hm : behindInMarks op b = false := by first | rfl | exact nomark _) : DE Xs mg Wx (.Compare a [op] [b] pos) (dOp rd fa fb) := by
  obtain ⟨r, h1, h2⟩ := o
  obtain ⟨ta, a1, a2⟩ := ha
  obtain ⟨tb, b1, b2⟩ := hb
  exact ⟨_, fun i => pe_cmpR (h1 i) (a1 i) (b1 i) hm, Cp.op h2 a2 b2⟩
noncomputable abbrev dChain (r r' : RD2) (fa fb fc : DTE) : DTE := fun ρ Q E => fa ρ (fun x => fb ρ (fun y => r x y fun z => blc z fun b => bit b (fc ρ (fun w => r' y w Q) E) (Q (.bl false))) E) E
theorem Cp.chain {r r' : R2} {rd rd' : RD2} {ta tb tc : TE} {fa fb fc : DTE} (h2 : OpD mg r rd) (h2' : OpD mg r' rd') (a2 : Cp mg Wx ta fa) (b2 : Cp mg Wx tb fb) (c2 : Cp mg Wx tc fc) : Cp mg Wx (tChain r r' ta tb tc) (dChain rd rd' fa fb fc) := by
  intro B ρ Q E h W σ H Q' hh e x q
  refine a2 B ρ _ E h W σ H _ hh e x fun W1 H1 v1 d1 s1 r1 h1 => ?_
  refine b2 B ρ _ E h1 W1 σ H1 _ s1.holds (e.step s1) (x.step s1) fun W2 H2 v2 d2 s2 r2 h2x => ?_
  refine h2 W2 H2 v1 v2 d1 d2 _ _ s2.holds (r1.mono s2.le) r2 h2x fun W3 H3 v3 d3 s3 r3 h3 => ?_
  have s13 := (s1.trans s2).trans s3
  cases r3 with
  | bl k =>
    refine ⟨k, rfl, ?_⟩
    cases k with
    | true =>
      rw [if_pos rfl]
      refine c2 B ρ _ E h3 W3 σ H3 _ s3.holds (e.step s13) (x.step s13) fun W4 H4 v4 d4 s4 r4 h4 => ?_
      exact h2' W4 H4 v2 v4 d2 d4 _ _ s4.holds ((r2.mono s3.le).mono s4.le) r4 h4 fun W5 H5 v5 d5 s5 r5 h5 => q W5 H5 v5 d5 ((s13.trans s4).trans s5) r5 h5
    | false =>
      rw [if_neg Bool.false_ne_true]
      exact q W3 H3 _ _ s13 (.bl false) h3
  | _ => exact h3.elim
theorem de_chain {op op' : CmpOp} {rd rd' : RD2} {a b c : Expr} {fa fb fc : DTE} (o : OpOk Xs mg (compareOp op) rd) (o' : OpOk Xs mg (compareOp op') rd') (ha : DE Xs mg Wx a fa) (hb : DE Xs mg Wx b fb) (hc : DE Xs mg Wx c fc) (hm : lastMarks [op, op'] [b, c] = false := by with_unfolding_all rfl) : DE Xs mg Wx (.Compare a [op, op'] [b, c] pos) (dChain rd rd' fa fb fc) := by
  obtain ⟨r, h1, h2⟩ := o
  obtain ⟨r', h1', h2'⟩ := o'
  obtain ⟨ta, a1, a2⟩ := ha
  obtain ⟨tb, b1, b2⟩ := hb
  obtain ⟨tc, c1, c2⟩ := hc
  exact ⟨_, fun i => pe_chain (h1 i) (h1' i) (a1 i) (b1 i) (c1 i) hm, Cp.chain h2 h2' a2 b2 c2⟩
/-! ### tests -/
noncomputable abbrev dB (f : DTE) : DTT := fun ρ Q E => f ρ (fun x => blc x Q) E
theorem Cp.b {t : TE} {f : DTE} (h : Cp mg Wx t f) : CpT mg Wx (tB t) (dB f) := by
  intro B ρ Q E hf W σ H Q' hh e x q
  refine h B ρ _ E hf W σ H _ hh e x fun W1 H1 v1 d1 s1 r1 h1 => ?_
  cases r1 with
  | bl b => exact ⟨b, rfl, q W1 H1 b s1 h1⟩
  | _ => exact h1.elim
theorem dt_val {e : Expr} {f : DTE} (h : DE Xs mg Wx e f) (he : ∀ i whole, isTrue e (Xs i).env whole = (do let v ← whole; standAt e.pos; holding [v] (truthy v)) := by intro _ _; rfl) : DT Xs mg Wx e (dB f) := by
  obtain ⟨t, h1, h2⟩ := h
  exact ⟨_, fun i => pt_val (h1 i) (he i), h2.b⟩
theorem dt_cmp {op : CmpOp} {rd : RD2} {a b : Expr} {fa fb : DTE} (o : OpOk Xs mg (compareOp op) rd) (ha : DE Xs mg Wx a fa) (hb : DE Xs mg Wx b fb) (hm : behindInMarks op b = false := by first | rfl | exact nomark _) : DT Xs mg Wx (.Compare a [op] [b] pos) (dB (dOp rd fa fb)) := by
  obtain ⟨r, h1, h2⟩ := o
  obtain ⟨ta, a1, a2⟩ := ha
  obtain ⟨tb, b1, b2⟩ := hb
  exact ⟨_, fun i => pt_cmpR (h1 i) (a1 i) (b1 i) hm, Cp.b (Cp.op h2 a2 b2)⟩
noncomputable abbrev dAnd (f g : DTT) : DTT := fun ρ Q E => f ρ (fun c => bit c (g ρ Q E) (Q false)) E
noncomputable abbrev dOr (f g : DTT) : DTT := fun ρ Q E => f ρ (fun c => bit c (Q true) (g ρ Q E)) E
noncomputable abbrev dNot (f : DTT) : DTT := fun ρ Q E => f ρ (fun c => Q (!c)) E
theorem dw_and1 {a : Expr} {f : DTT} (h : DT Xs mg Wx a f) : DW Xs mg Wx (.BoolOp .And [a] pos) f := by
  obtain ⟨t, h1, h2⟩ := h
  exact ⟨t, fun i => pw_and1 (h1 i), h2⟩
theorem dw_or1 {a : Expr} {f : DTT} (h : DT Xs mg Wx a f) : DW Xs mg Wx (.BoolOp .Or [a] pos) f := by
  obtain ⟨t, h1, h2⟩ := h
  exact ⟨t, fun i => pw_or1 (h1 i), h2⟩
theorem dw_and {a b : Expr} {rest : List Expr} {f g : DTT} (h : DT Xs mg Wx a f) (h' : DW Xs mg Wx (.BoolOp .And (b :: rest) pos) g) : DW Xs mg Wx (.BoolOp .And (a :: b :: rest) pos) (dAnd f g) := by
  obtain ⟨t, h1, h2⟩ := h
  obtain ⟨u, g1, g2⟩ := h'
  refine ⟨_, fun i => pw_and (h1 i) (g1 i), ?_⟩
  intro B ρ Q E hf W σ H Q' hh e x q
  refine h2 B ρ _ E hf W σ H _ hh e x fun W1 H1 c s1 k1 => ?_
  cases c with
  | true =>
    rw [if_pos rfl]
    exact g2 B ρ Q E k1 W1 σ H1 _ s1.holds (e.step s1) (x.step s1) fun W2 H2 b s2 k2 => q W2 H2 b (s1.trans s2) k2
  | false =>
    rw [if_neg Bool.false_ne_true]
    exact q W1 H1 false s1 k1
theorem dw_or {a b : Expr} {rest : List Expr} {f g : DTT} (h : DT Xs mg Wx a f) (h' : DW Xs mg Wx (.BoolOp .Or (b :: rest) pos) g) : DW Xs mg Wx (.BoolOp .Or (a :: b :: rest) pos) (dOr f g) := by
  obtain ⟨t, h1, h2⟩ := h
  obtain ⟨u, g1, g2⟩ := h'
  refine ⟨_, fun i => pw_or (h1 i) (g1 i), ?_⟩
  intro B ρ Q E hf W σ H Q' hh e x q
  refine h2 B ρ _ E hf W σ H _ hh e x fun W1 H1 c s1 k1 => ?_
  cases c with
  | true =>
    rw [if_pos rfl]
    exact q W1 H1 true s1 k1
  | false =>
    rw [if_neg Bool.false_ne_true]
    exact g2 B ρ Q E k1 W1 σ H1 _ s1.holds (e.step s1) (x.step s1) fun W2 H2 b s2 k2 => q W2 H2 b (s1.trans s2) k2
theorem dt_w {e : Expr} {f : DTT} (h : DW Xs mg Wx e f) : DT Xs mg Wx e f := by
  obtain ⟨t, h1, h2⟩ := h
  exact ⟨t, fun i => (h1 i).pt, h2⟩
theorem dt_not {a : Expr} {f : DTT} (h : DT Xs mg Wx a f) : DT Xs mg Wx (.UnaryOp .Not a pos) (dNot f) := by
  obtain ⟨t, h1, h2⟩ := h
  exact ⟨_, fun i => pt_not (h1 i), fun B ρ Q E hf W σ H Q' hh e x q => h2 B ρ _ E hf W σ H _ hh e x fun W1 H1 c s1 k1 => q W1 H1 _ s1 k1⟩
/-- and, or, not as values (bools) -/
noncomputable abbrev dAndV (f g : DTE) : DTE := fun ρ Q E => f ρ (fun c => blc c fun b => bit b (g ρ Q E) (Q (.bl false))) E
noncomputable abbrev dOrV (f g : DTE) : DTE := fun ρ Q E => f ρ (fun c => blc c fun b => bit b (Q (.bl true)) (g ρ Q E)) E
noncomputable abbrev dNotV (f : DTE) : DTE := fun ρ Q E => f ρ (fun c => blc c fun b => Q (.bl (!b))) E
theorem de_one {op : BoolOp} {a : Expr} {f : DTE} (h : DE Xs mg Wx a f) : DE Xs mg Wx (.BoolOp op [a] pos) f := by
  obtain ⟨t, h1, h2⟩ := h
  exact ⟨t, fun i => pe_one (h1 i), h2⟩
theorem de_and {a b : Expr} {rest : List Expr} {f g : DTE} (h : DE Xs mg Wx a f) (h' : DE Xs mg Wx (.BoolOp .And (b :: rest) pos) g) : DE Xs mg Wx (.BoolOp .And (a :: b :: rest) pos) (dAndV f g) := by
  obtain ⟨t, h1, h2⟩ := h
  obtain ⟨u, g1, g2⟩ := h'
  refine ⟨_, fun i => pe_and (h1 i) (g1 i), ?_⟩
  intro B ρ Q E hf W σ H Q' hh e x q
  refine h2 B ρ _ E hf W σ H _ hh e x fun W1 H1 v d s1 r1 k1 => ?_
  cases r1 with
  | bl c =>
    refine ⟨c, rfl, ?_⟩
    cases c with
    | true =>
      rw [if_pos rfl]
      exact g2 B ρ Q E k1 W1 σ H1 _ s1.holds (e.step s1) (x.step s1) fun W2 H2 v d s2 r2 k2 => q W2 H2 v d (s1.trans s2) r2 k2
    | false =>
      rw [if_neg Bool.false_ne_true]
      exact q W1 H1 _ _ s1 (.bl false) k1
  | _ => exact k1.elim
theorem de_not {a : Expr} {f : DTE} (h : DE Xs mg Wx a f) : DE Xs mg Wx (.UnaryOp .Not a pos) (dNotV f) := by
  obtain ⟨t, h1, h2⟩ := h
  refine ⟨_, fun i => pe_not (h1 i), fun B ρ Q E hf W σ H Q' hh e x q => h2 B ρ _ E hf W σ H _ hh e x fun W1 H1 v d s1 r1 k1 => ?_⟩
  cases r1 with
  | bl c => exact ⟨c, rfl, q W1 H1 _ _ s1 (.bl _) k1⟩
  | _ => exact k1.elim
noncomputable abbrev dIf (c : DTT) (f g : DTE) : DTE := fun ρ Q E => c ρ (fun b => bit b (f ρ Q E) (g ρ Q E)) E
theorem de_if {c a b : Expr} {fc : DTT} {fa fb : DTE} (hc : DT Xs mg Wx c fc) (ha : DE Xs mg Wx a fa) (hb : DE Xs mg Wx b fb) : DE Xs mg Wx (.IfExp c a b pos) (dIf fc fa fb) := by
  obtain ⟨tc, c1, c2⟩ := hc
  obtain ⟨ta, a1, a2⟩ := ha
  obtain ⟨tb, b1, b2⟩ := hb
  refine ⟨_, fun i => pe_ifExp (c1 i) (a1 i) (b1 i), ?_⟩
  intro B ρ Q E hf W σ H Q' hh e x q
  refine c2 B ρ _ E hf W σ H _ hh e x fun W1 H1 c s1 k1 => ?_
  cases c with
  | true =>
    rw [if_pos rfl]
    exact a2 B ρ Q E k1 W1 σ H1 _ s1.holds (e.step s1) (x.step s1) fun W2 H2 v d s2 r2 k2 => q W2 H2 v d (s1.trans s2) r2 k2
  | false =>
    rw [if_neg Bool.false_ne_true]
    exact b2 B ρ Q E k1 W1 σ H1 _ s1.holds (e.step s1) (x.step s1) fun W2 H2 v d s2 r2 k2 => q W2 H2 v d (s1.trans s2) r2 k2
/-! ### arguments, displays -/
noncomputable abbrev dNil : DTA := fun _ Q _ => Q []
noncomputable abbrev dCons (f : DTE) (g : DTA) : DTA := fun ρ Q E => f ρ (fun x => g ρ (fun xs => Q (x :: xs)) E) E
theorem da_nil : DA Xs mg Wx [] dNil := ⟨_, fun _ => pa_nil, fun B ρ Q E h W σ H Q' hh _ _ q => q W H [] [] (Step.refl hh) .nil h⟩
theorem da_cons {e : Expr} {es : List Expr} {f : DTE} {g : DTA} (h : DE Xs mg Wx e f) (h' : DA Xs mg Wx es g) (hs : ∀ i, starEach (e :: es) (Xs i).env = (false, eval e (Xs i).env) :: starEach es (Xs i).env := by intro _; rfl) : DA Xs mg Wx (e :: es) (dCons f g) := by
  obtain ⟨t, h1, h2⟩ := h
  obtain ⟨u, g1, g2⟩ := h'
  refine ⟨_, fun i => pa_cons (h1 i) (g1 i) (hs i), ?_⟩
  intro B ρ Q E hf W σ H Q' hh e x q
  refine h2 B ρ _ E hf W σ H _ hh e x fun W1 H1 v d s1 r1 k1 => ?_
  exact g2 B ρ _ E k1 W1 σ H1 _ s1.holds (e.step s1) (x.step s1) fun W2 H2 vs ds s2 r2 k2 => q W2 H2 _ _ (s1.trans s2) (.cons (r1.mono s2.le) r2) k2
noncomputable abbrev dTup (g : DTA) : DTE := fun ρ Q E => g ρ (fun xs => xs.length ≤ sizeLine ∧ Q (.tup xs)) E
noncomputable abbrev dLst (g : DTA) : DTE := fun ρ Q E => g ρ (fun xs => xs.length ≤ sizeLine ∧ Q (.lst xs)) E
theorem Wd.le_put {W : Wd} {p : Addr} {o : HO} (n : W.H p = none) : Le W (W.put p o) := Wd.put_le n
theorem Rep.newTup {W : Wd} {vs : List V} {ds : List D} {p : Addr} (r : Reps mg W vs ds) (n : W.H p = none) : Rep mg (W.put p (.tup vs)) (.ref p) (.tup ds) :=
  .tup (show upd W.H p _ p = _ from upd_same) (r.mono (Wd.le_put n))
theorem Rep.newLst {W : Wd} {vs : List V} {ds : List D} {p : Addr} (r : Reps mg W vs ds) (n : W.H p = none) : Rep mg (W.put p (.lst vs)) (.ref p) (.lst ds) :=
  .lst (show upd W.H p _ p = _ from upd_same) (r.mono (Wd.le_put n))
/-- what is wanted of a new tuple, of a new list -/
theorem to_tup {W : Wd} {H : Hp} {Q : D → Prop} {Q' : VK} {vs : List V} {ds : List D} (q : ToV mg W H Q Q') (hh : Holds W H) (r : Reps mg W vs ds) (h : Q (.tup ds)) : ∀ p, H p = none → Q' (.ref p) (upd H p (.tup vs)) :=
  fun p n => q _ _ _ _ (Step.alloc hh n) (Rep.newTup r (hh.same.free n)) h
theorem to_lst {W : Wd} {H : Hp} {Q : D → Prop} {Q' : VK} {vs : List V} {ds : List D} (q : ToV mg W H Q Q') (hh : Holds W H) (r : Reps mg W vs ds) (h : Q (.lst ds)) : ∀ p, H p = none → Q' (.ref p) (upd H p (.lst vs)) :=
  fun p n => q _ _ _ _ (Step.alloc hh n) (Rep.newLst r (hh.same.free n)) h
theorem ToV.step {W W1 : Wd} {H H1 : Hp} {Q : D → Prop} {Q' : VK} (q : ToV mg W H Q Q') (s : Step W H W1 H1) : ToV mg W1 H1 Q Q' := fun W' H' v d s' r h => q W' H' v d (s.trans s') r h
theorem de_tup {es : List Expr} {g : DTA} {k : Nat} (h : DA Xs mg Wx es g) : DE Xs mg Wx (.Tuple es k pos) (dTup g) := by
  obtain ⟨t, h1, h2⟩ := h
  refine ⟨_, fun i => pe_tup (h1 i), fun B ρ Q E hf W σ H Q' hh e x q => h2 B ρ _ E hf W σ H _ hh e x fun W1 H1 vs ds s1 r1 k1 => ?_⟩
  exact ⟨by rw [r1.length]; exact k1.1, to_tup (ToV.step q s1) s1.holds r1 k1.2⟩
theorem de_lst {es : List Expr} {g : DTA} (h : DA Xs mg Wx es g) : DE Xs mg Wx (.List es pos) (dLst g) := by
  obtain ⟨t, h1, h2⟩ := h
  refine ⟨_, fun i => pe_lst (h1 i), fun B ρ Q E hf W σ H Q' hh e x q => h2 B ρ _ E hf W σ H _ hh e x fun W1 H1 vs ds s1 r1 k1 => ?_⟩
  exact ⟨by rw [r1.length]; exact k1.1, to_lst (ToV.step q s1) s1.holds r1 k1.2⟩
/-! ### built-in functions and methods by data -/
noncomputable abbrev RDL := List D → (D → Prop) → Prop
noncomputable def CallD (mg : Gm) (r : List V → Hp → VK → Prop) (rd : RDL) : Prop := ∀ W H vs ds Q Q', Holds W H → Reps mg W vs ds → rd ds Q → ToV mg W H Q Q' → r vs H Q'
noncomputable def CallOk (Xs : ι → Cx) (mg : Gm) (f : Value) (rd : RDL) : Prop := ∃ r, (∀ i, CallR (Xs i) f r) ∧ CallD mg r rd
theorem CallOk.mk {f : Value} {rd : RDL} {r : List V → Hp → VK → Prop} (h : ∀ i, CallR (Xs i) f r) (k : ∀ (W : Wd) (H : Hp) (vs : List V) (ds : List D) (Q : D → Prop) (Q' : VK) (P : List V → Prop), Holds W H → Reps mg W vs ds → rd ds Q → ToV mg W H Q Q' → (∀ vs, r vs H Q' → P vs) → P vs) : CallOk Xs mg f rd := ⟨r, h, fun W H vs ds Q Q' hh rs hd q => k W H vs ds Q Q' (fun vs => r vs H Q') hh rs hd q fun _ z => z⟩
noncomputable abbrev dCB (rd : RDL) (g : DTA) : DTE := fun ρ Q E => g ρ (fun ds => rd ds Q) E
theorem Cp.cb {r : List V → Hp → VK → Prop} {rd : RDL} {t : TA} {g : DTA} (c : CallD mg r rd) (h : CpA mg Wx t g) : Cp mg Wx (tCB r t) (dCB rd g) := by
  intro B ρ Q E hf W σ H Q' hh e x q
  refine h B ρ _ E hf W σ H _ hh e x fun W1 H1 vs ds s1 r1 k1 => ?_
  exact c W1 H1 vs ds Q Q' s1.holds r1 k1 (ToV.step q s1)
theorem de_callB {id : String} {rd : RDL} {x : Str} {p : Pos} {e : Expr} {es : List Expr} {g : DTA} (c : CallOk Xs mg (.builtin id) rd) (hm : mg.mg x = none) (hv : bootBuiltins x = some (.builtin id)) (ha : DA Xs mg Wx (e :: es) g)
    (hM : ∀ j, (Xs j).mg = mg.mg := by intro _; rfl) (hg : ∀ j, Gl (Xs j) x := by intro _; rfl) (hn : x ≠ "__name__" := by decide) (hd : (x == ("__debug__" : Str)) = false := by decide)
    (he : ∀ i, starEach (e :: es) (Xs i).env = (false, eval e (Xs i).env) :: starEach es (Xs i).env := by intro _; rfl) (hpl : ∀ i, (backTo pos (starEach es (Xs i).env)).any (·.1) = false := by intro _; rfl) : DE Xs mg Wx (.Call (.Name x p) (e :: es) [] pos) (dCB rd g) := by
  obtain ⟨r, c1, c2⟩ := c
  obtain ⟨t, h1, h2⟩ := ha
  exact ⟨_, fun i => pe_callB (c1 i) (hg i) (by rw [hM i]; exact hm) hv (h1 i) hn hd (he i) (hpl i), Cp.cb c2 h2⟩
theorem de_callTy {T : String} {rd : RDL} {x : Str} {p : Pos} {e : Expr} {es : List Expr} {g : DTA} (c : CallOk Xs mg (.type T) rd) (hm : mg.mg x = none) (hv : bootBuiltins x = some (.type T)) (ha : DA Xs mg Wx (e :: es) g)
    (hM : ∀ j, (Xs j).mg = mg.mg := by intro _; rfl) (hg : ∀ j, Gl (Xs j) x := by intro _; rfl) (hn : x ≠ "__name__" := by decide) (hd : (x == ("__debug__" : Str)) = false := by decide)
    (he : ∀ i, starEach (e :: es) (Xs i).env = (false, eval e (Xs i).env) :: starEach es (Xs i).env := by intro _; rfl) (hpl : ∀ i, (backTo pos (starEach es (Xs i).env)).any (·.1) = false := by intro _; rfl) : DE Xs mg Wx (.Call (.Name x p) (e :: es) [] pos) (dCB rd g) := by
  obtain ⟨r, c1, c2⟩ := c
  obtain ⟨t, h1, h2⟩ := ha
  exact ⟨_, fun i => pe_callTy (c1 i) (hg i) (by rw [hM i]; exact hm) hv (h1 i) hn hd (he i) (hpl i), Cp.cb c2 h2⟩
/-! ### a def's promise; room with no repr under way -/
structure RmG (k : Nat) (A : Around) : Prop where
  r : Room k A
  g : A.guards = some []
theorem RmG.mono {j k : Nat} {A : Around} (x : RmG k A) (h : j ≤ k) : RmG j A := ⟨x.r.mono h, x.g⟩
/-- as FnOk, where no repr is under way -/
structure FnG (P : Program) (w : World) (K : PySem.W.Frag) (mg : Str → Option Value) (base : Heap) (k : Nat) (f : Addr) (fd : FuncData) (ps : List Str) (sp : Sp) : Prop where
  ln : ∀ vs H Q E, sp vs H Q E → vs.length = ps.length
  go : ∀ (A : Around) (out : List PySem.Env) (z : Shared) (H : Hp) (ag : Args) (us : List Value) (vs : List V) (Q : VK) (E : XK), RmG k A → Env0 P w K mg base A out z H → BindsTo z fd ag (ps.zip us) → Vals vs us → sp vs H Q E →
    codeAny (model P w) A (.call (.ref f) ag) (CR (L2.CX P w) out P w H z Q E) z
theorem FnG.of {P : Program} {w : World} {K : PySem.W.Frag} {mg : Str → Option Value} {base : Heap} {k : Nat} {f : Addr} {fd : FuncData} {ps : List Str} {sp : Sp} (F : FnOk P w K mg base (L2.CX P w) k f fd ps sp) : FnG P w K mg base k f fd ps sp :=
  ⟨F.len, fun A out z H ag us vs Q E m => F.run A out z H ag us vs Q E m.r⟩
theorem FnG.up {P : Program} {w : World} {K : PySem.W.Frag} {mg : Str → Option Value} {base : Heap} {j k : Nat} {f : Addr} {fd : FuncData} {ps : List Str} {sp : Sp} (F : FnG P w K mg base j f fd ps sp) (h : j ≤ k) : FnG P w K mg base k f fd ps sp :=
  ⟨F.ln, fun A out z H ag us vs Q E m => F.go A out z H ag us vs Q E (m.mono h)⟩
/-- the callee's run, for a caller -/
theorem goG {X : Cx} {k : Nat} {f : Addr} {fd : FuncData} {ps : List Str} {sp : Sp} {Ew : St → XK} {pins : List (Addr × Obj)} {σ : St} {H : Hp} {z : Shared} {Q : VK} {us : List Value} {vs : List V} (F : FnG X.prog X.w X.K X.mg X.base k f fd ps sp) (m : RmG k X.A) (hb : Binds X.K fd ps []) (hx : PassesAt (L2.CX X.prog X.w) X σ (Ew σ))
    (I : Inv X pins σ H z) (rv : Vals vs us) (h : sp vs H Q (Ew σ)) : wpAny (model X.prog X.w) X.A (call (.ref f) us) (EP X pins σ Q) X.xe z := by
  have hl : (us ++ []).length = ps.length := by
    rw [List.append_nil, ← rv.length]
    exact F.ln _ _ _ _ h
  have bd := hb z us I.kIn hl
  rw [List.append_nil] at bd
  have cd := F.go X.A X.stack z H ⟨us, []⟩ us vs Q (Ew σ) m I.env0 bd rv h
  refine wpAny_call (codeAny_mono cd ?_)
  intro res z' hq
  match res, hq with
  | .error e, hq => exact hx pins H z e z' I hq
  | .ok (.ret u), hq => exact I.after hq
  | .ok .next, hq => exact hq.elim
  | .ok .brk, hq => exact hq.elim
  | .ok .cont, hq => exact hq.elim
theorem pe_callG {X : Cx} {k : Nat} {f : Addr} {fd : FuncData} {ps : List Str} {sp : Sp} {Ew : St → XK} {x : Str} {p pos : Pos} {e : Expr} {es : List Expr} {t : TA} (F : FnG X.prog X.w X.K X.mg X.base k f fd ps sp) (m : RmG k X.A) (gx : Gl X x) (mx : X.mg x = some (.ref f)) (kf : PySem.W.keepIn X.K (.ref f) = true) (hb : Binds X.K fd ps [])
    (hx : ∀ σ, PassesAt (L2.CX X.prog X.w) X σ (Ew σ)) (ha : PA X (e :: es) t) (nd : (x == ("__debug__" : Str)) = false) (s1 : starEach (e :: es) X.env = (false, eval e X.env) :: starEach es X.env) (s2 : (backTo pos (starEach es X.env)).any (·.1) = false) : PE X (.Call (.Name x p) (e :: es) [] pos) (tCallS sp Ew t) := by
  constructor
  intro pins z σ H Q I hw
  apply wpAny_Call_Name_kw
  apply ld_glob I gx mx _ nd
  apply PySem.W.callWith_K (h₀ := X.base) I.ok.mod.kin kf _ s1 s2
  refine thn (ha.run pos pins z σ H _ I hw) ?_
  rintro us z1 ⟨vs, H1, I1, rv, q⟩
  exact ⟨I1.kIn, goG F m hb (hx σ) I1 rv q⟩
noncomputable def spD (mg : Gm) (n : Nat) (f : List D → M D) : Sp := fun vs H Q E => ∃ W ds Qd Ed, Holds W H ∧ Reps mg W vs ds ∧ ds.length = n ∧ f ds Qd Ed ∧ ToV mg W H Qd Q ∧ ∀ W' H' cls dd x, Step W H W' H' → RepX mg W' H' cls dd x → Ed x → E cls dd H'
/-- what a callee lets out is taken -/
noncomputable def Pas (X : Cx) (W : WX) : Prop := ∀ σ, PassesAt (L2.CX X.prog X.w) X σ (WE W σ)
theorem pas {X : Cx} {W : WX} (tk : Takes X W) : Pas X W := fun σ => passAt tk σ
structure DefOk (P : Program) (w : World) (mg : Gm) (base : Heap) (k : Nat) (x : Str) (n : Nat) (f : List D → M D) : Prop where
  ex : ∃ fa fd ps, mg.mg x = some (.ref fa) ∧ PySem.W.keepIn mg.K (.ref fa) = true ∧ Binds mg.K fd ps [] ∧ ps.length = n ∧ FnG P w mg.K mg.mg base k fa fd ps (spD mg n f)
noncomputable abbrev dCall (f : List D → M D) (n : Nat) (g : DTA) : DTE := fun ρ Q E => g ρ (fun ds => ds.length = n ∧ f ds Q E) E
theorem Cp.call {n : Nat} {f : List D → M D} {t : TA} {g : DTA} (h : CpA mg Wx t g) : Cp mg Wx (tCallS (spD mg n f) (WE Wx) t) (dCall f n g) := by
  intro B ρ Q E hf W σ H Q' hh e x q
  refine h B ρ _ E hf W σ H _ hh e x fun W1 H1 vs ds s1 r1 k1 => ?_
  exact ⟨W1, ds, Q, E, s1.holds, r1, k1.1, k1.2, ToV.step q s1, fun W' H' cls dd y s' r h => x W' H' cls dd y (s1.trans s') r h⟩
theorem de_call {P : Program} {w : World} {base : Heap} {k n : Nat} {x : Str} {f : List D → M D} {p : Pos} {e : Expr} {es : List Expr} {g : DTA} (F : DefOk P w mg base k x n f) (hr : ∀ i, RmG k (Xs i).A) (tk : ∀ i, Pas (Xs i) Wx) (ha : DA Xs mg Wx (e :: es) g)
    (hP : ∀ j, (Xs j).prog = P ∧ (Xs j).w = w ∧ (Xs j).K = mg.K ∧ (Xs j).mg = mg.mg ∧ (Xs j).base = base := by intro _; exact ⟨rfl, rfl, rfl, rfl, rfl⟩) (hg : ∀ j, Gl (Xs j) x := by intro _; rfl) (hd : (x == ("__debug__" : Str)) = false := by decide)
    (he : ∀ i, starEach (e :: es) (Xs i).env = (false, eval e (Xs i).env) :: starEach es (Xs i).env := by intro _; rfl) (hpl : ∀ i, (backTo pos (starEach es (Xs i).env)).any (·.1) = false := by intro _; rfl) : DE Xs mg Wx (.Call (.Name x p) (e :: es) [] pos) (dCall f n g) := by
  obtain ⟨fa, fd, ps, hm, hk, hb, hl, G⟩ := F.ex
  obtain ⟨t, h1, h2⟩ := ha
  refine ⟨_, fun i => ?_, Cp.call (f := f) (n := n) h2⟩
  obtain ⟨p1, p2, p3, p4, p5⟩ := hP i
  subst p1 p2 p5
  exact pe_callG (by rw [p3, p4]; exact G) (hr i) (hg i) (by rw [p4]; exact hm) (by rw [p3]; exact hk) (by rw [p3]; exact hb) (fun σ => tk i σ) (h1 i) hd (he i) (hpl i)
end
/-! ### inversions -/
theorem intOf {d : D} {P : Int → Prop} (h : match d with | .int i => P i | _ => False) : ∃ i, d = .int i ∧ P i := by
  cases d with
  | int i => exact ⟨i, rfl, h⟩
  | _ => exact False.elim h
theorem strOf {d : D} {P : Str → Prop} (h : match d with | .str i => P i | _ => False) : ∃ i, d = .str i ∧ P i := by
  cases d with
  | str i => exact ⟨i, rfl, h⟩
  | _ => exact False.elim h
theorem lstOf {d : D} {P : List D → Prop} (h : match d with | .lst i => P i | _ => False) : ∃ i, d = .lst i ∧ P i := by
  cases d with
  | lst i => exact ⟨i, rfl, h⟩
  | _ => exact False.elim h
theorem dctOf {d : D} {P : List (Key × D) → Prop} (h : match d with | .dct i => P i | _ => False) : ∃ i, d = .dct i ∧ P i := by
  cases d with
  | dct i => exact ⟨i, rfl, h⟩
  | _ => exact False.elim h
theorem insOf {d : D} {P : Str → List (Str × D) → Prop} (h : match d with | .ins c fs => P c fs | _ => False) : ∃ c fs, d = .ins c fs ∧ P c fs := by
  cases d with
  | ins c fs => exact ⟨c, fs, rfl, h⟩
  | _ => exact False.elim h
section
variable {mg : Gm} {W : Wd} {v : V}
theorem Rep.inv {d : D} (r : Rep mg W v d) : (match d with
  | .int i => v = .int i
  | .str i => v = .str i
  | .bl i => v = .bl i
  | .lst ds => ∃ a vs, v = .ref a ∧ W.H a = some (.lst vs) ∧ Reps mg W vs ds
  | .tup ds => ∃ a vs, v = .ref a ∧ W.H a = some (.tup vs) ∧ Reps mg W vs ds
  | .dct ds => ∃ a o kvs, v = .ref a ∧ W.H a = some (.frz o (.dK kvs)) ∧ kvs.map (·.1) = ds.map (·.1) ∧ Reps mg W (kvs.map (·.2)) (ds.map (·.2))
  | .dn kvs => ∃ a w es ep, v = .ref a ∧ Tabl.w = some w ∧ W.H a = some (nO w a es ep) ∧ es.map (fun e => some e.1) = kvs.map (fun p => nkD p.1) ∧ Reps mg W (es.map fun e => .ref e.2.1) (kvs.map (·.1)) ∧ Reps mg W (es.map (·.2.2)) (kvs.map (·.2))
  | .ins c ds => ∃ a C dx fs, v = .ref a ∧ mg.mg c = some (.ref C) ∧ W.H a = some (.ins C dx fs) ∧ fs.map (·.1) = ds.map (·.1) ∧ Reps mg W (fs.map (·.2)) (ds.map (·.2))
  | _ => True) := by
  cases r with
  | int => rfl
  | str => rfl
  | bl => rfl
  | lst h r => exact ⟨_, _, rfl, h, r⟩
  | tup h r => exact ⟨_, _, rfl, h, r⟩
  | dct h k r => exact ⟨_, _, _, rfl, h, k, r⟩
  | dn t h k r1 r2 => exact ⟨_, _, _, _, rfl, t, h, k, r1, r2⟩
  | ins h h2 k r => exact ⟨_, _, _, _, rfl, h, h2, k, r⟩
  | _ => exact True.intro
theorem Rep.intI {i : Int} (r : Rep mg W v (.int i)) : v = .int i := r.inv
theorem Rep.strI {i : Str} (r : Rep mg W v (.str i)) : v = .str i := r.inv
theorem Rep.lstI {ds : List D} (r : Rep mg W v (.lst ds)) : ∃ a vs, v = .ref a ∧ W.H a = some (.lst vs) ∧ Reps mg W vs ds := r.inv
theorem Rep.tupI {ds : List D} (r : Rep mg W v (.tup ds)) : ∃ a vs, v = .ref a ∧ W.H a = some (.tup vs) ∧ Reps mg W vs ds := r.inv
theorem Rep.dctI {ds : List (Key × D)} (r : Rep mg W v (.dct ds)) : ∃ a o kvs, v = .ref a ∧ W.H a = some (.frz o (.dK kvs)) ∧ kvs.map (·.1) = ds.map (·.1) ∧ Reps mg W (kvs.map (·.2)) (ds.map (·.2)) := r.inv
theorem Rep.insI {c : Str} {ds : List (Str × D)} (r : Rep mg W v (.ins c ds)) : ∃ a C dx fs, v = .ref a ∧ mg.mg c = some (.ref C) ∧ W.H a = some (.ins C dx fs) ∧ fs.map (·.1) = ds.map (·.1) ∧ Reps mg W (fs.map (·.2)) (ds.map (·.2)) := r.inv
end
end FP
/-! FP3: statements, targets, what is walked, loops, comprehensions, a def by its body. -/
namespace FP
open PySem L2
variable [Tabl]
section
variable {ι : Type} {Xs : ι → Cx} {mg : Gm} {Wx : WX} {pos : Pos}
/-! ### blocks, small statements -/
noncomputable abbrev dNext : DTS := fun N ρ => N.nx ρ
noncomputable abbrev dSeq (f g : DTS) : DTS := fun N ρ => f { N with nx := g N } ρ
theorem dss_nil : DSs Xs mg Wx [] dNext := ⟨_, fun _ => pss_nil, fun W0 B N ρ h W σ H Ds s e n => n.nx W H σ ρ s e h⟩
theorem EndsR.nxt {W0 : Wd} {B : Hp} {N : Nd} {Ds : Ends} {nx : Env → Prop} {nx' : St → Hp → Prop} (n : EndsR mg Wx W0 B N Ds) (h : ∀ W' H' σ' ρ', Step W0 B W' H' → EnvR mg B W' H' σ' ρ' → nx ρ' → nx' σ' H') : EndsR mg Wx W0 B { N with nx := nx } { Ds with nx := nx' } := ⟨h, n.rt, n.bk, n.ct, n.rs⟩
theorem EndsR.rebase {W0 W : Wd} {B H : Hp} {N : Nd} {Ds : Ends} (n : EndsR mg Wx W0 B N Ds) (s : Step W0 B W H) : EndsR mg Wx W B N Ds :=
  ⟨fun W' H' σ' ρ' s' => n.nx W' H' σ' ρ' (s.join s'), fun W' H' σ' ρ' v d s' => n.rt W' H' σ' ρ' v d (s.join s'), fun W' H' σ' ρ' s' => n.bk W' H' σ' ρ' (s.join s'), fun W' H' σ' ρ' s' => n.ct W' H' σ' ρ' (s.join s'), fun W' H' σ' ρ' c d x s' => n.rs W' H' σ' ρ' c d x (s.join s')⟩
theorem dss_cons {st : Stmt} {rest : List Stmt} {f g : DTS} (h : DS Xs mg Wx st f) (h' : DSs Xs mg Wx rest g) : DSs Xs mg Wx (st :: rest) (dSeq f g) := by
  obtain ⟨t, h1, h2⟩ := h
  obtain ⟨u, g1, g2⟩ := h'
  refine ⟨_, fun i => pss_cons (h1 i) (g1 i), fun W0 B N ρ hf W σ H Ds s e n => ?_⟩
  exact h2 W0 B _ ρ hf W σ H _ s e (n.nxt fun W' H' σ' ρ' s' e' k => g2 W0 B N ρ' k W' σ' H' Ds s' e' n)
theorem dss_one {st : Stmt} {f : DTS} (h : DS Xs mg Wx st f) : DSs Xs mg Wx [st] f := by
  obtain ⟨t, h1, h2⟩ := h
  exact ⟨t, fun i => pss_one (h1 i), h2⟩
noncomputable abbrev dDrop (f : DTE) : DTS := fun N ρ => f ρ (fun _ => N.nx ρ) (fun x => N.rs x ρ)
theorem ds_expr {e : Expr} {f : DTE} (h : DE Xs mg Wx e f) (hs : ∀ i, swapsWith e none pos.line (Xs i).env = pure false := by intro _; rfl) : DS Xs mg Wx (.Expr e pos) (dDrop f) := by
  obtain ⟨t, h1, h2⟩ := h
  refine ⟨_, fun i => ps_expr (h1 i) (hs i), fun W0 B N ρ hf W σ H Ds s e n => ?_⟩
  exact h2 B ρ _ _ hf W σ H _ s.holds e (n.ex s e) fun W1 H1 v d s1 r1 k1 => n.nx W1 H1 σ ρ (s.trans s1) (e.step s1) k1
noncomputable abbrev dRet (f : DTE) : DTS := fun N ρ => f ρ (fun d => N.rt d ρ) (fun x => N.rs x ρ)
theorem ds_ret {e : Expr} {f : DTE} (h : DE Xs mg Wx e f) : DS Xs mg Wx (.Return (some e) pos) (dRet f) := by
  obtain ⟨t, h1, h2⟩ := h
  refine ⟨_, fun i => ps_ret (h1 i), fun W0 B N ρ hf W σ H Ds s e n => ?_⟩
  exact h2 B ρ _ _ hf W σ H _ s.holds e (n.ex s e) fun W1 H1 v d s1 r1 k1 => n.rt W1 H1 σ ρ v d (s.trans s1) (e.step s1) r1 k1
noncomputable abbrev dRetN : DTS := fun N ρ => N.rt .non ρ
noncomputable abbrev dIfS (c : DTT) (f g : DTS) : DTS := fun N ρ => c ρ (fun b => bit b (f N ρ) (g N ρ)) (fun x => N.rs x ρ)
theorem ds_if {c : Expr} {a b : List Stmt} {fc : DTT} {f g : DTS} (hc : DT Xs mg Wx c fc) (ha : DSs Xs mg Wx a f) (hb : DSs Xs mg Wx b g) : DS Xs mg Wx (.If c a b pos) (dIfS fc f g) := by
  obtain ⟨tc, c1, c2⟩ := hc
  obtain ⟨ta, a1, a2⟩ := ha
  obtain ⟨tb, b1, b2⟩ := hb
  refine ⟨_, fun i => ps_if (c1 i) (a1 i) (b1 i), fun W0 B N ρ hf W σ H Ds s e n => ?_⟩
  refine c2 B ρ _ _ hf W σ H _ s.holds e (n.ex s e) fun W1 H1 k s1 k1 => ?_
  cases k with
  | true =>
    rw [if_pos rfl]
    exact a2 W0 B N ρ k1 W1 σ H1 Ds (s.trans s1) (e.step s1) n
  | false =>
    rw [if_neg Bool.false_ne_true]
    exact b2 W0 B N ρ k1 W1 σ H1 Ds (s.trans s1) (e.step s1) n
noncomputable abbrev dSet (i : Nat) (f : DTE) : DTS := fun N ρ => f ρ (fun d => N.nx (ρ.set i (.d d))) (fun x => N.rs x ρ)
theorem ds_set {i : Nat} {x : Str} {e : Expr} {f : DTE} {pos' : Pos} (h : DE Xs mg Wx e f) (hN : ∀ j, (Xs j).N.Nodup) (hi : ∀ j, (Xs j).N[i]? = some x := by intro _; rfl) (hx : ∀ j, Loc (Xs j).env.scope x := by intro _; first | exact Or.inl rfl | exact Or.inr rfl)
    (hs : ∀ j, swapsWith e (some (.Name x pos')) pos.line (Xs j).env = pure false := by intro _; rfl) (hf : ∀ j, (Xs j).fn x = true ∨ (Xs j).env.scope.names.lookup x = some .local := by intro _; first | exact .inl rfl | exact .inr rfl) : DS Xs mg Wx (.Assign [.Name x pos'] e pos) (dSet i f) := by
  obtain ⟨t, h1, h2⟩ := h
  refine ⟨_, fun j => ps_set (i := i) (hN j) (hi j) (hx j) (h1 j) (hs j) (hf j), fun W0 B N ρ hf W σ H Ds s e n => ?_⟩
  exact h2 B ρ _ _ hf W σ H _ s.holds e (n.ex s e) fun W1 H1 v d s1 r1 k1 => n.nx W1 H1 _ _ (s.trans s1) ((e.step s1).set r1) k1
/-! ### targets -/
inductive Tg where
  | one (i : Nat) | many (is : List Nat) | manyL (is : List Nat)
noncomputable def putAll : List Nat → List D → Env → Option Env
  | [], [], ρ => some ρ
  | i :: is, d :: ds, ρ => putAll is ds (ρ.set i (.d d))
  | _, _, _ => none
noncomputable def Tg.put : Tg → D → Env → Option Env
  | .one i, d, ρ => some (ρ.set i (.d d))
  | .many is, .tup ds, ρ => putAll is ds ρ
  | .many _, _, _ => none
  | .manyL is, .lst ds, ρ => putAll is ds ρ
  | .manyL _, _, _ => none
noncomputable def Tg.slots : Tg → List Nat
  | .one i => [i]
  | .many is => is
  | .manyL is => is
theorem wipe_set_in {σ : St} {i : Nat} {o : Option V} : ∀ {vs : List Nat}, i ∈ vs → wipe (σ.set i o) vs = wipe σ vs
  | [], h => by cases h
  | v :: vs, h => by
    unfold wipe
    by_cases hi : i ∈ vs
    · rw [wipe_set_in hi]
    · have e : i = v := by
        rcases List.mem_cons.mp h with q | q
        · exact q
        · exact absurd q hi
      subst e
      have out : ∀ ws : List Nat, wipe (σ.set i o) ws = wipe σ ws ∨ ∃ o', wipe (σ.set i o) ws = (wipe σ ws).set i o' := by
        intro ws
        induction ws with
        | nil => exact .inr ⟨o, rfl⟩
        | cons w ws ih =>
          unfold wipe
          rcases ih with ih | ⟨o', ih⟩
          · rw [ih]
            exact .inl rfl
          · rw [ih]
            by_cases hw : w = i
            · subst hw
              rw [List.set_set]
              exact .inl rfl
            · exact .inr ⟨o', by rw [List.set_comm _ _ (Ne.symm hw)]⟩
      rcases out vs with q | ⟨o', q⟩
      · rw [q]
      · rw [q, List.set_set]
theorem wipe_wipe (σ : St) (vs : List Nat) : L2.wipe (L2.wipe σ vs) vs = L2.wipe σ vs := by
  have key : ∀ (us ws : List Nat) (τ : St), (∀ i ∈ ws, i ∈ us) → L2.wipe (L2.wipe τ ws) us = L2.wipe τ us := by
    intro us ws
    induction ws with
    | nil => intro τ _; rfl
    | cons w ws ih =>
      intro τ h
      show L2.wipe ((L2.wipe τ ws).set w none) us = _
      rw [wipe_set_in (h w List.mem_cons_self)]
      exact ih τ fun i hi => h i (List.mem_cons_of_mem _ hi)
  exact key vs vs σ fun _ h => h
noncomputable def CpG (mg : Gm) (g : TG) (T : Tg) : Prop := ∀ B W H x d σ ρ ρ' Q', Holds W H → Rep mg W x d → EnvR mg B W H σ ρ → T.put d ρ = some ρ' → (∀ σ', EnvR mg B W H σ' ρ' → (∀ vs : List Nat, (∀ i ∈ T.slots, i ∈ vs) → wipe σ' vs = wipe σ vs) → Q' σ' H) → g x σ H Q'
noncomputable def CpGs (mg : Gm) (g : TGs) (is : List Nat) : Prop := ∀ B W H xs ds σ ρ ρ' Q', Holds W H → Reps mg W xs ds → EnvR mg B W H σ ρ → putAll is ds ρ = some ρ' → (∀ σ', EnvR mg B W H σ' ρ' → (∀ vs : List Nat, (∀ i ∈ is, i ∈ vs) → wipe σ' vs = wipe σ vs) → Q' σ' H) → g xs σ H Q'
noncomputable def DG (Xs : ι → Cx) (mg : Gm) (tg : Expr) (T : Tg) : Prop := ∃ g, (∀ i, PG (Xs i) tg g) ∧ CpG mg g T
noncomputable def DGs (Xs : ι → Cx) (mg : Gm) (tgs : List Expr) (is : List Nat) : Prop := ∃ g, (∀ i, PGs (Xs i) tgs g) ∧ CpGs mg g is
theorem CpG.name {i : Nat} : CpG mg (gName i) (.one i) := fun B W H x d σ ρ ρ' Q' hh r e h q => by
  cases h
  exact q _ (e.set r) fun vs hv => wipe_set_in (hv i (List.mem_singleton.mpr rfl))
theorem pg_nm {i : Nat} {x : Str} (hN : ∀ j, (Xs j).N.Nodup) (hi : ∀ j, (Xs j).N[i]? = some x) (hx : ∀ j, Loc (Xs j).env.scope x) (hf : ∀ j, (Xs j).fn x = true ∨ (Xs j).env.scope.names.lookup x = some .local) : ∀ j, PG (Xs j) (.Name x pos) (gName i) := fun j => pg_name (hN j) (hi j) (hx j) (hf j)
theorem dg_name {i : Nat} {x : Str} (hN : ∀ j, (Xs j).N.Nodup) (hi : ∀ j, (Xs j).N[i]? = some x := by intro _; rfl) (hx : ∀ j, Loc (Xs j).env.scope x := by intro _; first | exact Or.inl rfl | exact Or.inr rfl)
    (hf : ∀ j, (Xs j).fn x = true ∨ (Xs j).env.scope.names.lookup x = some .local := by intro _; first | exact .inl rfl | exact .inr rfl) : DG Xs mg (.Name x pos) (.one i) := ⟨_, pg_nm hN hi hx hf, CpG.name⟩
theorem dgs_nil : DGs Xs mg [] [] := ⟨_, fun _ => pgs_nil, fun B W H xs ds σ ρ ρ' Q' hh r e h q => by
  cases r with
  | nil =>
    cases h
    exact ⟨rfl, q σ e fun _ _ => rfl⟩
  | cons => cases h⟩
theorem dgs_cons {i : Nat} {is : List Nat} {e : Expr} {es : List Expr} (h : DG Xs mg e (.one i)) (h' : DGs Xs mg es is) (hs : ∀ j, (assignEach (e :: es) (Xs j).env).map (·.2) = assign e (Xs j).env :: (assignEach es (Xs j).env).map (·.2) := by intro _; rfl) : DGs Xs mg (e :: es) (i :: is) := by
  obtain ⟨g, h1, h2⟩ := h
  obtain ⟨gs, g1, g2⟩ := h'
  refine ⟨_, fun j => pgs_cons (h1 j) (g1 j) (hs j), fun B W H xs ds σ ρ ρ' Q' hh r e h q => ?_⟩
  cases r with
  | nil => cases h
  | cons r1 rs =>
    refine ⟨_, _, rfl, h2 B W H _ _ σ ρ _ _ hh r1 e rfl fun σ1 e1 w1 => ?_⟩
    exact g2 B W H _ _ σ1 _ ρ' Q' hh rs e1 h fun σ2 e2 w2 => q σ2 e2 fun vs hv => (w2 vs fun j hj => hv j (List.mem_cons_of_mem _ hj)).trans (w1 vs fun j hj => hv j (by
      rw [List.mem_singleton.mp hj]
      exact List.mem_cons_self))
theorem putAll_len : ∀ {is : List Nat} {ds : List D} {ρ ρ' : Env}, putAll is ds ρ = some ρ' → ds.length = is.length
  | [], [], _, _, _ => rfl
  | _ :: is, _ :: ds, _, _, h => congrArg (· + 1) (putAll_len (is := is) (ds := ds) h)
  | [], _ :: _, _, _, h => by cases h
  | _ :: _, [], _, _, h => by cases h
theorem dg_tup {es : List Expr} {k : Nat} {is : List Nat} (h : DGs Xs mg es is) (hc : ∀ j, (Xs j).calm = true := by intro _; rfl) (hK : ∀ j, (Xs j).K = mg.K := by intro _; rfl) (hn : ∀ j, (assignEach es (Xs j).env).length = is.length := by intro _; rfl) (hst : ∀ j, (assignEach es (Xs j).env).findIdx? (·.1) = none := by intro _; rfl) : DG Xs mg (.Tuple es k pos) (.many is) := by
  obtain ⟨g, h1, h2⟩ := h
  refine ⟨gTup mg.K is.length g, fun j => by
    have z := pg_tup (pos := pos) (k := k) (n := is.length) (hc j) (h1 j) (hn j) (hst j)
    rw [hK j] at z
    exact z, fun B W H x d σ ρ ρ' Q' hh r e h q => ?_⟩
  cases r with
  | tup ha rs => exact ⟨_, _, rfl, SqT.of (hh.same _ _ ha), by rw [rs.length]; exact putAll_len h, h2 B W H _ _ σ ρ ρ' Q' hh rs e h q⟩
  | _ => cases h
noncomputable abbrev dAsg (T : Tg) (f : DTE) : DTS := fun N ρ => f ρ (fun d => ∃ ρ', T.put d ρ = some ρ' ∧ N.nx ρ') (fun x => N.rs x ρ)
theorem ds_asg {tg e : Expr} {f : DTE} {T : Tg} (h : DE Xs mg Wx e f) (g : DG Xs mg tg T) (hs : ∀ j, swapsWithSole [tg] e pos.line (Xs j).env = pure false := by intro _; rfl) (hw : ∀ j, swappedStores [tg] e (Xs j).env = pure none := by intro _; rfl)
    (ha : ∀ j, (assignEach [tg] (Xs j).env).map (·.2) = [assign tg (Xs j).env] := by intro _; rfl) : DS Xs mg Wx (.Assign [tg] e pos) (dAsg T f) := by
  obtain ⟨t, h1, h2⟩ := h
  obtain ⟨u, g1, g2⟩ := g
  refine ⟨_, fun j => ps_asg (h1 j) (g1 j) (hs j) (hw j) (ha j), fun W0 B N ρ hf W σ H Ds s e n => ?_⟩
  refine h2 B ρ _ _ hf W σ H _ s.holds e (n.ex s e) fun W1 H1 v d s1 r1 k1 => ?_
  obtain ⟨ρ', k2, k3⟩ := k1
  exact g2 B W1 H1 v d σ ρ ρ' _ s1.holds r1 (e.step s1) k2 fun σ' e' _ => n.nx W1 H1 σ' ρ' (s.trans s1) e' k3
/-! ### what is walked -/
noncomputable def WalkD (mg : Gm) (W : Wd) (J : It) (ds : List D) : Prop := ∀ W1 H1, Le W W1 → Holds W1 H1 → (∀ i, i < ds.length → J.go i H1) ∧ J.stop ds.length H1 ∧ ∀ i x H2, i < ds.length → J.yld i H1 x H2 → ∃ W2 d, Step W1 H1 W2 H2 ∧ ds[i]? = some d ∧ Rep mg W2 x d
noncomputable def CpI (mg : Gm) (Wx : WX) (w : TI) (f : DTI) : Prop := ∀ B ρ Q E, f ρ Q E → ∀ W σ H Q', Holds W H → EnvR mg B W H σ ρ → ExR mg Wx W H σ E → (∀ W' H' J ds, Step W H W' H' → WalkD mg W' J ds → Q ds → Q' J H') → w σ H Q'
noncomputable def DI (Xs : ι → Cx) (mg : Gm) (Wx : WX) (tg e : Expr) (f : DTI) : Prop := ∃ w, (∀ i, PI (Xs i) tg e w) ∧ CpI mg Wx w f
/-- a walk that leaves the heap as it was -/
theorem WalkD.of {W : Wd} {J : It} {ds : List D} {G : Hp → Prop} {vs : Nat → Option V} (w : L2.Walk J ds.length G (fun i H x H' => H' = H ∧ vs i = some x)) (hG : ∀ W1 H1, Le W W1 → Holds W1 H1 → G H1) (hv : ∀ i x, i < ds.length → vs i = some x → ∃ d, ds[i]? = some d ∧ Rep mg W x d) : WalkD mg W J ds := by
  intro W1 H1 l hh
  refine ⟨fun i hi => w.goes i H1 hi (hG W1 H1 l hh), w.stops H1 (hG W1 H1 l hh), fun i x H2 hi y => ?_⟩
  obtain ⟨e, hx⟩ := w.yields i H1 x H2 hi (hG W1 H1 l hh) y
  subst e
  obtain ⟨d, h1, h2⟩ := hv i x hi hx
  exact ⟨W1, d, Step.refl hh, h1, h2.mono l⟩
noncomputable abbrev dIList (f : DTE) : DTI := fun ρ Q E => f ρ (fun x => match x with
  | .lst ds => Q ds
  | .fz ds => Q ds
  | _ => False) E
theorem WalkD.list {W : Wd} {H : Hp} {a : Addr} {vs : List V} {ds : List D} (r : Reps mg W vs ds) (h : ∀ W1 H1, Le W W1 → Holds W1 H1 → SqL mg.K H1 a vs) : WalkD mg W (Itl mg.K a) ds := by
  have e := r.length
  have w := walk_list (K := mg.K) (a := a) (xs := vs)
  rw [e] at w
  exact WalkD.of (vs := fun i => vs[i]?) w h fun i x hi hx => r.getV hx
theorem di_list {tg e : Expr} {f : DTE} (h : DE Xs mg Wx e f) (hK : ∀ j, (Xs j).K = mg.K := by intro _; rfl) : DI Xs mg Wx tg e (dIList f) := by
  obtain ⟨t, h1, h2⟩ := h
  refine ⟨iList mg.K t, fun j => by
    have z := pi_list (tg := tg) (h1 j)
    rw [hK j] at z
    exact z, fun B ρ Q E hf W σ H Q' hh e x q => ?_⟩
  refine h2 B ρ _ E hf W σ H _ hh e x fun W1 H1 v d s1 r1 k1 => ?_
  cases r1 with
  | lst ha rs => exact ⟨_, rfl, ⟨_, SqL.of (s1.holds.same _ _ ha)⟩, q W1 H1 _ _ s1 (WalkD.list (H := H1) rs fun W2 H2 l hh => SqL.of (hh.same _ _ (l.h _ _ ha))) k1⟩
  | fz ha rs => exact ⟨_, rfl, ⟨_, s1.holds.same.seq ha⟩, q W1 H1 _ _ s1 (WalkD.list (H := H1) rs fun W2 H2 l hh => hh.same.seq (l.h.seq ha)) k1⟩
  | _ => exact k1.elim
noncomputable abbrev dITup (f : DTE) : DTI := fun ρ Q E => f ρ (fun x => match x with
  | .tup ds => Q ds
  | _ => False) E
theorem di_tup {tg e : Expr} {f : DTE} (h : DE Xs mg Wx e f) (hK : ∀ j, (Xs j).K = mg.K := by intro _; rfl) : DI Xs mg Wx tg e (dITup f) := by
  obtain ⟨t, h1, h2⟩ := h
  refine ⟨iTup mg.K t, fun j => by
    have z := pi_tup (tg := tg) (h1 j)
    rw [hK j] at z
    exact z, fun B ρ Q E hf W σ H Q' hh e x q => ?_⟩
  refine h2 B ρ _ E hf W σ H _ hh e x fun W1 H1 v d s1 r1 k1 => ?_
  cases r1 with
  | @tup a vs ds ha rs =>
    refine ⟨_, rfl, ⟨_, SqT.of (s1.holds.same _ _ ha)⟩, q W1 H1 _ ds s1 ?_ k1⟩
    have w := walk_tup (K := mg.K) (a := a) (xs := vs)
    rw [rs.length] at w
    exact WalkD.of (vs := fun i => vs[i]?) w (fun W2 H2 l hh => SqT.of (hh.same _ _ (l.h _ _ ha))) fun i x hi hx => rs.getV hx
  | _ => exact k1.elim
/-- the signs of a text -/
noncomputable def signsD (x : Str) : List D := x.cps.toList.map fun c => .str ⟨#[c]⟩
theorem signsD_len (x : Str) : (signsD x).length = x.cps.size := by simp [signsD]
noncomputable abbrev dIStr (f : DTE) : DTI := fun ρ Q E => f ρ (fun x => match x with
  | .str z => Q (signsD z)
  | _ => False) E
theorem di_str {tg e : Expr} {f : DTE} (h : DE Xs mg Wx e f) : DI Xs mg Wx tg e (dIStr f) := by
  obtain ⟨t, h1, h2⟩ := h
  refine ⟨iStr t, fun j => pi_str (h1 j), fun B ρ Q E hf W σ H Q' hh e x q => ?_⟩
  refine h2 B ρ _ E hf W σ H _ hh e x fun W1 H1 v d s1 r1 k1 => ?_
  cases r1 with
  | str z =>
    refine ⟨z, rfl, q W1 H1 _ _ s1 (fun W2 H2 l hh => ?_) k1⟩
    have w := walk_str (z := z)
    refine ⟨fun i hi => w.goes i H2 (by rw [← signsD_len]; exact hi) True.intro, by rw [signsD_len]; exact w.stops H2 True.intro, fun i x H3 hi y => ?_⟩
    obtain ⟨e, c, hc, hx⟩ := w.yields i H2 x H3 (by rw [← signsD_len]; exact hi) True.intro y
    subst e hx
    refine ⟨W2, _, Step.refl hh, ?_, .str _⟩
    unfold signsD
    rw [List.getElem?_map, Array.getElem?_toList, hc]
    rfl
  | _ => exact k1.elim
noncomputable def rangeD (lo : Int) (n : Nat) : List D := (List.range n).map fun (i : Nat) => D.int (lo + i)
theorem rangeD_len (lo : Int) (n : Nat) : (rangeD lo n).length = n := by simp [rangeD]
theorem WalkD.range {W : Wd} {lo : Int} {n : Nat} : WalkD mg W (Itr lo n) (rangeD lo n) := by
  intro W1 H1 l hh
  have w := walk_range (lo := lo) (n := n)
  refine ⟨fun i hi => w.goes i H1 (by rw [rangeD_len] at hi; exact hi) True.intro, by rw [rangeD_len]; exact w.stops H1 True.intro, fun i x H3 hi y => ?_⟩
  rw [rangeD_len] at hi
  obtain ⟨e, hx⟩ := w.yields i H1 x H3 hi True.intro y
  subst e hx
  refine ⟨W1, _, Step.refl hh, ?_, .int _⟩
  unfold rangeD
  rw [List.getElem?_map, List.getElem?_range hi]
  rfl
noncomputable abbrev dIRng1 (g : DTA) : DTI := fun ρ Q E => g ρ (fun ds => match ds with
  | [.int j] => -(2 ^ 62) ≤ j ∧ j < 2 ^ 62 ∧ Q (rangeD 0 j.toNat)
  | _ => False) E
theorem di_range1 {tg a : Expr} {p : Pos} {g : DTA} (hm : mg.mg "range" = none) (h : DA Xs mg Wx [a] g) (hM : ∀ j, (Xs j).mg = mg.mg := by intro _; rfl) (hg : ∀ j, Gl (Xs j) "range" := by intro _; rfl) (hs : ∀ j, starEach [a] (Xs j).env = [(false, eval a (Xs j).env)] := by intro _; rfl) :
    DI Xs mg Wx tg (.Call (.Name "range" p) [a] [] pos) (dIRng1 g) := by
  obtain ⟨t, h1, h2⟩ := h
  refine ⟨iRng1 t, fun j => pi_range1 (hg j) (by rw [hM j]; exact hm) (h1 j) (hs j), fun B ρ Q E hf W σ H Q' hh e x q => ?_⟩
  refine h2 B ρ _ E hf W σ H _ hh e x fun W1 H1 vs ds s1 r1 k1 => ?_
  split at k1
  · rename_i j
    cases r1 with
    | cons r rs =>
      cases r
      cases rs
      exact ⟨j, rfl, k1.1, k1.2.1, q W1 H1 _ _ s1 WalkD.range k1.2.2⟩
  · exact k1.elim
/-! ### for -/
noncomputable def forD (T : Tg) (f : DTS) (N : Nd) : List D → Env → Prop
  | [], ρ => N.nx ρ
  | d :: ds, ρ => ∃ ρ1, T.put d ρ = some ρ1 ∧ f { N with nx := forD T f N ds, ct := forD T f N ds, bk := N.nx } ρ1
noncomputable abbrev dFor (w : DTI) (T : Tg) (f : DTS) : DTS := fun N ρ => w ρ (fun ds => forD T f N ds ρ) (fun x => N.rs x ρ)
theorem ds_for {tg iter : Expr} {body : List Stmt} {w : DTI} {T : Tg} {f : DTS} (hi : DI Xs mg Wx tg iter w) (hg : DG Xs mg tg T) (hb : DSs Xs mg Wx body f) (hp : ∀ j, PassesOwn (model (Xs j).prog (Xs j).w) (Xs j).A (Xs j).env (Xs j).xe) (hc : ∀ j, (Xs j).calm = true := by intro _; rfl)
    (hs : ∀ j x, foldedSetIterable iter (Xs j).env x = pure x := by intro _ _; rfl) : DS Xs mg Wx (.For tg iter body [] pos) (dFor w T f) := by
  obtain ⟨wi, i1, i2⟩ := hi
  obtain ⟨g, g1, g2⟩ := hg
  obtain ⟨tb, b1, b2⟩ := hb
  refine ⟨_, fun j => ps_for (hp j) (hc j) (i1 j) (g1 j) (b1 j) (hs j), fun W0 B N ρ hf W σ H Ds s e n => ?_⟩
  refine i2 B ρ _ _ hf W σ H _ s.holds e (n.ex s e) fun W1 H1 J ds s1 wk k1 => ?_
  refine ⟨fun i m σ' H' => m = ds.length - i ∧ i ≤ ds.length ∧ ∃ W' ρ', Step W0 B W' H' ∧ EnvR mg B W' H' σ' ρ' ∧ Le W1 W' ∧ forD T f N (ds.drop i) ρ', ⟨ds.length, by simp, Nat.zero_le _, W1, ρ, s.trans s1, e.step s1, Le.refl _, k1⟩, ?_⟩
  rintro i m σ' H' ⟨rfl, hi, W', ρ', s', e', l', k'⟩
  obtain ⟨go, stop, yld⟩ := wk W' H' l' s'.holds
  by_cases hlt : i < ds.length
  · refine .inr ⟨go i hlt, fun σ2 H2 => ∃ W2 ρ2, Step W0 B W2 H2 ∧ EnvR mg B W2 H2 σ2 ρ2 ∧ Le W1 W2 ∧ forD T f N (ds.drop (i + 1)) ρ2, fun σ2 H2 q => ⟨ds.length - (i + 1), by omega, rfl, hlt, q⟩, fun x H2 y => ?_⟩
    obtain ⟨W2, d, s2, hd, r⟩ := yld i x H2 hlt y
    have ed : ds.drop i = d :: ds.drop (i + 1) := by
      rw [List.drop_eq_getElem_cons hlt]
      have := (List.getElem?_eq_some_iff.mp hd).2
      rw [this]
    rw [ed] at k'
    obtain ⟨ρ1, p1, k2⟩ := k'
    refine g2 B W2 H2 x d σ' ρ' ρ1 _ s2.holds r (e'.step s2) p1 fun σ3 e3 _ => ?_
    have s02 := s'.trans s2
    have n2 := n.rebase s02
    refine b2 W2 B _ ρ1 k2 W2 σ3 H2 _ s02.rebase e3 ⟨fun W3 H3 σ4 ρ4 s3 e4 k4 => ⟨W3, ρ4, s02.join s3, e4, (l'.trans s2.le).trans s3.le, k4⟩, n2.rt, n2.nx, fun W3 H3 σ4 ρ4 s3 e4 k4 => ⟨W3, ρ4, s02.join s3, e4, (l'.trans s2.le).trans s3.le, k4⟩, n2.rs⟩
  · have ei : i = ds.length := by omega
    subst ei
    rw [List.drop_length] at k'
    exact .inl ⟨stop, n.nx W' H' σ' ρ' s' e' k'⟩
/-! ### while -/
/-! ### a new list that grows -/
structure AccL (mg : Gm) (A : Addr) (W : Wd) (H : Hp) (us : List V) (acc : List D) (n : Nat) : Prop where
  h : H A = some (.lst us)
  w : W.H A = none
  t : ¬ W.T A
  r : Reps mg W us acc
  l : acc.length ≤ n
theorem AccL.new {W : Wd} {H : Hp} {A : Addr} (hh : Holds W H) (hA : H A = none) : AccL mg A W (upd H A (.lst [])) [] [] 0 := ⟨upd_same, hh.same.free hA, hh.nT hA, .nil, Nat.le_refl _⟩
theorem AccL.step {W W' : Wd} {H H' : Hp} {A : Addr} {us : List V} {acc : List D} {n : Nat} (I : AccL mg A W H us acc n) (s : Step W H W' H') : AccL mg A W' H' us acc n := by
  obtain ⟨h1, h2, h3⟩ := s.mine I.h I.w I.t
  exact ⟨h1, h2, h3, I.r.mono s.le, I.l⟩
theorem AccL.own {W0 W : Wd} {B H : Hp} {A : Addr} {us ys : List V} {acc : List D} {n : Nat} (I : AccL mg A W H us acc n) (s : Step W0 B W H) (hA : B A = none) : Step W0 B W (upd H A (.lst ys)) := s.own hA I.h I.w I.t
theorem AccL.snoc {W : Wd} {H : Hp} {A : Addr} {us : List V} {acc : List D} {n m : Nat} {v : V} {d : D} (I : AccL mg A W H us acc n) (r : Rep mg W v d) (hm : n + 1 ≤ m) : AccL mg A W (upd H A (.lst (us ++ [v]))) (us ++ [v]) (acc ++ [d]) m := ⟨upd_same, I.w, I.t, I.r.snoc r, by
  rw [List.length_append, List.length_singleton]
  exact Nat.le_trans (Nat.succ_le_succ I.l) hm⟩
theorem AccL.up {W : Wd} {H : Hp} {A : Addr} {us : List V} {acc : List D} {n m : Nat} (I : AccL mg A W H us acc n) (h : n ≤ m) : AccL mg A W H us acc m := ⟨I.h, I.w, I.t, I.r, Nat.le_trans I.l h⟩
theorem AccL.len {W : Wd} {H : Hp} {A : Addr} {us : List V} {acc : List D} {n : Nat} (I : AccL mg A W H us acc n) : us.length ≤ n := by
  rw [I.r.length]
  exact I.l
theorem drop_at {ds : List D} {i : Nat} {d : D} (h : ds[i]? = some d) : ds.drop i = d :: ds.drop (i + 1) := by
  obtain ⟨hl, e⟩ := List.getElem?_eq_some_iff.mp h
  rw [List.drop_eq_getElem_cons hl, e]
/-- a turn's promise -/
noncomputable def AccP (mg : Gm) (A : Addr) (W1 : Wd) (H1 : Hp) (n : Nat) (K : List D → Prop) : Hp → Prop := fun H' => ∃ W' us acc, Step W1 H1 W' H' ∧ AccL mg A W' H' us acc n ∧ K acc
theorem app_one {α : Type} (Q : List α → Prop) (xs : List α) (x : α) : (fun rs => Q (xs ++ [x] ++ rs)) = fun rs => Q (xs ++ x :: rs) := funext fun rs => by rw [List.append_assoc]; rfl
/-! ### comprehensions -/
noncomputable def lcD (body : D → (Option D → Prop) → Prop) : List D → (List D → Prop) → Prop
  | [], Q => Q []
  | d :: ds, Q => body d fun o => lcD body ds fun rs => match o with
    | some r => Q (r :: rs)
    | none => Q rs
noncomputable def wipeD (ρ : Env) : List Nat → Env
  | [] => ρ
  | v :: vs => (wipeD ρ vs).set v .no
theorem EnvR.wipe {B : Hp} {W : Wd} {H : Hp} {σ : St} {ρ : Env} (e : EnvR mg B W H σ ρ) : ∀ vs : List Nat, EnvR mg B W H (L2.wipe σ vs) (wipeD ρ vs)
  | [] => e
  | v :: vs => (EnvR.wipe e vs).no
noncomputable abbrev dLc (w : DTI) (T : Tg) (ft : DTT) (fe : DTE) (vs : List Nat) : DTE := fun ρ Q E => w ρ (fun ds => ds.length ≤ sizeLine ∧ lcD (fun d k => ∃ ρ2, T.put d (wipeD ρ vs) = some ρ2 ∧ ft ρ2 (fun b => bit b (fe ρ2 (fun r => k (some r)) F0) (k none)) F0) ds fun rs => Q (.lst rs)) E
noncomputable abbrev blkF (Xs : ι → Cx) (scope : Scope) : ι × Shared × Hp × Addr × List (Str × Addr) × List Addr → Cx := fun j => (Xs j.1).blk j.2.1 j.2.2.1 scope (compEnvC scope j.2.2.2.2.1 j.2.2.2.1 (Xs j.1).env) j.2.2.2.2.2
noncomputable def DTs (Xs : ι → Cx) (mg : Gm) (Wx : WX) (ifs : List Expr) (f : DTT) : Prop := ∃ t, (∀ i, PTs (Xs i) ifs t) ∧ CpT mg Wx t f
noncomputable abbrev dYes : DTT := fun _ Q _ => Q true
theorem dts_nil : DTs Xs mg Wx [] dYes := ⟨_, fun _ => pts_nil, fun B ρ Q E hf W σ H Q' hh e x q => q W H true (Step.refl hh) hf⟩
theorem dts_one {c : Expr} {f : DTT} (h : DT Xs mg Wx c f) : DTs Xs mg Wx [c] f := by
  obtain ⟨t, h1, h2⟩ := h
  exact ⟨t, fun i => pts_one (h1 i), h2⟩
theorem Cp.lc {wi : TI} {g : TG} {tt : TT} {te : TE} {w : DTI} {T : Tg} {ft : DTT} {fe : DTE} {vs : List Nat} (hi : CpI mg Wx wi w) (hg : CpG mg g T) (hv : ∀ i ∈ T.slots, i ∈ vs) (ht : CpT mg Wx0 tt ft) (he : Cp mg Wx0 te fe) : Cp mg Wx (tLc wi g tt te vs) (dLc w T ft fe vs) := by
  intro B ρ Q E hf W σ H Q' hh e x q
  refine hi B ρ _ E hf W σ H _ hh e x fun W1 H1 J ds s1 wk k1 => ?_
  obtain ⟨hsz, k1⟩ := k1
  intro A hA
  have e1 := e.step s1
  refine ⟨fun i m H' => m = ds.length - i ∧ i ≤ ds.length ∧ AccP mg A W1 H1 i (fun acc => lcD _ (ds.drop i) (fun rs => Q (.lst (acc ++ rs)))) H', ⟨ds.length, rfl, Nat.zero_le _, W1, [], [], Step.lay s1.holds hA, .new s1.holds hA, k1⟩, ?_⟩
  rintro i m H' ⟨rfl, hi, W', us, acc, s', I, k'⟩
  obtain ⟨go, stop, yld⟩ := wk W' H' s'.le s'.holds
  by_cases hlt : i < ds.length
  · refine .inr ⟨go i hlt, AccP mg A W1 H1 (i + 1) (fun acc => lcD _ (ds.drop (i + 1)) (fun rs => Q (.lst (acc ++ rs)))), fun H2 q => ⟨ds.length - (i + 1), by omega, rfl, hlt, q⟩, fun y H2 hy => ?_⟩
    obtain ⟨W2, d, s2, hd, r⟩ := yld i y H2 hlt hy
    rw [drop_at hd] at k'
    obtain ⟨ρ1, p1, k2⟩ := k'
    refine hg B W2 H2 y d _ _ ρ1 _ s2.holds r ((e1.step s').step s2 |>.wipe vs) p1 fun σ3 e3 w3 => ?_
    refine ⟨(w3 vs hv).trans (wipe_wipe σ vs), ?_⟩
    refine ht B ρ1 _ _ k2 W2 σ3 H2 _ s2.holds e3 ExR.f0 fun W3 H3 b s3 k3 => ?_
    have I3 := I.step (s2.trans s3)
    cases b with
    | true =>
      rw [if_pos rfl]
      refine he B ρ1 _ _ k3 W3 σ3 H3 _ s3.holds (e3.step s3) ExR.f0 fun W4 H4 z dz s4 r4 k4 => ?_
      have I4 := I3.step s4
      refine ⟨us, I4.h, Nat.lt_of_le_of_lt I.len (Nat.lt_of_lt_of_le hlt hsz), W4, us ++ [z], acc ++ [dz], I4.own ((s'.trans s2).trans (s3.trans s4)) hA, I4.snoc r4 (Nat.le_refl _), ?_⟩
      show lcD _ _ (fun rs => Q (.lst (acc ++ [dz] ++ rs)))
      rw [app_one (fun l => Q (.lst l))]
      exact k4
    | false =>
      rw [if_neg Bool.false_ne_true]
      exact ⟨W3, us, acc, (s'.trans s2).trans s3, I3.up (Nat.le_succ _), k3⟩
  · have ei : i = ds.length := by omega
    subst ei
    rw [List.drop_length] at k'
    refine .inl ⟨stop, q (W'.put A (.lst us)) H' _ _ (s1.trans (s'.taken hA I.h I.w I.t)) (Rep.newLst I.r I.w) ?_⟩
    have k2 : Q (.lst (acc ++ [])) := k'
    rw [List.append_nil] at k2
    exact k2
theorem de_lc {elt tg iter : Expr} {ifs : List Expr} {scope : Scope} {own : List (Str × Nat)} {w : DTI} {T : Tg} {ft : DTT} {fe : DTE} (hN : ∀ j, (Xs j).N.Nodup) (hi : DI Xs mg Wx tg iter w) (ok : ∀ j, BlkOk (Xs j).N (Xs j).env.scope scope own) (hg : DG (blkF Xs scope) mg tg T) (ht : DTs (blkF Xs scope) mg Wx0 ifs ft) (he : DE (blkF Xs scope) mg Wx0 elt fe)
    (hv : ∀ i ∈ T.slots, i ∈ own.map (·.2) := by decide) (hc : ∀ j, (Xs j).calm = true := by intro _; rfl) (hs : ∀ j x, foldedSetIterable iter (Xs j).env x = pure x := by intro _ _; rfl) : DE Xs mg Wx (.ListComp elt [⟨tg, iter, ifs, 0⟩] scope pos) (dLc w T ft fe (own.map (·.2))) := by
  obtain ⟨wi, i1, i2⟩ := hi
  obtain ⟨g, g1, g2⟩ := hg
  obtain ⟨tt, t1, t2⟩ := ht
  obtain ⟨te, e1, e2⟩ := he
  exact ⟨_, fun j => pe_lc (hc j) (hN j) (i1 j) (ok j) (fun s H C cl fp => g1 (j, s, H, C, cl, fp)) (fun s H C cl fp => t1 (j, s, H, C, cl, fp)) (fun s H C cl fp => e1 (j, s, H, C, cl, fp)) (hs j), Cp.lc i2 g2 hv t2 e2⟩
theorem ds_setLc {i : Nat} {y : Str} {py spos : Pos} {elt tg iter : Expr} {ifs : List Expr} {scope : Scope} {own : List (Str × Nat)} {w : DTI} {T : Tg} {ft : DTT} {fe : DTE} (hN : ∀ j, (Xs j).N.Nodup) (hi : DI Xs mg Wx tg iter w) (ok : ∀ j, BlkOk (Xs j).N (Xs j).env.scope scope own) (hg : DG (blkF Xs scope) mg tg T) (ht : DTs (blkF Xs scope) mg Wx0 ifs ft) (he : DE (blkF Xs scope) mg Wx0 elt fe)
    (hsw : ∀ j, swapsWith (.ListComp elt [⟨tg, iter, ifs, 0⟩] scope pos) (some (.Name y py)) spos.line (Xs j).env = pure true) (hy : ∀ j, (Xs j).N[i]? = some y := by intro _; rfl) (hyl : ∀ j, (Xs j).env.scope.names.lookup y = some .local := by intro _; rfl)
    (hv : ∀ i ∈ T.slots, i ∈ own.map (·.2) := by decide) (hc : ∀ j, (Xs j).calm = true := by intro _; rfl) (hs : ∀ j x, foldedSetIterable iter (Xs j).env x = pure x := by intro _ _; rfl) : DS Xs mg Wx (.Assign [.Name y py] (.ListComp elt [⟨tg, iter, ifs, 0⟩] scope pos) spos) (dSet i (dLc w T ft fe (own.map (·.2)))) := by
  obtain ⟨wi, i1, i2⟩ := hi
  obtain ⟨g, g1, g2⟩ := hg
  obtain ⟨tt, t1, t2⟩ := ht
  obtain ⟨te, e1, e2⟩ := he
  refine ⟨_, fun j => ps_setLc (i := i) (hc j) (hN j) (hy j) (hyl j) (hsw j) (i1 j) (ok j) (fun s H C cl fp => g1 (j, s, H, C, cl, fp)) (fun s H C cl fp => t1 (j, s, H, C, cl, fp)) (fun s H C cl fp => e1 (j, s, H, C, cl, fp)) (hs j), fun W0 B N ρ hf W σ H Ds s e n => ?_⟩
  exact Cp.lc i2 g2 hv t2 e2 B ρ _ _ hf W σ H _ s.holds e (n.ex s e) fun W1 H1 v d s1 r1 k1 => n.nx W1 H1 _ _ (s.trans s1) ((e.step s1).set r1) k1
/-! ### a def by its body -/
noncomputable def startD (n : Nat) (ds : List D) : Env := ds.map Sl.d ++ List.replicate (n - ds.length) .no
theorem EnvR.start {N : List Str} {W : Wd} {H : Hp} : ∀ {vs : List V} {ds : List D}, Reps mg W vs ds → EnvR mg H W H (L2.start N vs) (startD N.length ds) := by
  intro vs ds r
  have el := r.length
  refine ⟨by simp [L2.start, startD, el], fun i s h => ?_, fun i j xs ys o1 o2 a _ h1 _ _ _ m1 _ => ?_⟩
  · unfold startD at h
    unfold L2.start
    by_cases hi : i < ds.length
    · rw [List.getElem?_append_left (by simpa using hi), List.getElem?_map] at h
      rw [List.getElem?_append_left (by simpa [el] using hi), List.getElem?_map]
      cases q : ds[i]? with
      | none =>
        rw [q] at h
        cases h
      | some d =>
        rw [q] at h
        cases h
        obtain ⟨v, h1, h2⟩ := r.get q
        exact ⟨some v, by rw [h1]; rfl, v, rfl, h2⟩
    · rw [List.getElem?_append_right (by simpa using Nat.le_of_not_lt hi), List.getElem?_replicate] at h
      rw [List.getElem?_append_right (by simpa [el] using Nat.le_of_not_lt hi), List.getElem?_replicate]
      split at h
      · cases h
        rename_i hq
        refine ⟨none, ?_, True.intro⟩
        rw [if_pos]
        simpa [el] using hq
      · cases h
  · unfold startD at h1
    have hm := List.mem_of_getElem? h1
    rcases List.mem_append.mp hm with q | q
    · obtain ⟨_, _, z⟩ := List.mem_map.mp q
      rw [← z] at m1
      cases m1
    · have z := List.eq_of_mem_replicate q
      rw [z] at m1
      cases m1
/-- the rule for a def, where no repr is under way -/
theorem fnG_of {P : Program} {w : World} {K : PySem.W.Frag} {mg : Str → Option Value} {base : Heap} {x qual : Str} {st : Stmt} {fa : Addr} {fd : FuncData} {N ps : List Str} {k : Nat} {sp : Sp} (F : Fun K x qual st fa fd) (S : FnScope N ps (defScope st)) (ln : ∀ vs H Q E, sp vs H Q E → vs.length = ps.length)
    (hb : ∀ (cdv : Value) (A : Around) (out : List PySem.Env) (z : Shared) (H : Hp) (vs : List V) (Q : VK) (E : XK), RmG k (A.deeper (PyProof.Rows.envOfC qual (defScope st) z.heap.objs.size fa cdv)) → sp vs H Q E →
      ∃ t, PSs (cxOf (L2.CX P w) P w K mg base N qual (defScope st) fa cdv A out z H E) (defBody st) t ∧ t { nx := fun _ H' => Q .non H', rt := Q } (L2.start N vs) H) : FnG P w K mg base (k + 1) fa fd ps sp := by
  obtain ⟨oc, od, kV, doc, pm, an, cdv, ct, osl, rfl, lk, hcd⟩ := F.ex
  refine ⟨ln, fun A out z H ag us vs Q E m e0 bd rv hs => ?_⟩
  have inK : K.In z.heap := e0.mod.kin.keeps fun c u q => (e0.bs c u q).1
  have noL : z.heap.NoLimit := e0.mod.nolimit.keeps fun c u q => (e0.bs c u q).1
  have kinds : ∀ y ∈ ps.zip us, (defScope st).names.lookup y.1 = some .local ∨ ((defScope st).names.lookup y.1 = some .cell ∧ ((cellsFrom (z.heap.objs.size + 1) (defScope st).names []).lookup y.1).isSome = true) := by
    rintro ⟨n, v⟩ hy
    refine (S.par n (List.of_mem_zip hy).1).imp id ?_
    intro c
    exact ⟨c, PySem.W.cellsFrom_some _ _ _ (.inl c)⟩
  apply codeAny_call_function m.r.depth (inK _ _ lk) rfl S.co S.gen rfl (PySem.W.codeRec_of inK hcd)
  apply bd
  apply wpAny_newFunctionEnv_cells S.kind kinds
  intro env he z1 inC
  subst he
  obtain ⟨t, pt, tq⟩ := hb cdv A out z H vs Q E ⟨m.r.deeper _, m.g⟩ hs
  have I0 := inv_start (CX := L2.CX P w) (E := E) S m.r.hd e0 (ln _ _ _ _ hs) rv inC
  refine ⟨noL.keeps inC.toInCall.keep, codeAny_func (wpAny_mono (pt.run [] z1 _ H _ I0 tq) ?_ fun _ _ q => q)⟩
  intro fl z' hfl
  match fl, hfl with
  | .ret u, ⟨v, _, H', J, ru, q⟩ => exact ⟨v, H', J.os, J.bare, J.base, J.hok, ru, q⟩
  | .next, ⟨_, H', J, q⟩ => exact ⟨V.non, H', J.os, J.bare, J.base, J.hok, rfl, q⟩
  | .brk, ⟨_, _, _, q⟩ => exact q.elim
  | .cont, ⟨_, _, _, q⟩ => exact q.elim
theorem def_ok {P : Program} {w : World} {base : Heap} {x qual : Str} {st : Stmt} {fa : Addr} {fd : FuncData} {N ps : List Str} {k : Nat} {f : List D → M D} (F : Fun mg.K x qual st fa fd) (S : FnScope N ps (defScope st))
    (h : ∀ (cdv : Value) (A : Around) (outer : List PySem.Env) (s : Shared) (H : Hp) (E : XK), RmG k (A.deeper (PyProof.Rows.envOfC qual (defScope st) s.heap.objs.size fa cdv)) →
      ∃ g, DSs (fun _ : Unit => cxOf (L2.CX P w) P w mg.K mg.mg base N qual (defScope st) fa cdv A outer s H E) mg (fun cls d _ H' => E cls d H') (defBody st) g ∧
        ∀ ds Q Ex, ds.length = ps.length → f ds Q Ex → g ⟨fun _ => Q .non, fun d _ => Q d, fun _ => False, fun _ => False, fun x _ => Ex x⟩ (startD N.length ds)) :
    FnG P w mg.K mg.mg base (k + 1) fa fd ps (spD mg ps.length f) := by
  refine fnG_of F S (fun vs H Q E hs => ?_) (fun cdv A outer s H vs Q E hr hs => ?_)
  · obtain ⟨W, ds, Qd, Ed, _, r, l, _⟩ := hs
    rw [r.length, l]
  · obtain ⟨W, ds, Qd, Ed, hh, r, l, hf, q, x⟩ := hs
    obtain ⟨g, ⟨t, h1, h2⟩, h3⟩ := h cdv A outer s H E hr
    refine ⟨t, h1 (), ?_⟩
    refine h2 W H _ _ (h3 ds Qd Ed l hf) W _ H _ (Step.refl hh) (EnvR.start r) ⟨fun W' H' σ' ρ' s' e' k => q W' H' _ _ s' .non k, fun W' H' _ _ v d s' _ r k => q W' H' v d s' r k, fun _ _ _ _ _ _ k => k, fun _ _ _ _ _ _ k => k, fun W' H' σ' ρ' cls dd y s' e' r' k => x W' H' cls dd y s' r' k⟩
end
end FP
/-! FP4: operators, comparisons, built-in functions by data. -/
namespace FP
open PySem L2
variable [Tabl]
section
variable {ι : Type} {Xs : ι → Cx} {mg : Gm} {Wx : WX} {pos : Pos}
/-! ### arithmetic, joining -/
theorem op_catK {X : Cx} {K : PySem.W.Frag} (h : X.K = K) : OpR X (binaryOp .Add) (rCatA K) := by
  subst h
  exact op_catA
theorem op_inK {X : Cx} {K : PySem.W.Frag} (h : X.K = K) : OpR X (compareOp .In) (rIn K false) := by
  subst h
  exact op_in_seq
noncomputable def rdAdd : RD2 := fun x y Q => match x, y with
  | .int i, .int j => Q (.int (i + j))
  | .str a, .str b => a.length + b.length ≤ sizeLine ∧ Q (.str (a ++ b))
  | .lst xs, .lst ys => xs.length + ys.length ≤ sizeLine ∧ Q (.lst (xs ++ ys))
  | .tup xs, .tup ys => xs.length + ys.length ≤ sizeLine ∧ Q (.tup (xs ++ ys))
  | _, _ => False
theorem ok_add (hK : ∀ j, (Xs j).K = mg.K := by intro _; rfl) : OpOk Xs mg (binaryOp .Add) rdAdd := by
  refine OpOk.mk (fun j => OpR.or op_add (OpR.or op_add_str (OpR.or op_cat (op_catK (hK j))))) ?_
  intro W H x y dx dy Q Q' P hh rx ry h q hP
  cases rx with
  | int =>
    cases ry with
    | int =>
      delta rdAdd at h
      dsimp only at h
      exact hP _ _ (.inl ⟨_, _, rfl, rfl, q W H _ _ (Step.refl hh) (.int _) h⟩)
    | _ => exact False.elim h
  | str =>
    cases ry with
    | str =>
      delta rdAdd at h
      dsimp only at h
      exact hP _ _ (.inr (.inl ⟨_, _, rfl, rfl, h.1, q W H _ _ (Step.refl hh) (.str _) h.2⟩))
    | _ => exact False.elim h
  | lst ha ra =>
    cases ry with
    | lst hb rb =>
      delta rdAdd at h
      dsimp only at h
      exact hP _ _ (.inr (.inr (.inl ⟨_, _, _, _, rfl, rfl, hh.same _ _ ha, hh.same _ _ hb, by rw [ra.length, rb.length]; exact h.1, to_lst q hh (ra.append rb) h.2⟩)))
    | _ => exact False.elim h
  | tup ha ra =>
    cases ry with
    | tup hb rb =>
      delta rdAdd at h
      dsimp only at h
      refine hP _ _ (.inr (.inr (.inr ⟨_, _, _, _, rfl, rfl, SqT.of (hh.same _ _ ha), SqT.of (hh.same _ _ hb), by rw [ra.length, rb.length]; exact h.1, fun e => ?_, fun _ e => ?_, fun _ _ => to_tup q hh (ra.append rb) h.2⟩)))
      · subst e
        cases ra
        exact q W H _ _ (Step.refl hh) (.tup hb rb) h.2
      · subst e
        cases rb
        have h2 := h.2
        rw [List.append_nil] at h2
        exact q W H _ _ (Step.refl hh) (.tup ha ra) h2
    | _ => exact False.elim h
  | _ => exact False.elim h
noncomputable def rdSub : RD2 := fun x y Q => match x, y with
  | .int i, .int j => Q (.int (i - j))
  | _, _ => False
theorem ok_sub : OpOk Xs mg (binaryOp .Sub) rdSub := by
  refine ⟨_, fun j => op_sub, ?_⟩
  intro W H x y dx dy Q Q' hh rx ry h q
  cases rx with
  | int =>
    cases ry with
    | int =>
      delta rdSub at h
      dsimp only at h
      exact ⟨_, _, rfl, rfl, q W H _ _ (Step.refl hh) (.int _) h⟩
    | _ => exact False.elim h
  | _ => exact False.elim h
noncomputable def rdMul : RD2 := fun x y Q => match x, y with
  | .int i, .int j => CMul i j ∧ Q (.int (i * j))
  | .lst xs, .int k => (-(2 ^ 63) ≤ k ∧ k < 2 ^ 63) ∧ xs.length * k.toNat ≤ sizeLine ∧ Q (.lst (List.replicate k.toNat xs).flatten)
  | _, _ => False
theorem Reps.flat {W : Wd} {vs : List V} {ds : List D} (r : Reps mg W vs ds) : ∀ n, Reps mg W (List.replicate n vs).flatten (List.replicate n ds).flatten
  | 0 => .nil
  | n + 1 => by
    rw [List.replicate_succ, List.replicate_succ, List.flatten_cons, List.flatten_cons]
    exact r.append (Reps.flat r n)
theorem ok_mul : OpOk Xs mg (binaryOp .Mult) rdMul := by
  refine OpOk.mk (fun j => OpR.or op_mul op_rep) ?_
  intro W H x y dx dy Q Q' P hh rx ry h q hP
  cases rx with
  | int =>
    cases ry with
    | int =>
      delta rdMul at h
      dsimp only at h
      exact hP _ _ (.inl ⟨_, _, rfl, rfl, h.1, q W H _ _ (Step.refl hh) (.int _) h.2⟩)
    | _ => exact False.elim h
  | lst ha ra =>
    cases ry with
    | int =>
      delta rdMul at h
      dsimp only at h
      exact hP _ _ (.inr ⟨_, _, _, rfl, rfl, hh.same _ _ ha, h.1.1, h.1.2, by rw [ra.length]; exact h.2.1, to_lst q hh (ra.flat _) h.2.2⟩)
    | _ => exact False.elim h
  | _ => exact False.elim h
noncomputable def rdFdiv : RD2 := fun x y Q => match x, y with
  | .int i, .int j => CDivN i j ∧ Q (.int (i.fdiv j))
  | _, _ => False
theorem ok_fdiv : OpOk Xs mg (binaryOp .FloorDiv) rdFdiv := by
  refine OpOk.mk (fun j => op_fdivN) ?_
  intro W H x y dx dy Q Q' P hh rx ry h q hP
  cases rx with
  | int =>
    cases ry with
    | int =>
      delta rdFdiv at h
      dsimp only at h
      exact hP _ _ (⟨_, _, rfl, rfl, h.1, q W H _ _ (Step.refl hh) (.int _) h.2⟩)
    | _ => exact False.elim h
  | _ => exact False.elim h
noncomputable def rdMod : RD2 := fun x y Q => match x, y with
  | .int i, .int j => 0 < j ∧ Q (.int (i % j))
  | _, _ => False
theorem ok_mod : OpOk Xs mg (binaryOp .Mod) rdMod := by
  refine OpOk.mk (fun j => op_mod) ?_
  intro W H x y dx dy Q Q' P hh rx ry h q hP
  cases rx with
  | int =>
    cases ry with
    | int =>
      delta rdMod at h
      dsimp only at h
      exact hP _ _ (⟨_, _, rfl, rfl, h.1, q W H _ _ (Step.refl hh) (.int _) h.2⟩)
    | _ => exact False.elim h
  | _ => exact False.elim h
noncomputable def CPowW (a n : Int) : Prop := 0 ≤ n ∧ (Builtin.Int.intBits a : Int) * n ≤ 2 ^ 27
theorem op_powW {X : Cx} : OpR X (binaryOp .Pow) (rI CPowW fun i j => .int (i ^ j.toNat)) := opI fun _ _ _ _ _ _ _ hc q => PyProof.Rows.pow_int hc.1 hc.2 q
noncomputable def rdPow : RD2 := fun x y Q => match x, y with
  | .int i, .int j => CPowW i j ∧ Q (.int (i ^ j.toNat))
  | _, _ => False
theorem ok_pow : OpOk Xs mg (binaryOp .Pow) rdPow := by
  refine OpOk.mk (fun j => op_powW) ?_
  intro W H x y dx dy Q Q' P hh rx ry h q hP
  cases rx with
  | int =>
    cases ry with
    | int =>
      delta rdPow at h
      dsimp only at h
      exact hP _ _ (⟨_, _, rfl, rfl, h.1, q W H _ _ (Step.refl hh) (.int _) h.2⟩)
    | _ => exact False.elim h
  | _ => exact False.elim h
noncomputable abbrev dNeg (f : DTE) : DTE := fun ρ Q E => f ρ (fun x => match x with
  | .int i => Q (.int (-i))
  | _ => False) E
theorem de_neg {a : Expr} {f : DTE} (h : DE Xs mg Wx a f) : DE Xs mg Wx (.UnaryOp .USub a pos) (dNeg f) := by
  obtain ⟨t, h1, h2⟩ := h
  refine ⟨_, fun i => pe_un un_neg (h1 i), fun B ρ Q E hf W σ H Q' hh e x q => h2 B ρ _ E hf W σ H _ hh e x fun W1 H1 v d s1 r1 k1 => ?_⟩
  obtain ⟨i, rfl, k1⟩ := intOf k1
  obtain rfl := r1.intI
  exact ⟨_, rfl, q W1 H1 _ _ s1 (.int _) k1⟩
/-! ### order -/
noncomputable def rdLt : RD2 := fun x y Q => match x, y with
  | .int i, .int j => Q (.bl (decide (i < j)))
  | .str a, .str b => Q (.bl (decide (a.cps.toList < b.cps.toList)))
  | _, _ => False
noncomputable def rdLe : RD2 := fun x y Q => match x, y with
  | .int i, .int j => Q (.bl (decide (i ≤ j)))
  | .str a, .str b => Q (.bl (!decide (b.cps.toList < a.cps.toList)))
  | _, _ => False
noncomputable def rdGt : RD2 := fun x y Q => match x, y with
  | .int i, .int j => Q (.bl (decide (j < i)))
  | .str a, .str b => Q (.bl (decide (b.cps.toList < a.cps.toList)))
  | _, _ => False
noncomputable def rdGe : RD2 := fun x y Q => match x, y with
  | .int i, .int j => Q (.bl (decide (j ≤ i)))
  | .str a, .str b => Q (.bl (!decide (a.cps.toList < b.cps.toList)))
  | _, _ => False
theorem ok_lt : OpOk Xs mg (compareOp .Lt) rdLt := by
  refine OpOk.mk (fun j => OpR.or op_lt op_lt_str) ?_
  intro W H x y dx dy Q Q' P hh rx ry h q hP
  cases rx with
  | int =>
    cases ry with
    | int =>
      delta rdLt at h
      dsimp only at h
      exact hP _ _ (.inl ⟨_, _, rfl, rfl, q W H _ _ (Step.refl hh) (.bl _) h⟩)
    | _ => exact False.elim h
  | str =>
    cases ry with
    | str =>
      delta rdLt at h
      dsimp only at h
      exact hP _ _ (.inr ⟨_, _, rfl, rfl, q W H _ _ (Step.refl hh) (.bl _) h⟩)
    | _ => exact False.elim h
  | _ => exact False.elim h
theorem ok_le : OpOk Xs mg (compareOp .LtE) rdLe := by
  refine OpOk.mk (fun j => OpR.or op_le op_le_str) ?_
  intro W H x y dx dy Q Q' P hh rx ry h q hP
  cases rx with
  | int =>
    cases ry with
    | int =>
      delta rdLe at h
      dsimp only at h
      exact hP _ _ (.inl ⟨_, _, rfl, rfl, q W H _ _ (Step.refl hh) (.bl _) h⟩)
    | _ => exact False.elim h
  | str =>
    cases ry with
    | str =>
      delta rdLe at h
      dsimp only at h
      exact hP _ _ (.inr ⟨_, _, rfl, rfl, q W H _ _ (Step.refl hh) (.bl _) h⟩)
    | _ => exact False.elim h
  | _ => exact False.elim h
theorem ok_gt : OpOk Xs mg (compareOp .Gt) rdGt := by
  refine OpOk.mk (fun j => OpR.or op_gt op_gt_str) ?_
  intro W H x y dx dy Q Q' P hh rx ry h q hP
  cases rx with
  | int =>
    cases ry with
    | int =>
      delta rdGt at h
      dsimp only at h
      exact hP _ _ (.inl ⟨_, _, rfl, rfl, q W H _ _ (Step.refl hh) (.bl _) h⟩)
    | _ => exact False.elim h
  | str =>
    cases ry with
    | str =>
      delta rdGt at h
      dsimp only at h
      exact hP _ _ (.inr ⟨_, _, rfl, rfl, q W H _ _ (Step.refl hh) (.bl _) h⟩)
    | _ => exact False.elim h
  | _ => exact False.elim h
/-! ### equality -/
mutual
noncomputable def toPy : D → Option PyData
  | .non => some .none
  | .bl b => some (.bool b)
  | .int i => some (.int i)
  | .str x => some (.str x)
  | .tup xs => match toPys xs with
    | some ps => some (.tuple ps)
    | none => none
  | .lst xs => match toPys xs with
    | some ps => some (.list ps)
    | none => none
  | .fz _ => none
  | .dct _ => none
  | .dn _ => none
  | .ins _ _ => none
  | .tok => none
  | .cl _ => none
  | .fn _ _ => none
noncomputable def toPys : List D → Option (List PyData)
  | [] => some []
  | x :: xs => match toPy x, toPys xs with
    | some p, some ps => some (p :: ps)
    | _, _ => none
end
theorem toPys_cons {d : D} {ds : List D} {ps : List PyData} (e : toPys (d :: ds) = some ps) : ∃ p qs, toPy d = some p ∧ toPys ds = some qs ∧ ps = p :: qs := by
  rw [toPys] at e
  cases q1 : toPy d with
  | none => rw [q1] at e; cases e
  | some p =>
    cases q2 : toPys ds with
    | none => rw [q1, q2] at e; cases e
    | some qs =>
      rw [q1, q2] at e
      exact ⟨p, qs, rfl, rfl, (Option.some.inj e).symm⟩
theorem Rep.dp {W : Wd} {H : Hp} (hh : Holds W H) {v : V} {d : D} {p : PyData} (r : Rep mg W v d) (e : toPy d = some p) : Dp mg.K H v p := by
  revert p
  refine Rep.rec (motive_1 := fun v d _ => ∀ {p}, toPy d = some p → Dp mg.K H v p) (motive_2 := fun vs ds _ => ∀ {ps}, toPys ds = some ps → DpAll mg.K H vs ps) ?_ ?_ ?_ ?_ ?_ ?_ ?_ ?_ ?_ ?_ ?_ ?_ ?_ ?_ ?_ r
  · intro p e
    cases e
    exact .non
  · intro b p e
    cases e
    exact .bl b
  · intro b p e
    cases e
    exact .int b
  · intro b p e
    cases e
    exact .str b
  · intro a vs ds ha r ih p e
    rw [toPy] at e
    cases hp : toPys ds with
    | none => rw [hp] at e; cases e
    | some ps =>
      rw [hp] at e
      cases e
      exact .tup (SqT.of (hh.same _ _ ha)) (ih hp)
  · intro a vs ds ha r ih p e
    rw [toPy] at e
    cases hp : toPys ds with
    | none => rw [hp] at e; cases e
    | some ps =>
      rw [hp] at e
      cases e
      exact .lst (SqL.of (hh.same _ _ ha)) (ih hp)
  · intro a vs ds ha r ih p e
    cases e
  · intro a o kvs ds ha hk r ih p e
    cases e
  · intro a w es ep kvs h1 h2 h3 r1 r2 ih1 ih2 p e
    cases e
  · intro a C dx fs c ds hc ha hk r ih p e
    cases e
  · intro a t p e
    cases e
  · intro C c hc p e
    cases e
  · intro f W0 l p e
    cases e
  · intro ps e
    cases e
    exact .nil
  · intro v vs d ds r rs ih ihs ps e
    obtain ⟨p, qs, h1, h2, rfl⟩ := toPys_cons e
    exact .cons (ih h1) (ihs h2)
theorem Reps.dp {W : Wd} {H : Hp} (hh : Holds W H) : ∀ {ds : List D} {vs : List V} {ps : List PyData}, Reps mg W vs ds → toPys ds = some ps → DpAll mg.K H vs ps := by
  intro ds
  induction ds with
  | nil =>
    intro vs ps r e
    cases e
    cases r
    exact .nil
  | cons d ds ih =>
    intro vs ps r e
    obtain ⟨p, qs, h1, h2, rfl⟩ := toPys_cons e
    cases r with
    | cons r rs => exact .cons (r.dp hh h1) (ih rs h2)
/-- the texts and numbers that stand in a row, as values -/
noncomputable def flatD : D → Option V
  | .non => some .non
  | .bl b => some (.bl b)
  | .int i => some (.int i)
  | .str x => some (.str x)
  | _ => none
theorem flat_v {W : Wd} {x v : V} {d : D} (r : Rep mg W x d) (h : flatD d = some v) : x = v := by
  cases r <;> first | (cases h; rfl) | cases h
/-- two plain values -/
noncomputable def eqS : D → D → Option Bool
  | .str a, .str b => some (decide (a = b))
  | .int a, .int b => some (decide (a = b))
  | .bl a, .bl b => some (decide (a = b))
  | .non, .non => some true
  | .non, .str _ => some false
  | .str _, .non => some false
  | .non, .int _ => some false
  | .int _, .non => some false
  | _, _ => none
noncomputable def rdEq : RD2 := fun x y Q => match eqS x y with
  | some b => Q (.bl b)
  | none => ∃ p q, toPy x = some p ∧ toPy y = some q ∧ SeqAt.shaped p = true ∧ SeqAt.shaped q = true ∧ Q (.bl (PyData.eqv p q))
noncomputable def rdNe : RD2 := fun x y Q => match eqS x y with
  | some b => Q (.bl (!b))
  | none => ∃ p q, toPy x = some p ∧ toPy y = some q ∧ SeqAt.shaped p = true ∧ SeqAt.shaped q = true ∧ Q (.bl (!PyData.eqv p q))
theorem dec_str (a b : Str) : decide (V.str a = V.str b) = decide (a = b) := by
  rw [Bool.eq_iff_iff, decide_eq_true_iff, decide_eq_true_iff]
  exact ⟨fun q => V.str.inj q, fun q => by rw [q]⟩
theorem dec_int (a b : Int) : decide (V.int a = V.int b) = decide (a = b) := by
  rw [Bool.eq_iff_iff, decide_eq_true_iff, decide_eq_true_iff]
  exact ⟨fun q => V.int.inj q, fun q => by rw [q]⟩
theorem dec_bl (a b : Bool) : decide (V.bl a = V.bl b) = decide (a = b) := by
  rw [Bool.eq_iff_iff, decide_eq_true_iff, decide_eq_true_iff]
  exact ⟨fun q => V.bl.inj q, fun q => by rw [q]⟩
theorem eqS_flat {dx dy : D} {b : Bool} (h : eqS dx dy = some b) : ∃ vx vy, flatD dx = some vx ∧ flatD dy = some vy ∧ scal vx vy = true ∧ decide (vx = vy) = b := by
  cases dx with
  | str a =>
    cases dy with
    | str c => exact ⟨_, _, rfl, rfl, rfl, (dec_str a c).trans (Option.some.inj h)⟩
    | non => exact ⟨_, _, rfl, rfl, rfl, Option.some.inj h⟩
    | _ => cases h
  | int a =>
    cases dy with
    | int c => exact ⟨_, _, rfl, rfl, rfl, (dec_int a c).trans (Option.some.inj h)⟩
    | non => exact ⟨_, _, rfl, rfl, rfl, Option.some.inj h⟩
    | _ => cases h
  | bl a =>
    cases dy with
    | bl c => exact ⟨_, _, rfl, rfl, rfl, (dec_bl a c).trans (Option.some.inj h)⟩
    | _ => cases h
  | non =>
    cases dy with
    | non => exact ⟨_, _, rfl, rfl, rfl, Option.some.inj h⟩
    | str c => exact ⟨_, _, rfl, rfl, rfl, Option.some.inj h⟩
    | int c => exact ⟨_, _, rfl, rfl, rfl, Option.some.inj h⟩
    | _ => cases h
  | _ => cases h
theorem eqS_v {W : Wd} {x y : V} {dx dy : D} {b : Bool} (rx : Rep mg W x dx) (ry : Rep mg W y dy) (h : eqS dx dy = some b) : scal x y = true ∧ decide (x = y) = b := by
  obtain ⟨vx, vy, h1, h2, h3, h4⟩ := eqS_flat h
  rw [flat_v rx h1, flat_v ry h2]
  exact ⟨h3, h4⟩
theorem ok_eq (hu : ∀ j, (Xs j).A.units + 64 < cLine) (hK : ∀ j, (Xs j).K = mg.K := by intro _; rfl) : OpOk Xs mg (compareOp .Eq) rdEq := by
  refine ⟨fun x y H Q => rEq x y H Q ∨ rEqD mg.K x y H Q, fun j => OpR.or op_eq (by rw [← hK j]; exact op_eqD (hu j)), ?_⟩
  intro W H x y dx dy Q Q' hh rx ry h q
  unfold rdEq at h
  split at h
  · rename_i b hb
    obtain ⟨h1, h2⟩ := eqS_v rx ry hb
    exact .inl ⟨h1, by rw [h2]; exact q W H _ _ (Step.refl hh) (.bl _) h⟩
  · obtain ⟨p, p', h1, h2, h3, h4, h5⟩ := h
    exact .inr ⟨p, p', rx.dp hh h1, ry.dp hh h2, h3, h4, q W H _ _ (Step.refl hh) (.bl _) h5⟩
theorem ok_ne (hu : ∀ j, (Xs j).A.units + 64 < cLine) (hK : ∀ j, (Xs j).K = mg.K := by intro _; rfl) : OpOk Xs mg (compareOp .NotEq) rdNe := by
  refine ⟨fun x y H Q => rNe x y H Q ∨ rNeD mg.K x y H Q, fun j => OpR.or op_ne (by rw [← hK j]; exact op_neD (hu j)), ?_⟩
  intro W H x y dx dy Q Q' hh rx ry h q
  unfold rdNe at h
  split at h
  · rename_i b hb
    obtain ⟨h1, h2⟩ := eqS_v rx ry hb
    exact .inl ⟨h1, by rw [h2]; exact q W H _ _ (Step.refl hh) (.bl _) h⟩
  · obtain ⟨p, p', h1, h2, h3, h4, h5⟩ := h
    exact .inr ⟨p, p', rx.dp hh h1, ry.dp hh h2, h3, h4, q W H _ _ (Step.refl hh) (.bl _) h5⟩
/-- is None, is not None -/
noncomputable def isNon : D → Bool
  | .non => true
  | _ => false
theorem isNon_v {W : Wd} {x : V} {d : D} (r : Rep mg W x d) : decide (x = .non) = isNon d := by
  cases r <;> rfl
noncomputable def rdIs : RD2 := fun x y Q => match y with
  | .non => Q (.bl (isNon x))
  | _ => False
theorem ok_is : OpOk Xs mg (compareOp .Is) rdIs := by
  refine ⟨_, fun j => op_isN, ?_⟩
  intro W H x y dx dy Q Q' hh rx ry h q
  cases ry with
  | non => exact ⟨rfl, by rw [isNon_v rx]; exact q W H _ _ (Step.refl hh) (.bl _) h⟩
  | _ => exact h.elim
/-! ### in -/
noncomputable def flatsD : List D → Option (List V)
  | [] => some []
  | x :: xs => match flatD x, flatsD xs with
    | some p, some ps => some (p :: ps)
    | _, _ => none
theorem flats_v {W : Wd} : ∀ {xs vs : List V} {ds : List D}, Reps mg W xs ds → flatsD ds = some vs → xs = vs
  | _, _, _, .nil, h => by
    cases h
    rfl
  | _, _, _, .cons r rs, h => by
    unfold flatsD at h
    split at h
    · rename_i p ps h1 h2
      cases h
      rw [flat_v r h1, flats_v rs h2]
    · cases h
/-- x in y: a sign in a text, a text in a row of texts -/
noncomputable def inD (x y : D) : Option Bool := match y with
  | .str z => match x with
    | .str a => match a.cps.toList with
      | [c] => some (decide (c ∈ z.cps.toList))
      | _ => none
    | _ => none
  | .lst ys => match flatD x, flatsD ys with
    | some v, some vs => if flatV v = true ∧ vs.all flatV = true then some (inV v vs) else none
    | _, _ => none
  | .tup ys => match flatD x, flatsD ys with
    | some v, some vs => if flatV v = true ∧ vs.all flatV = true then some (inV v vs) else none
    | _, _ => none
  | _ => none
noncomputable def rdIn : RD2 := fun x y Q => match inD x y with
  | some b => Q (.bl b)
  | none => False
noncomputable def rdNotIn : RD2 := fun x y Q => match inD x y with
  | some b => Q (.bl (!b))
  | none => False
theorem str_one {a : Str} {c : Nat} (h : a.cps.toList = [c]) : a = ⟨#[c]⟩ := by
  cases a with
  | mk cps =>
    have e : cps = #[c] := by
      apply Array.ext'
      simpa using h
    rw [e]
theorem inD_row {dx : D} {ys : List D} {b : Bool} (h : (match flatD dx, flatsD ys with
    | some v, some vs => if flatV v = true ∧ vs.all flatV = true then some (inV v vs) else none
    | _, _ => none) = some b) : ∃ v vs, flatD dx = some v ∧ flatsD ys = some vs ∧ flatV v = true ∧ vs.all flatV = true ∧ inV v vs = b := by
  cases h1 : flatD dx with
  | none => rw [h1] at h; cases h
  | some v =>
    cases h2 : flatsD ys with
    | none => rw [h1, h2] at h; cases h
    | some vs =>
      rw [h1, h2] at h
      dsimp only at h
      by_cases hf : flatV v = true ∧ vs.all flatV = true
      · rw [if_pos hf] at h
        exact ⟨v, vs, rfl, rfl, hf.1, hf.2, Option.some.inj h⟩
      · rw [if_neg hf] at h
        cases h
theorem inD_inv {dx dy : D} {b : Bool} (h : inD dx dy = some b) : (∃ a z c, dx = .str a ∧ dy = .str z ∧ a.cps.toList = [c] ∧ decide (c ∈ z.cps.toList) = b) ∨ ∃ ys v vs, (dy = .lst ys ∨ dy = .tup ys) ∧ flatD dx = some v ∧ flatsD ys = some vs ∧ flatV v = true ∧ vs.all flatV = true ∧ inV v vs = b := by
  cases dy with
  | lst ys =>
    obtain ⟨v, vs, k⟩ := inD_row (dx := dx) (ys := ys) (b := b) h
    exact .inr ⟨ys, v, vs, .inl rfl, k⟩
  | tup ys =>
    obtain ⟨v, vs, k⟩ := inD_row (dx := dx) (ys := ys) (b := b) h
    exact .inr ⟨ys, v, vs, .inr rfl, k⟩
  | str z =>
    cases dx with
    | str a =>
      have h : (match a.cps.toList with
        | [c] => some (decide (c ∈ z.cps.toList))
        | _ => none) = some b := h
      cases hc : a.cps.toList with
      | nil => rw [hc] at h; cases h
      | cons c t =>
        cases t with
        | cons => rw [hc] at h; cases h
        | nil =>
          rw [hc] at h
          exact .inl ⟨a, z, c, rfl, rfl, hc, Option.some.inj h⟩
    | _ => cases h
  | _ => cases h
theorem inD_v {W : Wd} {H : Hp} {x y : V} {dx dy : D} {b : Bool} (hh : Holds W H) (rx : Rep mg W x dx) (ry : Rep mg W y dy) (h : inD dx dy = some b) :
    (∃ (c : Nat) (z : Str), x = .str ⟨#[c]⟩ ∧ y = .str z ∧ decide (c ∈ z.cps.toList) = b) ∨ ∃ p xs, y = .ref p ∧ (SqL mg.K H p xs ∨ SqT mg.K H p xs) ∧ flatV x = true ∧ xs.all flatV = true ∧ inV x xs = b := by
  rcases inD_inv h with ⟨a, z, c, rfl, rfl, hc, hb⟩ | ⟨ys, v, vs, hy, h1, h2, h3, h4, h5⟩
  · exact .inl ⟨c, z, by rw [flat_v rx rfl, str_one hc], flat_v ry rfl, hb⟩
  · have e1 := flat_v rx h1
    subst e1
    rcases hy with rfl | rfl
    · cases ry with
      | lst ha ra =>
        have e2 := flats_v ra h2
        subst e2
        exact .inr ⟨_, _, rfl, .inl (SqL.of (hh.same _ _ ha)), h3, h4, h5⟩
    · cases ry with
      | tup ha ra =>
        have e2 := flats_v ra h2
        subst e2
        exact .inr ⟨_, _, rfl, .inr (SqT.of (hh.same _ _ ha)), h3, h4, h5⟩
theorem ok_in (hK : ∀ j, (Xs j).K = mg.K := by intro _; rfl) : OpOk Xs mg (compareOp .In) rdIn := by
  refine ⟨_, fun j => OpR.or op_in_sign (op_inK (hK j)), ?_⟩
  intro W H x y dx dy Q Q' hh rx ry h q
  unfold rdIn at h
  split at h
  · rename_i b hb
    rcases inD_v hh rx ry hb with ⟨c, z, e1, e2, e3⟩ | ⟨p, xs, e1, e2, e3, e4, e5⟩
    · exact .inl ⟨c, z, e1, e2, by rw [e3]; exact q W H _ _ (Step.refl hh) (.bl _) h⟩
    · exact .inr ⟨p, xs, e1, e2, e3, e4, by
        show Q' (.bl (inV x xs)) H
        rw [e5]
        exact q W H _ _ (Step.refl hh) (.bl _) h⟩
  · exact h.elim
end
end FP
/-! FP5: built-in functions by data. -/
namespace FP
open PySem L2
variable [Tabl]
section
variable {ι : Type} {Xs : ι → Cx} {mg : Gm} {Wx : WX} {pos : Pos}
noncomputable def rdLen : RDL := fun ds Q => match ds with
  | [.str z] => z.length ≤ sizeLine ∧ Q (.int z.length)
  | [.lst xs] => Q (.int xs.length)
  | [.fz xs] => Q (.int xs.length)
  | [.tup xs] => Q (.int xs.length)
  | [.dct kvs] => Q (.int kvs.length)
  | _ => False
theorem call_lenK {X : Cx} {K : PySem.W.Frag} (h : X.K = K) : CallR X (.builtin "len") (fun xs H Q => ∃ x n, xs = [x] ∧ LenV K x H n ∧ Q (.int n) H) := by
  subst h
  exact call_len
theorem call_lenF {X : Cx} : CallR X (.builtin "len") (fun xs H Q => ∃ a kvs, xs = [V.ref a] ∧ Rd H a (.dK kvs) ∧ Q (.int kvs.length) H) := by
  intro pins s σ H xs us Q I r h
  obtain ⟨a, kvs, rfl, ha, q⟩ := h
  rw [Vals.ref1 r]
  exact d_len I ha fun t s' I' => ⟨.int kvs.length, H, I', ⟨t, rfl⟩, q⟩
theorem ok_len (hK : ∀ j, (Xs j).K = mg.K := by intro _; rfl) : CallOk Xs mg (.builtin "len") rdLen := by
  refine CallOk.mk (fun j => CallR.or (call_lenK (hK j)) call_lenF) ?_
  intro W H vs ds Q Q' P hh r h q hP
  cases r with
  | nil => exact False.elim h
  | cons r rs =>
    cases r with
    | str =>
      cases rs with
      | nil =>
        delta rdLen at h
        dsimp only at h
        exact hP _ (.inl ⟨_, _, rfl, ⟨h.1, rfl⟩, q W H _ _ (Step.refl hh) (.int _) h.2⟩)
      | cons => exact False.elim h
    | lst ha ra =>
      cases rs with
      | nil =>
        delta rdLen at h
        dsimp only at h
        exact hP _ (.inl ⟨_, _, rfl, .inl ⟨_, SqL.of (hh.same _ _ ha), rfl⟩, by rw [ra.length]; exact q W H _ _ (Step.refl hh) (.int _) h⟩)
      | cons => exact False.elim h
    | fz ha ra =>
      cases rs with
      | nil =>
        delta rdLen at h
        dsimp only at h
        exact hP _ (.inl ⟨_, _, rfl, .inl ⟨_, hh.same.seq ha, rfl⟩, by rw [ra.length]; exact q W H _ _ (Step.refl hh) (.int _) h⟩)
      | cons => exact False.elim h
    | tup ha ra =>
      cases rs with
      | nil =>
        delta rdLen at h
        dsimp only at h
        exact hP _ (.inl ⟨_, _, rfl, .inr ⟨_, SqT.of (hh.same _ _ ha), rfl⟩, by rw [ra.length]; exact q W H _ _ (Step.refl hh) (.int _) h⟩)
      | cons => exact False.elim h
    | dct ha hk ra =>
      cases rs with
      | nil =>
        delta rdLen at h
        dsimp only at h
        refine hP _ (.inr ⟨_, _, rfl, .inr ⟨_, hh.same _ _ ha⟩, ?_⟩)
        have e := congrArg List.length hk
        simp only [List.length_map] at e
        rw [e]
        exact q W H _ _ (Step.refl hh) (.int _) h
      | cons => exact False.elim h
    | _ => exact False.elim h
noncomputable def rdInt : RDL := fun ds Q => match ds with
  | [.int i] => Q (.int i)
  | [.bl b] => Q (.int (if b then 1 else 0))
  | [.str a] => ∃ n, PySem.intText? a = some n ∧ a.length ≤ 640 ∧ Q (.int n)
  | _ => False
theorem ok_int : CallOk Xs mg (.type "int") rdInt := by
  refine CallOk.mk (fun j => CallR.or call_int1 call_int_str) ?_
  intro W H vs ds Q Q' P hh r h q hP
  cases r with
  | nil => exact False.elim h
  | cons r rs =>
    cases r with
    | int =>
      cases rs with
      | nil =>
        delta rdInt at h
        dsimp only at h
        exact hP _ (.inl (.inl ⟨_, rfl, q W H _ _ (Step.refl hh) (.int _) h⟩))
      | cons => exact False.elim h
    | bl =>
      cases rs with
      | nil =>
        delta rdInt at h
        dsimp only at h
        exact hP _ (.inl (.inr ⟨_, rfl, q W H _ _ (Step.refl hh) (.int _) h⟩))
      | cons => exact False.elim h
    | str =>
      cases rs with
      | nil =>
        delta rdInt at h
        dsimp only at h
        obtain ⟨n, h1, h2, h3⟩ := h
        exact hP _ (.inr ⟨_, n, rfl, h1, h2, q W H _ _ (Step.refl hh) (.int _) h3⟩)
      | cons => exact False.elim h
    | _ => exact False.elim h
noncomputable def rdAbs : RDL := fun ds Q => match ds with
  | [.int i] => Q (.int (if i < 0 then -i else i))
  | _ => False
theorem ok_abs : CallOk Xs mg (.builtin "abs") rdAbs := by
  refine CallOk.mk (fun j => call_abs) ?_
  intro W H vs ds Q Q' P hh r h q hP
  cases r with
  | nil => exact False.elim h
  | cons r rs =>
    cases r with
    | int =>
      cases rs with
      | nil =>
        delta rdAbs at h
        dsimp only at h
        exact hP _ (⟨_, rfl, q W H _ _ (Step.refl hh) (.int _) h⟩)
      | cons => exact False.elim h
    | _ => exact False.elim h
noncomputable def rdMax : RDL := fun ds Q => match ds with
  | [.int i, .int j] => Q (.int (if j > i then j else i))
  | _ => False
noncomputable def rdMin : RDL := fun ds Q => match ds with
  | [.int i, .int j] => Q (.int (if j < i then j else i))
  | _ => False
theorem ok_max (hc : ∀ j, (Xs j).calm = true := by intro _; rfl) : CallOk Xs mg (.builtin "max") rdMax := by
  refine ⟨_, fun j => call_max2 (hc j), ?_⟩
  intro W H vs ds Q Q' hh r h q
  cases r with
  | nil => exact False.elim h
  | cons r rs =>
    cases r with
    | int =>
      cases rs with
      | nil => exact False.elim h
      | cons r2 rs =>
        cases r2 with
        | int =>
          cases rs with
          | nil =>
            delta rdMax at h
            dsimp only at h
            exact ⟨_, _, rfl, q W H _ _ (Step.refl hh) (.int _) h⟩
          | cons => exact False.elim h
        | _ => exact False.elim h
    | _ => exact False.elim h
theorem ok_min (hc : ∀ j, (Xs j).calm = true := by intro _; rfl) : CallOk Xs mg (.builtin "min") rdMin := by
  refine ⟨_, fun j => call_min2 (hc j), ?_⟩
  intro W H vs ds Q Q' hh r h q
  cases r with
  | nil => exact False.elim h
  | cons r rs =>
    cases r with
    | int =>
      cases rs with
      | nil => exact False.elim h
      | cons r2 rs =>
        cases r2 with
        | int =>
          cases rs with
          | nil =>
            delta rdMin at h
            dsimp only at h
            exact ⟨_, _, rfl, q W H _ _ (Step.refl hh) (.int _) h⟩
          | cons => exact False.elim h
        | _ => exact False.elim h
    | _ => exact False.elim h
noncomputable def rdStr : RDL := fun ds Q => match ds with
  | [.int i] => i.natAbs.log2 < 1920 ∧ Q (.str (toString i))
  | [.str a] => Q (.str a)
  | _ => False
theorem ok_str : CallOk Xs mg (.type "str") rdStr := by
  refine CallOk.mk (fun j => CallR.or call_str_int SkE.call_str_str) ?_
  intro W H vs ds Q Q' P hh r h q hP
  cases r with
  | nil => exact False.elim h
  | cons r rs =>
    cases r with
    | int =>
      cases rs with
      | nil =>
        delta rdStr at h
        dsimp only at h
        exact hP _ (.inl ⟨_, rfl, h.1, q W H _ _ (Step.refl hh) (.str _) h.2⟩)
      | cons => exact False.elim h
    | str =>
      cases rs with
      | nil =>
        delta rdStr at h
        dsimp only at h
        exact hP _ (.inr ⟨_, rfl, q W H _ _ (Step.refl hh) (.str _) h⟩)
      | cons => exact False.elim h
    | _ => exact False.elim h
/-- truths as data -/
noncomputable def blsD : List D → Option (List Bool)
  | [] => some []
  | .bl b :: r => match blsD r with
    | some bs => some (b :: bs)
    | none => none
  | _ :: _ => none
theorem bls_v {W : Wd} : ∀ {vs : List V} {ds : List D} {bs : List Bool}, Reps mg W vs ds → blsD ds = some bs → vs = bs.map V.bl
  | _, _, _, .nil, h => by
    cases h
    rfl
  | _, _, _, .cons r rs, h => by
    cases r with
    | bl b =>
      unfold blsD at h
      split at h
      · rename_i bs' hb
        cases h
        rw [bls_v rs hb]
        rfl
      · cases h
    | _ => cases h
theorem blsD_map (bs : List Bool) : blsD (bs.map D.bl) = some bs := by
  induction bs with
  | nil => rfl
  | cons b bs ih =>
    show (match blsD (bs.map D.bl) with | some bs => some (b :: bs) | none => none) = _
    rw [ih]
noncomputable def rdAll : RDL := fun ds Q => match ds with
  | [.lst xs] => ∃ bs, blsD xs = some bs ∧ Q (.bl (bs.all id))
  | _ => False
theorem cr_allK {X : Cx} {K : PySem.W.Frag} (h : X.K = K) (hc : X.calm = true) : CallR X (.builtin "all") (rAll K) := by
  subst h
  exact cr_all hc
theorem ok_all (hK : ∀ j, (Xs j).K = mg.K := by intro _; rfl) (hc : ∀ j, (Xs j).calm = true := by intro _; rfl) : CallOk Xs mg (.builtin "all") rdAll := by
  refine ⟨_, fun j => cr_allK (hK j) (hc j), ?_⟩
  intro W H vs ds Q Q' hh r h q
  cases r with
  | nil => exact False.elim h
  | cons r rs =>
    cases r with
    | lst ha ra =>
      cases rs with
      | nil =>
        delta rdAll at h
        dsimp only at h
        obtain ⟨bs, h1, h2⟩ := h
        have e := bls_v ra h1
        subst e
        exact ⟨_, bs, rfl, SqL.of (hh.same _ _ ha), q W H _ _ (Step.refl hh) (.bl _) h2⟩
      | cons => exact False.elim h
    | _ => exact False.elim h
/-! ### list(x), tuple(x) -/
noncomputable def rdList : RDL := fun ds Q => match ds with
  | [.lst xs] => Q (.lst xs)
  | [.tup xs] => Q (.lst xs)
  | [.str z] => z.cps.size ≤ sizeLine ∧ Q (.lst (signsD z))
  | [.dct kvs] => Q (.lst (kvs.map fun kv => match kv.1 with | .inl i => .int i | .inr x => .str x))
  | _ => False
theorem call_listK {X : Cx} {K : PySem.W.Frag} (h : X.K = K) : CallR X (.type "list") (fun xs H Q => ∃ p ys, xs = [.ref p] ∧ (SqL K H p ys ∨ SqT K H p ys) ∧ ∀ l, H l = none → Q (.ref l) (upd H l (.lst ys))) := by
  subst h
  exact call_list_of
noncomputable def rdTuple : RDL := fun ds Q => match ds with
  | [.lst xs] => Q (.tup xs)
  | [.tup xs] => Q (.tup xs)
  | _ => False
theorem call_tupleK {X : Cx} {K : PySem.W.Frag} (h : X.K = K) : CallR X (.type "tuple") (fun xs H Q => ∃ p ys, xs = [.ref p] ∧ ((SqL K H p ys ∧ ∀ l, H l = none → Q (.ref l) (upd H l (.tup ys))) ∨ (SqT K H p ys ∧ Q (.ref p) H))) := by
  subst h
  exact call_tuple_of
theorem ok_tuple (hK : ∀ j, (Xs j).K = mg.K := by intro _; rfl) : CallOk Xs mg (.type "tuple") rdTuple := by
  refine CallOk.mk (fun j => call_tupleK (hK j)) ?_
  intro W H vs ds Q Q' P hh r h q hP
  cases r with
  | nil => exact False.elim h
  | cons r rs =>
    cases r with
    | lst ha ra =>
      cases rs with
      | nil =>
        delta rdTuple at h
        dsimp only at h
        exact hP _ (⟨_, _, rfl, .inl ⟨SqL.of (hh.same _ _ ha), to_tup q hh ra h⟩⟩)
      | cons => exact False.elim h
    | tup ha ra =>
      cases rs with
      | nil =>
        delta rdTuple at h
        dsimp only at h
        exact hP _ (⟨_, _, rfl, .inr ⟨SqT.of (hh.same _ _ ha), q W H _ _ (Step.refl hh) (.tup ha ra) h⟩⟩)
      | cons => exact False.elim h
    | _ => exact False.elim h
/-! ### isinstance with a built-in class -/
noncomputable def tyName : D → Option String
  | .non => some "NoneType"
  | .bl _ => some "bool"
  | .int _ => some "int"
  | .str _ => some "str"
  | .tup _ => some "tuple"
  | .lst _ => some "list"
  | .dct _ => some "dict"
  | .dn _ => none
  | .fz _ => none
  | .ins _ _ => none
  | .tok => some "list"
  | .cl _ => none
  | .fn _ _ => none
noncomputable abbrev dIsi (T : String) (f : DTE) : DTE := fun ρ Q E => f ρ (fun x => match tyName x with
  | some n => ∃ b, kitB n T = some b ∧ Q (.bl b)
  | none => False) E
theorem tyName_v {W : Wd} {H : Hp} {x : V} {d : D} {n : String} (hh : Holds W H) (r : Rep mg W x d) (h : tyName d = some n) : TyX mg.K H x (.type n) := by
  cases r with
  | non => cases h; exact .base .non
  | bl b => cases h; exact .base (.bl b)
  | int i => cases h; exact .base (.int i)
  | str x => cases h; exact .base (.str x)
  | tup ha _ => cases h; exact .base (.tup (hh.same _ _ ha))
  | lst ha _ => cases h; exact .base (.lst (hh.same _ _ ha))
  | dct ha _ _ => cases h; exact .fDict (hh.same _ _ ha)
  | dn _ _ _ _ _ => cases h
  | fz _ _ => cases h
  | ins _ _ _ _ => cases h
  | tok t =>
    cases h
    obtain ⟨_, x, y, z, e⟩ := hh.tok _ t
    exact .base (.lst e)
  | cl _ => cases h
  | fn _ => cases h
theorem call_isiK2 {X : Cx} {K : PySem.W.Frag} (h : X.K = K) : CallR X (.builtin "isinstance") (rIsi K) := by
  subst h
  exact call_isi
theorem de_isi {e : Expr} {f : DTE} {T : Str} {n : String} {p p2 : Pos} (h : DE Xs mg Wx e f) (hm : mg.mg "isinstance" = none) (hmT : mg.mg T = none) (hT : bootBuiltins T = some (.type n)) (hv : bootBuiltins "isinstance" = some (.builtin "isinstance"))
    (hK : ∀ j, (Xs j).K = mg.K := by intro _; rfl) (hM : ∀ j, (Xs j).mg = mg.mg := by intro _; rfl) (hg : ∀ j, Gl (Xs j) "isinstance" := by intro _; rfl) (hgT : ∀ j, Gl (Xs j) T := by intro _; rfl) (hn : T ≠ "__name__" := by decide) (hd : (T == ("__debug__" : Str)) = false := by decide)
    (he : ∀ j, starEach [e, .Name T p2] (Xs j).env = (false, eval e (Xs j).env) :: starEach [.Name T p2] (Xs j).env := by intro _; rfl) (he2 : ∀ j, starEach [.Name T p2] (Xs j).env = [(false, eval (.Name T p2) (Xs j).env)] := by intro _; rfl)
    (hpl : ∀ j, (backTo pos (starEach [.Name T p2] (Xs j).env)).any (·.1) = false := by intro _; rfl) : DE Xs mg Wx (.Call (.Name "isinstance" p) [e, .Name T p2] [] pos) (dIsi n f) := by
  obtain ⟨t, h1, h2⟩ := h
  refine ⟨tCB (rIsi mg.K) (tCons t (tCons (tC (.ty n)) tNil)), fun j => ?_, ?_⟩
  · exact pe_callB (call_isiK2 (hK j)) (hg j) (by rw [hM j]; exact hm) hv (pa_cons (h1 j) (pa_cons (pe_bltn (v := .ty n) (hgT j) (by rw [hM j]; exact hmT) hT rfl hn hd) pa_nil (he2 j)) (he j)) (by decide) (by decide) (he j) (hpl j)
  · intro B ρ Q E hf W σ H Q' hh e x q
    refine h2 B ρ _ E hf W σ H _ hh e x fun W1 H1 v d s1 r1 k1 => ?_
    dsimp only at k1
    split at k1
    · rename_i m hm
      obtain ⟨b, hb, hq⟩ := k1
      exact ⟨v, .ty n, .type m, .type n, b, rfl, .ty n, tyName_v s1.holds r1 hm, kit_ty hb, q W1 H1 _ _ s1 (.bl b) hq⟩
    · exact k1.elim
/-! ### items, slices, join -/
noncomputable def rdIx : RD2 := fun x y Q => match x, y with
  | .lst xs, .int i => ∃ d, atI xs i = some d ∧ Q d
  | .fz xs, .int i => ∃ d, atI xs i = some d ∧ Q d
  | .tup xs, .int i => ∃ d, atI xs i = some d ∧ Q d
  | .str z, .int i => ∃ c, z.length ≤ sizeLine ∧ atI z.cps.toList i = some c ∧ Q (.str ⟨#[c]⟩)
  | .tok, .int i => (0 ≤ i ∧ i < 3) ∧ ∀ j, Q (.int j)
  | _, _ => False
theorem Reps.atI {W : Wd} {vs : List V} {ds : List D} {i : Int} {d : D} (r : Reps mg W vs ds) (h : atI ds i = some d) : ∃ v, L2.atI vs i = some v ∧ Rep mg W v d := by
  unfold L2.atI at h ⊢
  rw [r.length]
  cases q : ixN ds.length i with
  | none =>
    rw [q] at h
    cases h
  | some j =>
    rw [q] at h
    exact r.get h
theorem ix_seqK {X : Cx} {K : PySem.W.Frag} (h : X.K = K) : IxR X (rIx K) := by
  subst h
  exact ix_seq
theorem de_ix {a b : Expr} {fa fb : DTE} (ha : DE Xs mg Wx a fa) (hb : DE Xs mg Wx b fb) (hs : PlainIx b := by exact fun _ _ => rfl) (hK : ∀ j, (Xs j).K = mg.K := by intro _; rfl) : DE Xs mg Wx (.Subscript a b pos) (dOp rdIx fa fb) := by
  obtain ⟨ta, a1, a2⟩ := ha
  obtain ⟨tb, b1, b2⟩ := hb
  refine ⟨_, fun j => pe_ix (ix_seqK (hK j)) (a1 j) (b1 j) hs, Cp.op ?_ a2 b2⟩
  intro W H x y dx dy Q Q' hh rx ry h q
  cases rx with
  | lst ha ra =>
    cases ry with
    | int =>
      delta rdIx at h
      dsimp only at h
      obtain ⟨d, h1, h2⟩ := h
      obtain ⟨v, g1, g2⟩ := ra.atI h1
      exact .inl ⟨_, _, _, v, rfl, rfl, SqL.of (hh.same _ _ ha), g1, q W H _ _ (Step.refl hh) g2 h2⟩
    | _ => exact False.elim h
  | fz ha ra =>
    cases ry with
    | int =>
      delta rdIx at h
      dsimp only at h
      obtain ⟨d, h1, h2⟩ := h
      obtain ⟨v, g1, g2⟩ := ra.atI h1
      exact .inl ⟨_, _, _, v, rfl, rfl, hh.same.seq ha, g1, q W H _ _ (Step.refl hh) g2 h2⟩
    | _ => exact False.elim h
  | tup ha ra =>
    cases ry with
    | int =>
      delta rdIx at h
      dsimp only at h
      obtain ⟨d, h1, h2⟩ := h
      obtain ⟨v, g1, g2⟩ := ra.atI h1
      exact .inr (.inl ⟨_, _, _, v, rfl, rfl, SqT.of (hh.same _ _ ha), g1, q W H _ _ (Step.refl hh) g2 h2⟩)
    | _ => exact False.elim h
  | str =>
    cases ry with
    | int =>
      delta rdIx at h
      dsimp only at h
      obtain ⟨c, h1, h2, h3⟩ := h
      exact .inr (.inr ⟨_, _, c, rfl, rfl, h1, h2, q W H _ _ (Step.refl hh) (.str _) h3⟩)
    | _ => exact False.elim h
  | tok t =>
    cases ry with
    | int i =>
          delta rdIx at h
          dsimp only at h
          obtain ⟨h1, h2⟩ := h
          obtain ⟨_, x, y, z, e⟩ := hh.tok _ t
          have hj : ∃ j, L2.atI [V.int x, V.int y, V.int z] i = some (.int j) := by
            have hi : i = 0 ∨ i = 1 ∨ i = 2 := by omega
            rcases hi with rfl | rfl | rfl
            · exact ⟨x, rfl⟩
            · exact ⟨y, rfl⟩
            · exact ⟨z, rfl⟩
          obtain ⟨j, hj⟩ := hj
          exact .inl ⟨_, _, _, _, rfl, rfl, SqL.of e, hj, q W H _ _ (Step.refl hh) (.int j) (h2 j)⟩
    | _ => exact False.elim h
  | _ => exact False.elim h
/-- texts as data -/
noncomputable def strsD : List D → Option (List Str)
  | [] => some []
  | .str b :: r => match strsD r with
    | some bs => some (b :: bs)
    | none => none
  | _ :: _ => none
theorem strs_v {W : Wd} : ∀ {vs : List V} {ds : List D} {bs : List Str}, Reps mg W vs ds → strsD ds = some bs → vs = bs.map V.str
  | _, _, _, .nil, h => by
    cases h
    rfl
  | _, _, _, .cons r rs, h => by
    cases r with
    | str b =>
      unfold strsD at h
      split at h
      · rename_i bs' hb
        cases h
        rw [strs_v rs hb]
        rfl
      · cases h
    | _ => cases h
theorem strsD_map (bs : List Str) : strsD (bs.map D.str) = some bs := by
  induction bs with
  | nil => rfl
  | cons b bs ih =>
    show (match strsD (bs.map D.str) with | some bs => some (b :: bs) | none => none) = _
    rw [ih]
noncomputable abbrev dJoin (fo fe : DTE) : DTE := fun ρ Q E => fo ρ (fun x => match x with
  | .str a => fe ρ (fun y => match y with
    | .lst xs => ∃ ys, strsD xs = some ys ∧ (ys.map (·.length)).sum + ys.length * a.length ≤ 16777216 ∧ Q (.str (Txt.join a ys))
    | .tup xs => ∃ ys, strsD xs = some ys ∧ (ys.map (·.length)).sum + ys.length * a.length ≤ 16777216 ∧ Q (.str (Txt.join a ys))
    | _ => False) E
  | _ => False) E
theorem de_join {o e : Expr} {fo fe : DTE} {apos : Pos} (ho : DE Xs mg Wx o fo) (he : DE Xs mg Wx e fe) (hK : ∀ j, (Xs j).K = mg.K := by intro _; rfl) (hs : ∀ j, starEach [e] (Xs j).env = [(false, eval e (Xs j).env)] := by intro _; rfl)
    (hb : ∀ j, attributeBase o "join" (Xs j).env (eval o (Xs j).env) = eval o (Xs j).env := by intro _; rfl) (hl : (apos.endLine == pos.line) = true := by rfl) : DE Xs mg Wx (.Call (.Attribute o "join" apos) [e] [] pos) (dJoin fo fe) := by
  obtain ⟨ta, a1, a2⟩ := ho
  obtain ⟨tb, b1, b2⟩ := he
  refine ⟨tM1 (fun x xs H Q => ∃ a p, ∃ ys : List Str, x = .str a ∧ xs = [.ref p] ∧ (SqL mg.K H p (ys.map V.str) ∨ SqT mg.K H p (ys.map V.str)) ∧ (ys.map (·.length)).sum + ys.length * a.length ≤ 16777216 ∧ Q (.str (Txt.join a ys)) H) ta tb, fun j => ?_, ?_⟩
  · have z := pe_join (apos := apos) (pos := pos) (a1 j) (b1 j) (hs j) (hb j) hl
    rw [hK j] at z
    exact z
  · intro B ρ Q E h W σ H Q' hh e x q
    refine a2 B ρ _ E h W σ H _ hh e x fun W1 H1 v1 d1 s1 r1 h1 => ?_
    obtain ⟨a, rfl, h1⟩ := strOf h1
    obtain rfl := r1.strI
    refine ⟨⟨a, rfl⟩, b2 B ρ _ E h1 W1 σ H1 _ s1.holds (e.step s1) (x.step s1) fun W2 H2 v2 d2 s2 r2 h2 => ?_⟩
    cases r2 with
    | lst ha ra =>
      obtain ⟨ys, g1, g2, g3⟩ := h2
      have e' := strs_v ra g1
      subst e'
      exact ⟨a, _, ys, rfl, rfl, .inl (SqL.of (s2.holds.same _ _ ha)), g2, q W2 H2 _ _ (s1.trans s2) (.str _) g3⟩
    | tup ha ra =>
      obtain ⟨ys, g1, g2, g3⟩ := h2
      have e' := strs_v ra g1
      subst e'
      exact ⟨a, _, ys, rfl, rfl, .inr (SqT.of (s2.holds.same _ _ ha)), g2, q W2 H2 _ _ (s1.trans s2) (.str _) g3⟩
    | _ => exact h2.elim
end
end FP
/-! FP6: repr, lists of one's own, the end of a law. -/
namespace FP
open PySem L2
variable [Tabl]
section
variable {ι : Type} {Xs : ι → Cx} {mg : Gm} {Wx : WX} {pos : Pos}
/-! ### repr -/
/-! ### lists of one's own -/
noncomputable def CpO (mg : Gm) (Wx : WX) (t : TE) (g : DTA) : Prop := ∀ B ρ Q E, g ρ Q E → ∀ W σ H Q', Holds W H → EnvR mg B W H σ ρ → ExR mg Wx W H σ E → (∀ W' H' p vs ds, Step W H W' H' → H' p = none → Reps mg W' vs ds → Q ds → Q' (.ref p) (upd H' p (.lst vs))) → t σ H Q'
/-- an expression that gives a new list -/
noncomputable def DO (Xs : ι → Cx) (mg : Gm) (Wx : WX) (e : Expr) (g : DTA) : Prop := ∃ t, (∀ i, PE (Xs i) e t) ∧ CpO mg Wx t g
noncomputable abbrev dLen (g : DTA) : DTA := fun ρ Q E => g ρ (fun xs => xs.length ≤ sizeLine ∧ Q xs) E
theorem do_lst {es : List Expr} {g : DTA} (h : DA Xs mg Wx es g) : DO Xs mg Wx (.List es pos) (dLen g) := by
  obtain ⟨t, h1, h2⟩ := h
  refine ⟨_, fun i => pe_lst (h1 i), fun B ρ Q E hf W σ H Q' hh e x q => h2 B ρ _ E hf W σ H _ hh e x fun W1 H1 vs ds s1 r1 k1 => ?_⟩
  exact ⟨by rw [r1.length]; exact k1.1, fun p hp => q W1 H1 p vs ds s1 hp r1 k1.2⟩
noncomputable abbrev dSetO (i : Nat) (g : DTA) : DTS := fun N ρ => g ρ (fun ds => N.nx (ρ.set i (.own ds))) (fun x => N.rs x ρ)
theorem ds_setO {i : Nat} {x : Str} {e : Expr} {g : DTA} {pos' : Pos} (h : DO Xs mg Wx e g) (hN : ∀ j, (Xs j).N.Nodup) (hi : ∀ j, (Xs j).N[i]? = some x := by intro _; rfl) (hx : ∀ j, Loc (Xs j).env.scope x := by intro _; first | exact Or.inl rfl | exact Or.inr rfl)
    (hs : ∀ j, swapsWith e (some (.Name x pos')) pos.line (Xs j).env = pure false := by intro _; rfl) (hf : ∀ j, (Xs j).fn x = true ∨ (Xs j).env.scope.names.lookup x = some .local := by intro _; first | exact .inl rfl | exact .inr rfl) : DS Xs mg Wx (.Assign [.Name x pos'] e pos) (dSetO i g) := by
  obtain ⟨t, h1, h2⟩ := h
  refine ⟨_, fun j => ps_set (i := i) (hN j) (hi j) (hx j) (h1 j) (hs j) (hf j), fun W0 B N ρ hf W σ H Ds s e n => ?_⟩
  refine h2 B ρ _ _ hf W σ H _ s.holds e (n.ex s e) fun W1 H1 p vs ds s1 hp r1 k1 => ?_
  have s01 := s.trans s1
  have bp : B p = none := by
    cases q : B p with
    | none => rfl
    | some o =>
      obtain ⟨o', e'⟩ := s01.live p o q
      rw [e'] at hp
      cases hp
  exact n.nx W1 _ _ _ (s01.trans (Step.lay s01.holds hp)) ((e.step s1).setOwn s01.holds hp bp r1) k1
/-- the own list is handed on ahead of a statement -/
noncomputable abbrev dFrz (i : Nat) (f : DTS) : DTS := fun N ρ => match ρ[i]? with
  | some (.own xs) => f N (ρ.set i (.d (.lst xs)))
  | _ => False
theorem CpS.frz {i : Nat} {t : TS} {f : DTS} (h : CpS mg Wx t f) : CpS mg Wx t (dFrz i f) := by
  intro W0 B N ρ hf W σ H Ds s e n
  unfold dFrz at hf
  split at hf
  · rename_i xs hx
    obtain ⟨p, vs, h1, h2, h3, h4, h5, r, e'⟩ := e.freeze s.holds hx
    exact h W0 B N _ hf _ σ H Ds (s.taken h5 h2 h3 h4) e' n
  · exact hf.elim
theorem ds_frz (i : Nat) {st : Stmt} {f : DTS} (h : DS Xs mg Wx st f) : DS Xs mg Wx st (dFrz i f) := by
  obtain ⟨t, h1, h2⟩ := h
  exact ⟨t, h1, h2.frz⟩
/-- x.append(e), x one's own -/
noncomputable abbrev dApp (i : Nat) (f : DTE) : DTS := fun N ρ => match ρ[i]? with
  | some (.own xs) => f ρ (fun d => xs.length < sizeLine ∧ N.nx (ρ.set i (.own (xs ++ [d])))) (fun x => N.rs x ρ)
  | _ => False
theorem ds_append (i : Nat) {x : Str} {e : Expr} {f : DTE} {p apos cpos : Pos} (h : DE Xs mg Wx e f) (hN : ∀ j, (Xs j).N[i]? = some x := by intro _; rfl) (hv : ∀ j, Vis (Xs j).env.scope x := by intro _; first | exact Or.inl rfl | exact Or.inr (Or.inl rfl) | exact Or.inr (Or.inr rfl))
    (hd : (x == ("__debug__" : Str)) = false := by decide) (hcd : (x == ("__classdict__" : Str)) = false := by decide)
    (pe : ∀ j t, PE (Xs j) e t → PS (Xs j) (.Expr (.Call (.Attribute (.Name x p) "append" apos) [e] [] cpos) pos) (tDrop (tBM (Xs j).K "list" rAppend (tVar i) (tCons t tNil)))) (hK : ∀ j, (Xs j).K = mg.K := by intro _; rfl) :
    DS Xs mg Wx (.Expr (.Call (.Attribute (.Name x p) "append" apos) [e] [] cpos) pos) (dApp i f) := by
  obtain ⟨t, h1, h2⟩ := h
  refine ⟨tDrop (tBM mg.K "list" rAppend (tVar i) (tCons t tNil)), fun j => by rw [← hK j]; exact pe j t (h1 j), fun W0 B N ρ hf W σ H Ds s e n => ?_⟩
  unfold dApp at hf
  split at hf
  · rename_i xs hx
    obtain ⟨o, g1, a, vs, g2, g3, g4, g5, g6, r⟩ := e.sl i _ hx
    subst g2
    refine ⟨.ref a, g1, .inl ⟨rfl, _, SqL.of g3⟩, ?_⟩
    refine h2 B ρ _ _ hf W σ H _ s.holds e (n.ex s e) fun W1 H1 v d s1 r1 k1 => ?_
    have e1 := e.step s1
    obtain ⟨o', q1, a', vs', q2, q3, q4, q5, q6, r'⟩ := e1.sl i _ hx
    rw [g1] at q1
    cases q1
    cases q2
    refine ⟨a, vs', v, rfl, rfl, q3, by rw [r'.length]; exact k1.1, ?_⟩
    exact n.nx W1 _ σ _ ((s.trans s1).own q6 q3 q4 q5) (e1.own (us := vs') hx g1 (r'.snoc r1)) k1.2
  · exact hf.elim
end
end FP
namespace FP
open PySem PySem.Spec PyProof.Rows L2
variable [Tabl]
/-! ### the end of a law -/
section
variable {P : Program} {w : World} {K : PySem.W.Frag} {mg mb : Str → Option Value} {k : Nat} {fa a : Addr} {sp : Sp} {z₁ : Shared} {vs : List Value} {ns : List Int}
/-- what is asked of the call -/
noncomputable abbrev Fine (z₁ : Shared) : Result → Shared → Prop := fun r z' => r = .ok (.ret (.bool true)) ∧ OldK z₁.heap z'.heap ∧ z'.os = z₁.os ∧ AllBare z'.gens
theorem end_at (KX : K.In z₁.heap) (gl : z₁.heap.Ns mainGlobals mg) (bl : z₁.heap.Ns builtinsNs mb) (bb : ∀ y : Str, y ≠ "__name__" → mb y = bootBuiltins y) (lim : z₁.heap.NoLimit) (gn : z₁.gens = #[])
    (ha : z₁.heap.get? a = some { cls := .type "list", data := .seq vs.toArray }) (hr : RmG k callerA) (F : ∀ base : Heap, K.In base → base.Ns mainGlobals mg → ∃ fd ps, Binds K fd ps [] ∧ FnG P w K mg base k fa fd ps sp)
    {H : Hp} (only : Only H) (hok : HOk P w H z₁.heap) (atA : ∀ b, H b ≠ none → b = a) (offK : H a ≠ none → K.lookup a = none) (want : sp [.ref a] H (fun v _ => v = .bl true) fun _ _ _ => False) (noX : ∀ e z', L2.CX P w [] H z₁ (fun _ _ _ => False) e z' → False) :
    codeAny (model P w) callerA (.call (.ref fa) ⟨[.ref a], []⟩) (Fine z₁) z₁ := by
  -- dicts are not tracked
  have free : ∀ {c : Addr} {o : Obj} {es : Array DictEntry} {ep : Nat}, z₁.heap.get? c = some o → o.data = .dict es ep → H c = none := by
    intro c o es ep hc hd
    rcases hH : H c with _ | u
    · rfl
    · have ca : c = a := atA c (by rw [hH]; exact Option.some_ne_none u)
      rw [ca, ha] at hc
      cases hc
      cases hd
  have ns' : ∀ {c : Addr} {m : Str → Option Value}, z₁.heap.Ns c m → (hidT z₁.heap H).Ns c m := by
    rintro c m ⟨o, es, ep, h1, h2, h3⟩
    exact ⟨o, es, ep, hidT_get h1 (free h1 h2), h2, h3⟩
  have kin : K.In (hidT z₁.heap H) := by
    intro c o hc
    refine hidT_get (KX c o hc) ?_
    rcases hH : H c with _ | u
    · rfl
    · have ca : c = a := atA c (by rw [hH]; exact Option.some_ne_none u)
      subst ca
      rw [offK (by rw [hH]; exact Option.some_ne_none u)] at hc
      cases hc
  obtain ⟨mc, l1, l2⟩ := lim
  have md : Mod K mg (hidT z₁.heap H) := ⟨kin, ns' gl, ⟨mb, ns' bl, bb⟩, ⟨mc, ns' l1, l2⟩⟩
  have en : Env0 P w K mg (hidT z₁.heap H) callerA [] z₁ H := by
    refine ⟨rfl, md, fun c o q => of_hidT q, Nat.le_of_eq (hidT_size _ _), trivial, ?_, hok, .of_eq gn⟩
    intro c hc
    cases hc
  obtain ⟨fd, ps, bd, fn⟩ := F _ kin (ns' gl)
  have bz := bd z₁ [.ref a] KX (fn.ln _ _ _ _ want)
  rw [List.append_nil] at bz
  have run := fn.go callerA [] z₁ H ⟨[.ref a], []⟩ [.ref a] [.ref a] _ _ hr en bz (.cons rfl .nil) want
  refine codeAny_mono run ?_
  intro res z' hres
  match res, hres with
  | .error e, hq => exact (noX e z' hq).elim
  | .ok .next, hq => exact hq.elim
  | .ok .brk, hq => exact hq.elim
  | .ok .cont, hq => exact hq.elim
  | .ok (.ret u), ⟨v, H', os, bare, un, ok', ru, hv⟩ =>
    have hv' : v = .bl true := hv
    subst hv'
    have hu : u = Value.bool true := ru
    subst hu
    refine ⟨rfl, OldK.of_keep ?_, os, bare⟩
    intro c o hc
    rcases only c with hn | ⟨ob, xs, hf⟩
    · exact un.keep c o hc hn (by intro q; cases q) (by intro q; cases q)
    · have f2 := un.frzs c ob _ hf
      have g1 := (hok c _ hf).1
      have g2 := (ok' c _ f2).1
      rw [hc] at g1
      cases g1
      exact g2
theorem end_law (KX : K.In z₁.heap) (gl : z₁.heap.Ns mainGlobals mg) (bl : z₁.heap.Ns builtinsNs mb) (bb : ∀ y : Str, y ≠ "__name__" → mb y = bootBuiltins y) (lim : z₁.heap.NoLimit) (gn : z₁.gens = #[])
    (ha : z₁.heap.get? a = some { cls := .type "list", data := .seq vs.toArray }) (hi : IntsAre vs ns) (hl : ns.length ≤ sizeLine) (hr : RmG k callerA) (F : ∀ base : Heap, K.In base → base.Ns mainGlobals mg → ∃ fd ps, Binds K fd ps [] ∧ FnG P w K mg base k fa fd ps sp)
    (want : ∀ H : Hp, Only H → SqL K H a (ns.map V.int) → sp [.ref a] H (fun v _ => v = .bl true) fun _ _ _ => False) (noX : ∀ H e z', L2.CX P w [] H z₁ (fun _ _ _ => False) e z' → False) :
    codeAny (model P w) callerA (.call (.ref fa) ⟨[.ref a], []⟩) (Fine z₁) z₁ := by
  have rv := vals_ints hi
  have lv := hi.length
  rcases hk : K.lookup a with _ | o
  · have only : Only (upd (fun _ => none) a (.frz { cls := .type "list", data := .seq vs.toArray } (.lst (ns.map V.int)))) := by
      intro c
      by_cases hc : c = a
      · subst hc
        exact .inr ⟨_, _, upd_same⟩
      · exact .inl (upd_ne hc)
    refine end_at KX gl bl bb lim gn ha hr F only ?_ ?_ (fun _ => hk) (want _ only (.inl (.inr ⟨_, upd_same⟩))) (noX _)
    · intro c u hc
      by_cases hca : c = a
      · subst hca
        rw [upd_same] at hc
        cases hc
        refine ⟨ha, ?_, vs, _, rv, ha⟩
        rw [List.length_map]
        exact hl
      · rw [upd_ne hca] at hc
        cases hc
    · intro c hc
      by_cases hca : c = a
      · exact hca
      · exact absurd (upd_ne hca) hc
  · have ho := KX a o hk
    rw [ha] at ho
    cases ho
    have only : Only (fun _ => none) := fun _ => .inl rfl
    refine end_at KX gl bl bb lim gn ha hr F only (fun c u hc => by cases hc) (fun c hc => absurd rfl hc) (fun hc => absurd rfl hc) (want _ only (.inr ⟨_, vs.toArray, _, hk, rfl, rfl, rfl, ?_, by simpa using rv⟩)) (noX _)
    rw [List.size_toArray, lv]
    exact hl
end
/-- the script as a datum -/
noncomputable abbrev scriptD (ns : List Int) : D := .fz (ns.map D.int)
end FP
/-! FP7: the dice; a comprehension that empties a list of one's own. -/
namespace FP
open PySem L2
variable [Tabl]
section
variable {ι : Type} {Xs : ι → Cx} {mg : Gm} {Wx : WX} {pos : Pos}
/-! ### dice -/
theorem Step.dice {W : Wd} {H : Hp} (h : Holds W H) {a : Addr} (t : W.Dc a) {x y z : Int} : Step W H W (upd H a (.lst [.int x, .int y, .int z])) := by
  obtain ⟨ta, x0, y0, z0, ea⟩ := h.tok a t
  obtain ⟨na, _⟩ := h.exm a ta
  refine ⟨Le.refl W, ⟨fun b u e => ?_, fun b tb => ?_, fun b tb => ?_, fun q hq => ?_, fun b ps e => ?_⟩, fun b u e n => ?_, fun _ _ _ => rfl, fun b t => .inl t, fun b u e => ?_⟩
  · rw [upd_ne (ne_of_none e na)]
    exact h.same b u e
  · obtain ⟨h1, u, h2⟩ := h.exm b tb
    by_cases hb : b = a
    · subst hb
      exact ⟨h1, _, upd_same⟩
    · exact ⟨h1, u, by rw [upd_ne hb]; exact h2⟩
  · by_cases hb : b = a
    · subst hb
      exact ⟨ta, x, y, z, upd_same⟩
    · rw [upd_ne hb]
      exact h.tok b tb
  · obtain ⟨h1, ps, h2, h3, h4⟩ := h.tab q hq
    have nq : q.1 ≠ a := fun z => by
      rw [z, ea] at h2
      cases h2
    refine ⟨h1, ps, by rw [upd_ne nq]; exact h2, h3, fun pos cv hc => ?_⟩
    obtain ⟨c, e1, e2⟩ := h4 pos cv hc
    have nc : c ≠ a := fun z => by
      rw [z, ea] at e2
      cases e2
    exact ⟨c, e1, by rw [upd_ne nc]; exact e2⟩
  · by_cases hb : b = a
    · rw [hb, upd_same] at e
      cases e
    · rw [upd_ne hb] at e
      exact h.all b ps e
  · rw [upd_ne fun q => n (by rw [q]; exact ta)]
    exact e
  · by_cases hb : b = a
    · subst hb
      exact ⟨_, upd_same⟩
    · rw [upd_ne hb]
      exact ⟨u, e⟩
/-- x[k] = e, x dice -/
noncomputable abbrev dTok (i : Nat) (k : Int) (f : DTE) : DTS := fun N ρ => f ρ (fun d => match d, ρ[i]? with
  | .int _, some (.d .tok) => (0 ≤ k ∧ k < 3) ∧ N.nx ρ
  | _, _ => False) (fun x => N.rs x ρ)
theorem ds_tok (i : Nat) {x : Str} {k : Int} {e : Expr} {f : DTE} {p p2 p3 : Pos} {jj : Nat} (h : DE Xs mg Wx e f) (hN : ∀ j, (Xs j).N[i]? = some x := by intro _; rfl) (hv : ∀ j, Vis (Xs j).env.scope x := by intro _; first | exact Or.inl rfl | exact Or.inr (Or.inl rfl) | exact Or.inr (Or.inr rfl))
    (pg : ∀ j t, PE (Xs j) e t → PS (Xs j) (.Assign [.Subscript (.Name x p) (.Constant (.int k) jj p2) p3] e pos) (tAsg t (gSub (tVar i) (tC (.int k)) rSetL))) : DS Xs mg Wx (.Assign [.Subscript (.Name x p) (.Constant (.int k) jj p2) p3] e pos) (dTok i k f) := by
  obtain ⟨t, h1, h2⟩ := h
  refine ⟨_, fun j => pg j t (h1 j), fun W0 B N ρ hf W σ H Ds s e n => ?_⟩
  refine h2 B ρ _ _ hf W σ H _ s.holds e (n.ex s e) fun W1 H1 v d s1 r1 k1 => ?_
  dsimp only at k1
  split at k1
  · rename_i c hr
    obtain ⟨hk, k2⟩ := k1
    have e1 := e.step s1
    obtain ⟨v', g1, g2⟩ := e1.get hr
    cases r1
    cases g2 with
    | @tok a ta =>
      obtain ⟨_, x0, y0, z0, ha⟩ := s1.holds.tok a ta
      have hj : ∃ j u1 u2 u3, ixN 3 k = some j ∧ ([V.int x0, V.int y0, V.int z0].set j (V.int c)) = [V.int u1, V.int u2, V.int u3] := by
        have hi : k = 0 ∨ k = 1 ∨ k = 2 := by omega
        rcases hi with rfl | rfl | rfl
        · exact ⟨0, c, y0, z0, rfl, rfl⟩
        · exact ⟨1, x0, c, z0, rfl, rfl⟩
        · exact ⟨2, x0, y0, c, rfl, rfl⟩
      obtain ⟨j, u1, u2, u3, hj, hs⟩ := hj
      have st := Step.dice s1.holds ta (x := u1) (y := u2) (z := u3)
      refine ⟨_, g1, a, _, k, j, rfl, rfl, ha, hj, ?_⟩
      rw [hs]
      exact n.nx W1 _ σ ρ ((s.trans s1).trans st) (e1.step st) k2
  · exact k1.elim
/-- return [a, b, c]: new dice -/
noncomputable abbrev dRetTok (g : DTA) : DTS := fun N ρ => g ρ (fun ds => match ds with
  | [.int _, .int _, .int _] => N.rt .tok ρ
  | _ => False) (fun x => N.rs x ρ)
theorem ds_retTok {es : List Expr} {g : DTA} {p : Pos} (h : DA Xs mg Wx es g) : DS Xs mg Wx (.Return (some (.List es p)) pos) (dRetTok g) := by
  obtain ⟨t, h1, h2⟩ := h
  refine ⟨_, fun j => ps_ret (pe_lst (h1 j)), fun W0 B N ρ hf W σ H Ds s e n => ?_⟩
  refine h2 B ρ _ _ hf W σ H _ s.holds e (n.ex s e) fun W1 H1 vs ds s1 r1 k1 => ?_
  split at k1
  · rename_i x y z
    cases r1 with
    | cons r rs =>
      cases r
      cases rs with
      | cons r rs =>
        cases r
        cases rs with
        | cons r rs =>
          cases r
          cases rs
          refine ⟨by show 3 ≤ sizeLine; decide, fun p hp => ?_⟩
          have hh := s1.holds
          have nw := hh.same.free hp
          have h0 := hh.lay (o := .lst [.int x, .int y, .int z]) hp (by intro _ h; cases h)
          have st : Step W1 H1 { W1 with T := fun b => W1.T b ∨ b = p, Dc := fun b => W1.Dc b ∨ b = p } (upd H1 p (.lst [.int x, .int y, .int z])) := by
            refine ⟨⟨Same.refl _, fun _ t => .inl t, fun _ t => .inl t⟩, ⟨h0.same, fun b tb => ?_, fun b tb => ?_, fun q hq => ⟨.inl (h0.tab q hq).1, (h0.tab q hq).2⟩, h0.all⟩, fun b u q _ => ?_, fun _ _ _ => rfl, fun b tb => ?_, fun b u q => ?_⟩
            · rcases tb with tb | rfl
              · exact h0.exm b tb
              · exact ⟨nw, _, upd_same⟩
            · rcases tb with tb | rfl
              · exact ⟨.inl (h0.tok b tb).1, (h0.tok b tb).2⟩
              · exact ⟨.inr rfl, x, y, z, upd_same⟩
            · rw [upd_ne (ne_of_none q hp)]
              exact q
            · rcases tb with tb | rfl
              · exact .inl tb
              · exact .inr hp
            · exact ⟨u, by rw [upd_ne (ne_of_none q hp)]; exact q⟩
          exact n.rt _ _ σ ρ _ _ ((s.trans s1).trans st) (e.step (s1.trans st)) (.tok (.inr rfl)) k1
  · exact k1.elim
/-! ### list(x) as a list of one's own; its length -/
noncomputable abbrev dListO (g : DTA) : DTA := fun ρ Q E => g ρ (fun ds => match ds with
  | [.lst xs] => Q xs
  | [.tup xs] => Q xs
  | _ => False) E
theorem do_list {e : Expr} {g : DTA} {p : Pos} (h : DA Xs mg Wx [e] g) (hm : mg.mg "list" = none) (hv : bootBuiltins "list" = some (.type "list")) (hK : ∀ j, (Xs j).K = mg.K := by intro _; rfl) (hM : ∀ j, (Xs j).mg = mg.mg := by intro _; rfl) (hg : ∀ j, Gl (Xs j) "list" := by intro _; rfl)
    (he : ∀ j, starEach [e] (Xs j).env = [(false, eval e (Xs j).env)] := by intro _; rfl) : DO Xs mg Wx (.Call (.Name "list" p) [e] [] pos) (dListO g) := by
  obtain ⟨t, h1, h2⟩ := h
  refine ⟨_, fun j => pe_callTy (call_listK (hK j)) (hg j) (by rw [hM j]; exact hm) hv (h1 j) (by decide) (by decide) (he j) rfl, fun B ρ Q E hf W σ H Q' hh e x q => ?_⟩
  refine h2 B ρ _ E hf W σ H _ hh e x fun W1 H1 vs ds s1 r1 k1 => ?_
  split at k1
  · cases r1 with
    | cons r rs =>
      cases rs
      cases r with
      | lst ha ra => exact ⟨_, _, rfl, .inl (SqL.of (s1.holds.same _ _ ha)), fun l hl => q W1 H1 l _ _ s1 hl ra k1⟩
  · cases r1 with
    | cons r rs =>
      cases rs
      cases r with
      | tup ha ra => exact ⟨_, _, rfl, .inr (SqT.of (s1.holds.same _ _ ha)), fun l hl => q W1 H1 l _ _ s1 hl ra k1⟩
  · exact k1.elim
noncomputable abbrev dLenO (i : Nat) : DTE := fun ρ Q _ => match ρ[i]? with
  | some (.own xs) => Q (.int xs.length)
  | _ => False
theorem de_lenO (i : Nat) {x : Str} {p p2 : Pos} (hm : mg.mg "len" = none) (hN : ∀ j, (Xs j).N[i]? = some x := by intro _; rfl) (hv : ∀ j, Vis (Xs j).env.scope x := by intro _; first | exact Or.inl rfl | exact Or.inr (Or.inl rfl) | exact Or.inr (Or.inr rfl))
    (hd : (x == ("__debug__" : Str)) = false := by decide) (hcd : (x == ("__classdict__" : Str)) = false := by decide) (hK : ∀ j, (Xs j).K = mg.K := by intro _; rfl) (hM : ∀ j, (Xs j).mg = mg.mg := by intro _; rfl) (hg : ∀ j, Gl (Xs j) "len" := by intro _; rfl)
    (he : ∀ j, starEach [.Name x p2] (Xs j).env = [(false, eval (.Name x p2) (Xs j).env)] := by intro _; rfl) : DE Xs mg Wx (.Call (.Name "len" p) [.Name x p2] [] pos) (dLenO i) := by
  refine ⟨_, fun j => pe_callB (call_lenK (hK j)) (hg j) (by rw [hM j]; exact hm) PySem.boot_len (pa_cons (pe_var (i := i) (hN j) (hv j) hd hcd) pa_nil (he j)) (by decide) (by decide) (he j) rfl, fun B ρ Q E hf W σ H Q' hh e x q => ?_⟩
  unfold dLenO at hf
  split at hf
  · rename_i xs hx
    obtain ⟨o, g1, a, vs, g2, g3, g4, g5, g6, r⟩ := e.sl i _ hx
    subst g2
    refine ⟨_, g1, _, _, rfl, .inl ⟨_, SqL.of g3, rfl⟩, ?_⟩
    rw [r.length]
    exact q W H _ _ (Step.refl hh) (.int _) hf
  · exact hf.elim
/-! ### return [own.pop(index) for .. in ..] -/
theorem EnvR.off {B : Hp} {W : Wd} {H : Hp} {σ : St} {ρ : Env} (e : EnvR mg B W H σ ρ) {A : Addr} {o : HO} (h : ∀ (j : Nat) (t : Sl) (o : Option V), ρ[j]? = some t → σ[j]? = some o → A ∉ t.fp o) : EnvR mg B W (upd H A o) σ ρ := by
  refine ⟨e.len, fun j sl hj => ?_, e.dis⟩
  obtain ⟨o', h1, h2⟩ := e.sl j sl hj
  refine ⟨o', h1, h2.keep (Le.refl W) fun a ha u h5 h6 h7 => ⟨?_, h6, h7⟩⟩
  have ne : a ≠ A := fun q => h j sl o' hj h1 (by rw [← q]; exact ha)
  rw [upd_ne ne]
  exact h5
noncomputable def popD (T : Tg) (i : Nat) (f : DTE) (ρ : Env) (vs : List Nat) : List D → List D → (List D → Prop) → Prop
  | [], _, Q => Q []
  | d :: ds, xs, Q => ∃ ρ2, T.put d (wipeD (ρ.set i (.own xs)) vs) = some ρ2 ∧ ρ2[i]? = some (.own xs) ∧ f ρ2 (fun z => match z with
    | .int k => ∃ y, (0 ≤ k ∧ k < xs.length ∧ k < 2 ^ 62) ∧ xs[k.toNat]? = some y ∧ popD T i f ρ vs ds (xs.eraseIdx k.toNat) fun rs => Q (y :: rs)
    | _ => False) F0
noncomputable abbrev dRetPop (w : DTI) (T : Tg) (i : Nat) (f : DTE) (vs : List Nat) : DTS := fun N ρ => match ρ[i]? with
  | some (.own xs) => w ρ (fun ds => ds.length ≤ sizeLine ∧ popD T i f ρ vs ds xs fun rs => N.rt (.lst rs) (noEnv ρ)) (fun x => N.rs x ρ)
  | _ => False
noncomputable def PopI (mg : Gm) (A : Addr) (W0 : Wd) (B : Hp) (W1 : Wd) (σ : St) (i : Nat) (ρ : Env) (n : Nat) (K : List D → List D → Prop) : Hp → Prop := fun H' => ∃ W' us acc xs, Step W0 B W' H' ∧ Le W1 W' ∧ AccL mg A W' H' us acc n ∧ EnvR mg B W' H' σ (ρ.set i (.own xs)) ∧ K xs acc
theorem seqIx_in {k : Int} {n : Nat} (h0 : 0 ≤ k) (h1 : k < n) : seqIndex? k n = some k.toNat := by
  unfold seqIndex?
  have hn : ¬ k < 0 := by omega
  have hand : (decide (0 ≤ k) && decide (k < (n : Int))) = true := by
    rw [Bool.and_eq_true]
    exact ⟨decide_eq_true h0, decide_eq_true h1⟩
  rw [if_neg hn, if_pos hand]
theorem set_id {α : Type} {l : List α} {i : Nat} {x : α} (h : l[i]? = some x) : l.set i x = l := by
  apply List.ext_getElem?
  intro j
  by_cases hj : i = j
  · subst hj
    rw [set_get h, h]
  · rw [List.getElem?_set_ne hj]
theorem ds_retPop {i : Nat} {tg iter idx : Expr} {x : Str} {p apos cpos lpos : Pos} {scope : Scope} {own : List (Str × Nat)} {w : DTI} {T : Tg} {f : DTE} (hN : ∀ j, (Xs j).N.Nodup) (hi : DI Xs mg Wx tg iter w) (ok : ∀ j, BlkOk (Xs j).N (Xs j).env.scope scope own) (hg : DG (blkF Xs scope) mg tg T) (he : DE (blkF Xs scope) mg Wx0 idx f)
    (pe : ∀ j t, PE (blkF Xs scope j) idx t → PE (blkF Xs scope j) (.Call (.Attribute (.Name x p) "pop" apos) [idx] [] cpos) (tBM (blkF Xs scope j).K "list" rPopAt (tVar i) (tCons t tNil))) (hio : i ∉ own.map (·.2) := by decide) (hK : ∀ j, (Xs j).K = mg.K := by intro _; rfl)
    (hv : ∀ k ∈ T.slots, k ∈ own.map (·.2) := by decide) (hc : ∀ j, (Xs j).calm = true := by intro _; rfl) (hs : ∀ j x, foldedSetIterable iter (Xs j).env x = pure x := by intro _ _; rfl) :
    DS Xs mg Wx (.Return (some (.ListComp (.Call (.Attribute (.Name x p) "pop" apos) [idx] [] cpos) [⟨tg, iter, [], 0⟩] scope lpos)) pos) (dRetPop w T i f (own.map (·.2))) := by
  obtain ⟨wi, i1, i2⟩ := hi
  obtain ⟨g, g1, g2⟩ := hg
  obtain ⟨te, e1, e2⟩ := he
  have pe' : ∀ j, PE (blkF Xs scope j) (.Call (.Attribute (.Name x p) "pop" apos) [idx] [] cpos) (tBM mg.K "list" rPopAt (tVar i) (tCons te tNil)) := fun j => by
    have z := pe j te (e1 j)
    have hk : (blkF Xs scope j).K = mg.K := hK j.1
    rw [hk] at z
    exact z
  refine ⟨_, fun j => ps_ret (pe_lc (tt := tYes) (hc j) (hN j) (i1 j) (ok j) (fun s H C cl fp => g1 (j, s, H, C, cl, fp)) (fun _ _ _ _ _ => pts_nil) (fun s H C cl fp => pe' (j, s, H, C, cl, fp)) (hs j)), fun W0 B N ρ hf W σ H Ds s e n => ?_⟩
  unfold dRetPop at hf
  split at hf
  · rename_i xs0 hx0
    refine i2 B ρ _ _ hf W σ H _ s.holds e (n.ex s e) fun W1 H1 J ds s1 wk k1 => ?_
    obtain ⟨hsz, k1⟩ := k1
    intro A hA
    have s01 := s.trans s1
    have bA : B A = none := by
      cases q : B A with
      | none => rfl
      | some o =>
        obtain ⟨o', e'⟩ := s01.live A o q
        rw [e'] at hA
        cases hA
    have e1 := e.step s1
    have offA : ∀ (j : Nat) (t : Sl) (o : Option V), ρ[j]? = some t → σ[j]? = some o → A ∉ t.fp o := fun j t o hj q mt => by
      obtain ⟨o', h1, h2⟩ := e1.sl j _ hj
      rw [q] at h1
      cases h1
      obtain ⟨u, h4, _⟩ := h2.at mt
      rw [h4] at hA
      cases hA
    have offB : ∀ (xs : List D) (j : Nat) (t : Sl) (o : Option V), (ρ.set i (.own xs))[j]? = some t → σ[j]? = some o → A ∉ t.fp o := fun xs j t o hj ho => by
      rcases get_set hj with ⟨rfl, z⟩ | ⟨_, q⟩
      · rw [← z]
        exact offA i (.own xs0) o hx0 ho
      · exact offA j t o q ho
    have own0 : ρ.set i (.own xs0) = ρ := set_id hx0
    refine ⟨fun m k H' => k = ds.length - m ∧ m ≤ ds.length ∧ PopI mg A W0 B W1 σ i ρ m (fun xs acc => popD T i f ρ (own.map (·.2)) (ds.drop m) xs (fun rs => N.rt (.lst (acc ++ rs)) (noEnv ρ))) H',
      ⟨ds.length, rfl, Nat.zero_le _, W1, [], [], xs0, s01.trans (Step.lay s01.holds hA), Le.refl _, .new s01.holds hA, by rw [own0]; exact e1.off offA, k1⟩, ?_⟩
    rintro m k H' ⟨rfl, hm, W', us, acc, xs, s', l', I, e', k'⟩
    obtain ⟨go, stop, yld⟩ := wk W' H' l' s'.holds
    by_cases hlt : m < ds.length
    · refine .inr ⟨go m hlt, PopI mg A W0 B W1 σ i ρ (m + 1) (fun xs acc => popD T i f ρ (own.map (·.2)) (ds.drop (m + 1)) xs (fun rs => N.rt (.lst (acc ++ rs)) (noEnv ρ))), fun H2 q => ⟨ds.length - (m + 1), by omega, rfl, hlt, q⟩, fun y H2 hy => ?_⟩
      obtain ⟨W2, d, s2, hd, r⟩ := yld m y H2 hlt hy
      rw [drop_at hd] at k'
      obtain ⟨ρ1, p1, p2, k2⟩ := k'
      have eW := e'.step s2
      refine g2 B W2 H2 y d _ _ ρ1 _ s2.holds r (eW.wipe _) p1 fun σ3 e3 w3 => ?_
      have hw3 := (w3 _ hv).trans (wipe_wipe σ _)
      refine ⟨hw3, ?_⟩
      dsimp only [tYes]
      rw [if_pos rfl]
      have I2 := I.step s2
      obtain ⟨o, q1, a, ws, q2, q3, q4, q5, q6, rw0⟩ := e3.sl i _ p2
      subst q2
      have sg : σ[i]? = some (some (V.ref a)) := by
        have h1 := wipe_out (σ := σ3) hio
        rw [hw3, wipe_out hio, q1] at h1
        exact h1
      refine ⟨.ref a, q1, .inl ⟨rfl, _, SqL.of q3⟩, ?_⟩
      refine e2 B ρ1 _ _ k2 W2 σ3 H2 _ s2.holds e3 ExR.f0 fun W3 H3 z dz s3 r3 k3 => ?_
      obtain ⟨kk, rfl, k3⟩ := intOf k3
      obtain rfl := r3.intI
      obtain ⟨yy, hk, hy2, k4⟩ := k3
      obtain ⟨o', q1', a', ws', q2', q3', q4', q5', q6', rw1⟩ := (e3.step s3).sl i _ p2
      rw [q1] at q1'
      cases q1'
      cases q2'
      have I3 := I2.step s3
      obtain ⟨vy, hvy, ry⟩ := rw1.get hy2
      refine ⟨a, ws', kk, kk.toNat, vy, rfl, rfl, q3', by omega, by omega, seqIx_in hk.1 (by rw [rw1.length]; exact hk.2.1), hvy, ?_⟩
      have na : A ≠ a := fun q => offA i _ _ hx0 sg (by rw [q]; exact List.mem_singleton.mpr rfl)
      have I4 : AccL mg A W3 (upd H3 a (.lst (ws'.eraseIdx kk.toNat))) us acc m := ⟨by rw [upd_ne na]; exact I3.h, I3.w, I3.t, I3.r, I3.l⟩
      have st4 : Step W0 B W3 (upd H3 a (.lst (ws'.eraseIdx kk.toNat))) := ((s'.trans s2).trans s3).own q6' q3' q4' q5'
      have e6 := (eW.step s3).own (us := ws') (xs := xs) (set_get hx0) sg (rw1.eraseIdx kk.toNat)
      rw [List.set_set] at e6
      refine ⟨us, I4.h, Nat.lt_of_le_of_lt I.len (Nat.lt_of_lt_of_le hlt hsz), W3, us ++ [vy], acc ++ [yy], xs.eraseIdx kk.toNat, I4.own st4 bA, (l'.trans s2.le).trans s3.le, I4.snoc ry (Nat.le_refl _), e6.off (offB _), ?_⟩
      show popD T i f ρ _ _ _ (fun rs => N.rt (.lst (acc ++ [yy] ++ rs)) (noEnv ρ))
      rw [app_one (fun l => N.rt (.lst l) (noEnv ρ))]
      exact k4
    · have em : m = ds.length := by omega
      subst em
      rw [List.drop_length] at k'
      have k2 : N.rt (.lst (acc ++ [])) (noEnv ρ) := k'
      rw [List.append_nil] at k2
      exact .inl ⟨stop, n.rt (W'.put A (.lst us)) H' σ (noEnv ρ) _ _ (s'.taken bA I.h I.w I.t) (EnvR.noEnv e.len) (Rep.newLst I.r I.w) k2⟩
  · exact hf.elim
end
end FP
/-! FP8: a def of the text; empty dicts; what the dice helpers promise. -/
namespace FP
open PySem L2
variable [Tabl]
theorem boot_len : bootBuiltins "len" = some (.builtin "len") := by decide +kernel
theorem boot_abs : bootBuiltins "abs" = some (.builtin "abs") := by decide +kernel
theorem boot_max : bootBuiltins "max" = some (.builtin "max") := by decide +kernel
theorem boot_min : bootBuiltins "min" = some (.builtin "min") := by decide +kernel
theorem boot_all : bootBuiltins "all" = some (.builtin "all") := by decide +kernel
theorem boot_sorted : bootBuiltins "sorted" = some (.builtin "sorted") := by decide +kernel
theorem boot_isinstance : bootBuiltins "isinstance" = some (.builtin "isinstance") := by decide +kernel
theorem boot_int : bootBuiltins "int" = some (.type "int") := by decide +kernel
theorem boot_str : bootBuiltins "str" = some (.type "str") := by decide +kernel
theorem boot_bool : bootBuiltins "bool" = some (.type "bool") := by decide +kernel
theorem boot_list : bootBuiltins "list" = some (.type "list") := by decide +kernel
theorem boot_tuple : bootBuiltins "tuple" = some (.type "tuple") := by decide +kernel
theorem boot_dict : bootBuiltins "dict" = some (.type "dict") := by decide +kernel
theorem boot_set : bootBuiltins "set" = some (.type "set") := by decide +kernel
section
variable {ι : Type} {Xs : ι → Cx} {mg : Gm} {Wx : WX} {pos : Pos}
theorem mkDef {P : Program} {w : World} {base : Heap} {x : Str} {st : Stmt} {N ps : List Str} {k : Nat} {f : List D → M D} (d : ∃ fa fd, mg.mg x = some (.ref fa) ∧ Fun mg.K x x st fa fd) (S : FnScope N ps (defScope st))
    (hb : ∀ (kV doc pm : Value) (an : Option Addr) (cdv ct : Value) (us : List Value), us.length = ps.length → bindArgs (PySem.W.fnOf x x (defArgs st) (defBody st) (defScope st) .none kV doc pm an cdv ct) ⟨us, []⟩ = pure (ps.zip us))
    (h : ∀ (fa : Addr) (cdv : Value) (A : Around) (outer : List PySem.Env) (s : Shared) (H : Hp) (E : XK), RmG k (A.deeper (PyProof.Rows.envOfC x (defScope st) s.heap.objs.size fa cdv)) →
      ∃ g, DSs (fun _ : Unit => cxOf (L2.CX P w) P w mg.K mg.mg base N x (defScope st) fa cdv A outer s H E) mg (fun cls d _ H' => E cls d H') (defBody st) g ∧
        ∀ ds Q Ex, ds.length = ps.length → f ds Q Ex → g ⟨fun _ => Q .non, fun d _ => Q d, fun _ => False, fun _ => False, fun x _ => Ex x⟩ (startD N.length ds)) :
    DefOk P w mg base (k + 1) x ps.length f := by
  obtain ⟨fa, fd, hm, F⟩ := d
  exact ⟨fa, fd, ps, hm, F.kp, F.binds hb, rfl, def_ok F S (h fa)⟩
noncomputable abbrev dNewD : DTE := fun _ Q _ => Q (.dct [])
theorem de_dnew : DE Xs mg Wx (.Dict [] [] pos) dNewD := by
  refine ⟨_, fun _ => pe_lk pe_dnewK, fun B ρ Q E hf W σ H Q' hh e x q p hp => ?_⟩
  refine ⟨p, _, rfl, upd_same, True.intro, fun od => ?_⟩
  rw [upd_upd]
  exact q _ _ _ _ (Step.alloc hh hp) (.dct (kvs := []) (show upd W.H p _ p = _ from upd_same) rfl .nil) hf
end
/-! ### the dice helpers -/
noncomputable def f_dice : List D → M D := fun ds Q _ => match ds with
  | [.fz xs, .int k] => (∃ ns : List Int, xs = ns.map D.int) ∧ (0 ≤ k ∧ k < 1000) ∧ Q .tok
  | _ => False
noncomputable def f_roll : List D → M D := fun ds Q _ => match ds with
  | [.tok, .int n] => (0 < n ∧ n < 1073741824) ∧ ∀ r, 0 ≤ r → r < n → Q (.int r)
  | _ => False
noncomputable def f_pick : List D → M D := fun ds Q _ => match ds with
  | [.tok, .lst xs] => (0 < xs.length ∧ xs.length < 1073741824) ∧ ∀ d, d ∈ xs → Q d
  | [.tok, .tup xs] => (0 < xs.length ∧ xs.length < 1073741824) ∧ ∀ d, d ∈ xs → Q d
  | _ => False
noncomputable def f_some : List D → M D := fun ds Q _ => match ds with
  | [.tok, .lst xs, .int k] => (xs.length < 1000000) ∧ (0 ≤ k ∧ k < 1000000) ∧ ∀ ys zs, (ys ++ zs).Perm xs → ys.length = min k.toNat xs.length → Q (.lst ys)
  | [.tok, .tup xs, .int k] => (xs.length < 1000000) ∧ (0 ≤ k ∧ k < 1000000) ∧ ∀ ys zs, (ys ++ zs).Perm xs → ys.length = min k.toNat xs.length → Q (.lst ys)
  | _ => False
theorem at_of {α : Type} {xs : List α} {z : Int} {j : Nat} {v : α} (e : z = (j : Int)) (h : xs[j]? = some v) : atI xs z = some v := by
  rw [e]
  exact atI_nat h
theorem atI_mem {xs : List D} {r : Int} (h0 : 0 ≤ r) (h1 : r < xs.length) : ∃ d, atI xs r = some d ∧ d ∈ xs := by
  have hr : r.toNat < xs.length := by omega
  refine ⟨xs[r.toNat], ?_, List.getElem_mem hr⟩
  exact at_of (j := r.toNat) (by omega) (by simp [hr])
theorem atI_ints {ns : List Int} {r : Int} (h0 : 0 ≤ r) (h1 : r < (ns.map D.int).length) : ∃ i, atI (ns.map D.int) r = some (.int i) := by
  obtain ⟨d, h, hm⟩ := atI_mem h0 h1
  obtain ⟨i, _, e⟩ := List.mem_map.mp hm
  exact ⟨i, by rw [h, e]⟩
theorem erase_perm {α : Type} : ∀ {xs : List α} {i : Nat} {y : α}, xs[i]? = some y → (y :: xs.eraseIdx i).Perm xs
  | [], _, _, h => by simp at h
  | x :: xs, 0, y, h => by
    simp at h
    subst h
    exact List.Perm.refl _
  | x :: xs, i + 1, y, h => by
    have ih := erase_perm (xs := xs) (i := i) (y := y) (by simpa using h)
    exact (List.Perm.swap x y _).trans (ih.cons x)
theorem pop_some {a b c e : Sl} : ∀ (ds xs : List D) (Q : List D → Prop), ds.length ≤ xs.length → xs.length < 1000000 → (∀ ys zs, (ys ++ zs).Perm xs → ys.length = ds.length → Q ys) →
    popD (Tg.one 4) 3 (dCall f_roll 2 (dCons (dVar 0) (dCons (dLenO 3) dNil))) [Sl.d .tok, a, b, c, e] [4] ds xs Q
  | [], xs, Q, _, _, h => h [] xs (List.Perm.refl _) rfl
  | d :: ds, xs, Q, hl, hz, h => by
    have hl' : ds.length + 1 ≤ xs.length := hl
    refine ⟨[Sl.d .tok, a, b, .own xs, .d d], rfl, rfl, rfl, ⟨by omega, by omega⟩, fun r h0 h1 => ?_⟩
    have hr : r.toNat < xs.length := by omega
    have hg : xs[r.toNat]? = some xs[r.toNat] := by simp [hr]
    have el : (xs.eraseIdx r.toNat).length = xs.length - 1 := by simp [List.length_eraseIdx, hr]
    refine ⟨xs[r.toNat], ⟨h0, h1, by omega⟩, hg, pop_some ds _ _ (by omega) (by omega) fun ys zs hp hn => ?_⟩
    refine h (xs[r.toNat] :: ys) zs ?_ (by rw [List.length_cons, hn]; rfl)
    exact (hp.cons _).trans (erase_perm hg)
/-! ### comprehensions in pure words -/
theorem lcD_fm {body : D → (Option D → Prop) → Prop} (F : D → Option D) : ∀ (ds : List D) (Q : List D → Prop), (∀ d ∈ ds, ∀ k : Option D → Prop, k (F d) → body d k) → Q (ds.filterMap F) → lcD body ds Q
  | [], Q, _, h => h
  | d :: ds, Q, hb, h => by
    refine hb d List.mem_cons_self _ ?_
    refine lcD_fm F ds _ (fun e he => hb e (List.mem_cons_of_mem _ he)) ?_
    rw [List.filterMap_cons] at h
    cases q : F d with
    | none =>
      rw [q] at h
      exact h
    | some r =>
      rw [q] at h
      exact h
theorem lcD_map {body : D → (Option D → Prop) → Prop} (F : D → D) (ds : List D) (Q : List D → Prop) (hb : ∀ d ∈ ds, ∀ k : Option D → Prop, k (some (F d)) → body d k) (h : Q (ds.map F)) : lcD body ds Q := by
  refine lcD_fm (fun d => some (F d)) ds Q hb ?_
  rw [List.filterMap_eq_map']
  exact h
/-- a loop by what holds between its turns -/
theorem forD_inv {T : Tg} {f : DTS} {N : Nd} (I : Env → Prop) : ∀ (ds : List D) (ρ : Env), I ρ → (∀ d ∈ ds, ∀ (ρ : Env) (K : Env → Prop), I ρ → (∀ ρ', I ρ' → K ρ') → ∃ ρ1, T.put d ρ = some ρ1 ∧ f { N with nx := K, ct := K, bk := N.nx } ρ1) → (∀ ρ, I ρ → N.nx ρ) → forD T f N ds ρ
  | [], ρ, h, _, he => he ρ h
  | d :: ds, ρ, h, hs, he => hs d List.mem_cons_self ρ _ h fun ρ' h' => forD_inv I ds ρ' h' (fun e h2 => hs e (List.mem_cons_of_mem _ h2)) he
/-- one statement, then the others, by what holds between them -/
theorem seq_by {f g : DTS} {N : Nd} {ρ : Env} (I : Env → Prop) (h1 : ∀ nx : Env → Prop, (∀ ρ', I ρ' → nx ρ') → f { N with nx := nx } ρ) (h2 : ∀ ρ', I ρ' → g N ρ') : dSeq f g N ρ := h1 _ h2
/-- how many spots a law looks at -/
theorem spots (n : Nat) : 1 ≤ (if (if (n : Int) < 8 then (n : Int) else 8) > 1 then (if (n : Int) < 8 then (n : Int) else 8) else 1) ∧ (if (if (n : Int) < 8 then (n : Int) else 8) > 1 then (if (n : Int) < 8 then (n : Int) else 8) else 1) ≤ 8 := by
  split <;> split <;> omega
theorem mem_range {lo : Int} {n : Nat} {d : D} (h : d ∈ rangeD lo n) : ∃ j : Nat, d = .int (lo + j) ∧ j < n := by
  unfold rangeD at h
  obtain ⟨j, hj, e⟩ := List.mem_map.mp h
  exact ⟨j, e.symm, List.mem_range.mp hj⟩
/-! ### texts -/
theorem str_app (a b : Str) : (a ++ b).cps.toList = a.cps.toList ++ b.cps.toList := by
  show (a.cps ++ b.cps).toList = _
  simp
/-! ### values of the judged kinds -/
noncomputable def okStr (z : Str) : Prop := z.length ≤ 1000 ∧ ∀ c ∈ z.cps.toList, c < 1114112
noncomputable def okV : D → Prop
  | .fz _ => False
  | .ins _ _ => False
  | .cl _ => False
  | .fn _ _ => False
  | .dn _ => False
  | .str z => okStr z
  | _ => True
noncomputable def isStr : D → Bool
  | .str _ => true
  | _ => false
theorem isi_str {d : D} (h : okV d) : ∃ n, tyName d = some n ∧ kitB n "str" = some (isStr d) := by
  cases d with
  | fz _ => exact h.elim
  | cl _ => exact h.elim
  | fn _ _ => exact h.elim
  | dn _ => exact h.elim
  | ins _ _ => exact h.elim
  | non => exact ⟨_, rfl, by decide +kernel⟩
  | bl _ => exact ⟨_, rfl, by show kitB "bool" "str" = some false; decide +kernel⟩
  | int _ => exact ⟨_, rfl, by show kitB "int" "str" = some false; decide +kernel⟩
  | str _ => exact ⟨_, rfl, by show kitB "str" "str" = some true; decide +kernel⟩
  | tup _ => exact ⟨_, rfl, by show kitB "tuple" "str" = some false; decide +kernel⟩
  | lst _ => exact ⟨_, rfl, by show kitB "list" "str" = some false; decide +kernel⟩
  | dct _ => exact ⟨_, rfl, by show kitB "dict" "str" = some false; decide +kernel⟩
  | tok => exact ⟨_, rfl, by decide +kernel⟩
noncomputable instance (a n : Int) : Decidable (CPowW a n) := by
  unfold CPowW
  exact inferInstance
theorem cmulL {i j : Int} (h : -(2 ^ 64) < i ∧ i < 2 ^ 64) : CMul i j := .inl h
theorem cmulR {i j : Int} (h : -(2 ^ 64) < j ∧ j < 2 ^ 64) : CMul i j := .inr h
end FP
/-! FP9: slices, two names at once, lists joined as one's own. -/
namespace FP
open PySem L2
variable [Tabl]
section
variable {ι : Type} {Xs : ι → Cx} {mg : Gm} {Wx : WX} {pos : Pos}
noncomputable abbrev DTO := FP.Env → M (Option Int)
noncomputable def CpP (mg : Gm) (Wx : WX) (t : TO) (f : DTO) : Prop := ∀ B ρ Q E, f ρ Q E → ∀ W σ H Q', Holds W H → EnvR mg B W H σ ρ → ExR mg Wx W H σ E → (∀ W' H' o, Step W H W' H' → Q o → Q' o H') → t σ H Q'
noncomputable def DP (Xs : ι → Cx) (mg : Gm) (Wx : WX) (e : Option Expr) (f : DTO) : Prop := ∃ t, (∀ i, PO (Xs i) e t) ∧ CpP mg Wx t f
noncomputable abbrev dONone : DTO := fun _ Q _ => Q none
noncomputable abbrev dOSome (f : DTE) : DTO := fun ρ Q E => f ρ (fun x => match x with
  | .int i => Q (some i)
  | _ => False) E
theorem do_none : DP Xs mg Wx none dONone := ⟨_, fun _ => po_none, fun B ρ Q E hf W σ H Q' hh e x q => q W H none (Step.refl hh) hf⟩
theorem do_some {e : Expr} {f : DTE} (h : DE Xs mg Wx e f) : DP Xs mg Wx (some e) (dOSome f) := by
  obtain ⟨t, h1, h2⟩ := h
  refine ⟨_, fun i => po_some (h1 i), fun B ρ Q E hf W σ H Q' hh e x q => h2 B ρ _ E hf W σ H _ hh e x fun W1 H1 v d s1 r1 k1 => ?_⟩
  obtain ⟨i, rfl, k1⟩ := intOf k1
  obtain rfl := r1.intI
  exact ⟨i, rfl, q W1 H1 _ s1 k1⟩
noncomputable def cutD (xs : List D) (lo hi : Option Int) : List D := (xs.drop (HT.sIx xs.length 0 lo)).take (HT.sIx xs.length xs.length hi - HT.sIx xs.length 0 lo)
theorem Reps.cut {W : Wd} {vs : List V} {ds : List D} (r : Reps mg W vs ds) (lo hi : Option Int) : Reps mg W (cutV vs lo hi) (cutD ds lo hi) := by
  unfold cutV cutD
  rw [r.length]
  exact (r.drop _).take _
noncomputable def rdSl (x : D) (lo hi : Option Int) (Q : D → Prop) : Prop := match x with
  | .str z => z.length ≤ sizeLine ∧ Q (.str (cutS z lo hi))
  | .lst xs => Q (.lst (cutD xs lo hi))
  | .tup xs => Q (.tup (cutD xs lo hi))
  | _ => False
noncomputable abbrev dSl (f : DTE) (l u : DTO) : DTE := fun ρ Q E => f ρ (fun x => l ρ (fun lo => u ρ (fun hi => rdSl x lo hi Q) E) E) E
theorem sl_listK {X : Cx} {K : PySem.W.Frag} (h : X.K = K) : L2.SlR X (rSlL K) := by
  subst h
  exact sl_list
theorem sl_tupK {X : Cx} {K : PySem.W.Frag} (h : X.K = K) : L2.SlR X (rSlA K) := by
  subst h
  exact sl_tupA
theorem de_slice {e : Expr} {lo hi : Option Expr} {f : DTE} {l u : DTO} {p2 : Pos} (h : DE Xs mg Wx e f) (hl : DP Xs mg Wx lo l) (hu : DP Xs mg Wx hi u) (hK : ∀ j, (Xs j).K = mg.K := by intro _; rfl) : DE Xs mg Wx (.Subscript e (.Slice lo hi none p2) pos) (dSl f l u) := by
  obtain ⟨t, h1, h2⟩ := h
  obtain ⟨tl, l1, l2⟩ := hl
  obtain ⟨tu, u1, u2⟩ := hu
  refine ⟨_, fun j => pe_slice (L2.SlR.or (sl_listK (hK j)) (L2.SlR.or sl_str (sl_tupK (hK j)))) (h1 j) (l1 j) (u1 j), fun B ρ Q E hf W σ H Q' hh e x q => ?_⟩
  refine h2 B ρ _ E hf W σ H _ hh e x fun W1 H1 v d s1 r1 k1 => ?_
  refine l2 B ρ _ E k1 W1 σ H1 _ s1.holds (e.step s1) (x.step s1) fun W2 H2 o1 s2 k2 => ?_
  have s12 := s1.trans s2
  refine u2 B ρ _ E k2 W2 σ H2 _ s2.holds (e.step s12) (x.step s12) fun W3 H3 o2 s3 k3 => ?_
  have s13 := s12.trans s3
  have r3 := (r1.mono s2.le).mono s3.le
  have q3 : ToV mg W3 H3 Q Q' := ToV.step q s13
  cases r3 with
  | str z => exact .inr (.inl ⟨z, rfl, k3.1, q3 W3 H3 _ _ (Step.refl s3.holds) (.str _) k3.2⟩)
  | lst ha ra => exact .inl ⟨_, _, rfl, SqL.of (s3.holds.same _ _ ha), to_lst q3 s3.holds (ra.cut o1 o2) k3⟩
  | @tup a vs ds ha ra =>
    refine .inr (.inr ⟨_, _, rfl, SqT.of (s3.holds.same _ _ ha), fun hw => ?_, fun _ => to_tup q3 s3.holds (ra.cut o1 o2) k3⟩)
    have k4 : Q (.tup (cutD ds o1 o2)) := k3
    have e4 : cutD ds o1 o2 = ds := by
      unfold cutD
      rw [← ra.length, hw.1, hw.2, List.drop_zero, Nat.sub_zero, ra.length, List.take_length]
    rw [e4] at k4
    exact q3 W3 H3 _ _ (Step.refl s3.holds) (.tup ha ra) k4
  | _ => exact k3.elim
/-- a, b = e1, e2 -/
noncomputable abbrev dPar (i j : Nat) (g : DTA) : DTS := fun N ρ => g ρ (fun ds => match ds with
  | [x, y] => N.nx ((ρ.set i (.d x)).set j (.d y))
  | _ => False) (fun x => N.rs x ρ)
theorem ds_par {i j : Nat} {x y : Str} {a b : Expr} {g : DTA} {px py pt : Pos} {kt k2 : Nat} {pt2 : Pos} (h : DA Xs mg Wx [a, b] g) (hN : ∀ l, (Xs l).N.Nodup)
    (hw : ∀ l, swappedStores [.Tuple [.Name x px, .Name y py] kt pt] (.Tuple [a, b] k2 pt2) (Xs l).env = pure (some [x, y]) := by intro _; rfl) (hij : i ≠ j := by decide) (hi : ∀ l, (Xs l).N[i]? = some x := by intro _; rfl) (hj : ∀ l, (Xs l).N[j]? = some y := by intro _; rfl)
    (hx : ∀ l, (Xs l).env.scope.names.lookup x = some .local := by intro _; rfl) (hy : ∀ l, (Xs l).env.scope.names.lookup y = some .local := by intro _; rfl) (hc : ∀ l, (Xs l).calm = true := by intro _; rfl)
    (hs : ∀ l, swapsWithSole [.Tuple [.Name x px, .Name y py] kt pt] (.Tuple [a, b] k2 pt2) pos.line (Xs l).env = pure false := by intro _; rfl) : DS Xs mg Wx (.Assign [.Tuple [.Name x px, .Name y py] kt pt] (.Tuple [a, b] k2 pt2) pos) (dPar i j g) := by
  obtain ⟨t, h1, h2⟩ := h
  refine ⟨_, fun l => ps_par (i := i) (j := j) (hc l) (hN l) (hi l) (hj l) hij (hx l) (hy l) (h1 l) (hw l) (hs l), fun W0 B N ρ hf W σ H Ds s e n => ?_⟩
  refine h2 B ρ _ _ hf W σ H _ s.holds e (n.ex s e) fun W1 H1 vs ds s1 r1 k1 => ?_
  split at k1
  · cases r1 with
    | cons r rs =>
      cases rs with
      | cons r2 rs =>
        cases rs
        exact ⟨_, _, rfl, n.nx W1 H1 _ _ (s.trans s1) (((e.step s1).set r).set r2) k1⟩
  · exact k1.elim
end
/-! ### pure words -/
theorem blsD_fn {α : Type} (f : α → Bool) (cs : List α) : blsD (cs.map fun c => D.bl (f c)) = some (cs.map f) := by
  have e := blsD_map (cs.map f)
  rw [List.map_map] at e
  exact e
theorem signs_ok {z : Str} (h : okStr z) : (signsD z).length ≤ sizeLine := by
  rw [signsD_len]
  exact Nat.le_trans h.1 (by decide)
theorem kit_ss : kitB "str" "str" = some true := by decide +kernel
noncomputable def isIntT : D → Bool
  | .int _ => true
  | .bl _ => true
  | _ => false
noncomputable def isBlT : D → Bool
  | .bl _ => true
  | _ => false
theorem isi_ty {d : D} (h : okV d) : ∃ n, tyName d = some n ∧ kitB n "int" = some (isIntT d) ∧ kitB n "bool" = some (isBlT d) := by
  cases d with
  | fz _ => exact h.elim
  | ins _ _ => exact h.elim
  | cl _ => exact h.elim
  | fn _ _ => exact h.elim
  | dn _ => exact h.elim
  | non => exact ⟨_, rfl, by show kitB "NoneType" "int" = some false; decide +kernel, by show kitB "NoneType" "bool" = some false; decide +kernel⟩
  | bl _ => exact ⟨_, rfl, by show kitB "bool" "int" = some true; decide +kernel, by show kitB "bool" "bool" = some true; decide +kernel⟩
  | int _ => exact ⟨_, rfl, by show kitB "int" "int" = some true; decide +kernel, by show kitB "int" "bool" = some false; decide +kernel⟩
  | str _ => exact ⟨_, rfl, by show kitB "str" "int" = some false; decide +kernel, by show kitB "str" "bool" = some false; decide +kernel⟩
  | tup _ => exact ⟨_, rfl, by show kitB "tuple" "int" = some false; decide +kernel, by show kitB "tuple" "bool" = some false; decide +kernel⟩
  | lst _ => exact ⟨_, rfl, by show kitB "list" "int" = some false; decide +kernel, by show kitB "list" "bool" = some false; decide +kernel⟩
  | dct _ => exact ⟨_, rfl, by show kitB "dict" "int" = some false; decide +kernel, by show kitB "dict" "bool" = some false; decide +kernel⟩
  | tok => exact ⟨_, rfl, by show kitB "list" "int" = some false; decide +kernel, by show kitB "list" "bool" = some false; decide +kernel⟩
theorem line {n : Nat} (h : Nat.ble n 16777216 = true) : n ≤ sizeLine := Nat.le_of_ble_eq_true h
theorem ne_deep {x y : D} {p q : PyData} {Q : D → Prop} (hx : toPy x = some p) (hy : toPy y = some q) (hn : eqS x y = none) (sp : SeqAt.shaped p = true) (sq : SeqAt.shaped q = true) (e : PyData.eqv p q = true) (h : Q (.bl false)) : rdNe x y Q := by
  unfold rdNe
  rw [hn]
  refine ⟨p, q, hx, hy, sp, sq, ?_⟩
  rw [e]
  exact h
theorem eq_deep {x y : D} {p q : PyData} {Q : D → Prop} (hx : toPy x = some p) (hy : toPy y = some q) (hn : eqS x y = none) (sp : SeqAt.shaped p = true) (sq : SeqAt.shaped q = true) (e : PyData.eqv p q = true) (h : Q (.bl true)) : rdEq x y Q := by
  unfold rdEq
  rw [hn]
  refine ⟨p, q, hx, hy, sp, sq, ?_⟩
  rw [e]
  exact h
end FP
/-! FP10: classes of one's own: fields, making, methods, properties, isinstance. -/
namespace FP
open PySem L2
variable [Tabl]
theorem RmG.in1 {k : Nat} {A : Around} (m : RmG (k + 1) A) : RmG k A.in1 := ⟨m.r.in1, m.g⟩
/-- a class of the text -/
structure ClsF (mg : Gm) (c : Str) (C : Addr) : Prop where
  nm : mg.mg c = some (.ref C)
  cl : Cls mg.K C
  ha : PySem.W.findIn mg.K (.ref C) "__class__" = some (some (.builtin "object.__class__"))
  hn : PySem.W.specialIn mg.K (.builtin "object.__class__") "__get__" = some (some (.builtin "getset_descriptor.__get__"))
  htk : PySem.W.takesIn mg.K (.builtin "object.__class__") = some true
  hm : PySem.W.mroIn mg.K C (.type "object") = some true
theorem ClsF.eq {mg : Gm} {c : Str} {C C' : Addr} (f : ClsF mg c C) (h : mg.mg c = some (.ref C')) : C' = C := by
  have e := h.symm.trans f.nm
  cases e
  rfl
section
variable {ι : Type} {Xs : ι → Cx} {mg : Gm} {Wx : WX} {pos : Pos}
/-! ### fields -/
theorem lookup_reps {W : Wd} : ∀ {vs : List (Str × V)} {ds : List (Str × D)} {f : Str} {d : D}, vs.map (·.1) = ds.map (·.1) → Reps mg W (vs.map (·.2)) (ds.map (·.2)) → ds.lookup f = some d → ∃ v, vs.lookup f = some v ∧ Rep mg W v d
  | [], [], _, _, _, _, h => by cases h
  | [], _ :: _, _, _, h, _, _ => by cases h
  | _ :: _, [], _, _, h, _, _ => by cases h
  | (a, v) :: vs, (b, e) :: ds, f, d, hk, hr, hl => by
    simp only [List.map_cons, List.cons.injEq] at hk
    obtain ⟨rfl, hk⟩ := hk
    cases hr with
    | cons r rs =>
      rw [List.lookup_cons] at hl ⊢
      split at hl
      · cases hl
        exact ⟨v, rfl, r⟩
      · exact lookup_reps hk rs hl
noncomputable abbrev dFld (c f : Str) (g : DTE) : DTE := fun ρ Q E => g ρ (fun x => match x with
  | .ins c' fs => c' = c ∧ ∃ d, fs.lookup f = some d ∧ Q d
  | _ => False) E
theorem de_fld {c f : Str} {C : Addr} {e : Expr} {g : DTE} (F : ClsF mg c C) (na : NoAttr mg.K C f) (h : DE Xs mg Wx e g) (hK : ∀ j, (Xs j).K = mg.K := by intro _; rfl) (hb : ∀ j, attributeBase e f (Xs j).env (eval e (Xs j).env) = eval e (Xs j).env := by intro _; rfl) : DE Xs mg Wx (.Attribute e f pos) (dFld c f g) := by
  obtain ⟨t, h1, h2⟩ := h
  refine ⟨tFld mg.K t f, fun j => by
    have z := pe_fld (pos := pos) (h1 j) (hb j)
    rw [hK j] at z
    exact z, fun B ρ Q E hf W σ H Q' hh e x q => ?_⟩
  refine h2 B ρ _ E hf W σ H _ hh e x fun W1 H1 v d s1 r1 k1 => ?_
  obtain ⟨c', ds, rfl, k1⟩ := insOf k1
  obtain ⟨a, C', dx, fs, rfl, hc, ha, hk, rs⟩ := r1.insI
  obtain ⟨rfl, d', hd, hq⟩ := k1
  have ec := F.eq hc
  subst ec
  obtain ⟨v', hv, rv⟩ := lookup_reps hk rs hd
  exact ⟨a, C', dx, fs, v', rfl, s1.holds.same _ _ ha, F.cl, na, hv, q W1 H1 v' d' s1 rv hq⟩
/-- a field of an object that is being made -/
noncomputable abbrev dFldO (i : Nat) (c f : Str) : DTE := fun ρ Q _ => match ρ[i]? with
  | some (.ob c' _ fs) => c' = c ∧ ∃ d, fs.lookup f = some d ∧ Q d
  | _ => False
theorem de_fldO (i : Nat) {c x f : Str} {C : Addr} {p : Pos} (F : ClsF mg c C) (na : NoAttr mg.K C f) (hK : ∀ j, (Xs j).K = mg.K := by intro _; rfl) (hN : ∀ j, (Xs j).N[i]? = some x := by intro _; rfl)
    (hv : ∀ j, Vis (Xs j).env.scope x := by intro _; first | exact Or.inl rfl | exact Or.inr (Or.inl rfl) | exact Or.inr (Or.inr rfl)) (hd : (x == ("__debug__" : Str)) = false := by decide) (hcd : (x == ("__classdict__" : Str)) = false := by decide)
    (hb : ∀ j, attributeBase (.Name x p) f (Xs j).env (eval (.Name x p) (Xs j).env) = eval (.Name x p) (Xs j).env := by intro _; rfl) : DE Xs mg Wx (.Attribute (.Name x p) f pos) (dFldO i c f) := by
  refine ⟨tFld mg.K (tVar i) f, fun j => by
    have z := pe_fld (pos := pos) (pe_var (i := i) (pos := p) (hN j) (hv j) hd hcd) (hb j)
    rw [hK j] at z
    exact z, fun B ρ Q E hf W σ H Q' hh e x q => ?_⟩
  unfold dFldO at hf
  split at hf
  · rename_i c' a fs hs
    obtain ⟨rfl, d, hd, hq⟩ := hf
    obtain ⟨o, h1, vs, h2, ⟨C', dx, hc, h3⟩, _, _, _, hk, rs⟩ := e.sl i _ hs
    subst h2
    have ec := F.eq hc
    subst ec
    obtain ⟨v', hv, rv⟩ := lookup_reps hk rs hd
    exact ⟨.ref a, h1, a, C', dx, vs, v', rfl, h3, F.cl, na, hv, q W H v' d (Step.refl hh) rv hq⟩
  · exact hf.elim
/-- an attribute put -/
noncomputable def putD (f : Str) (d : D) : List (Str × D) → List (Str × D)
  | [] => [(f, d)]
  | (g, e) :: r => if g = f then (f, d) :: r else (g, e) :: putD f d r
theorem putF_reps {W : Wd} {f : Str} {v : V} {d : D} (r : Rep mg W v d) : ∀ {vs : List (Str × V)} {ds : List (Str × D)}, vs.map (·.1) = ds.map (·.1) → Reps mg W (vs.map (·.2)) (ds.map (·.2)) → (putF f v vs).map (·.1) = (putD f d ds).map (·.1) ∧ Reps mg W ((putF f v vs).map (·.2)) ((putD f d ds).map (·.2))
  | [], [], _, _ => ⟨rfl, .cons r .nil⟩
  | [], _ :: _, h, _ => by cases h
  | _ :: _, [], h, _ => by cases h
  | (a, w) :: vs, (b, e) :: ds, hk, hr => by
    simp only [List.map_cons, List.cons.injEq] at hk
    obtain ⟨rfl, hk⟩ := hk
    cases hr with
    | cons r1 rs =>
      unfold putF putD
      by_cases ha : a = f
      · rw [if_pos ha, if_pos ha]
        exact ⟨by simp [hk, ha], .cons r rs⟩
      · rw [if_neg ha, if_neg ha]
        obtain ⟨h1, h2⟩ := putF_reps r hk rs
        exact ⟨by simp [h1], .cons r1 h2⟩
noncomputable abbrev dSetF (i : Nat) (c f : Str) (g : DTE) : DTS := fun N ρ => g ρ (fun d => match ρ[i]? with
  | some (.ob c' a fs) => c' = c ∧ fs.length < 1000 ∧ N.nx (ρ.set i (.ob c a (putD f d fs)))
  | _ => False) (fun x => N.rs x ρ)
theorem ds_setF (i : Nat) {c x f : Str} {C : Addr} {p p' : Pos} {e : Expr} {g : DTE} (F : ClsF mg c C) (na : NoAttr mg.K C f) (h : DE Xs mg Wx e g) (hK : ∀ j, (Xs j).K = mg.K := by intro _; rfl) (hN : ∀ j, (Xs j).N[i]? = some x := by intro _; rfl)
    (hv : ∀ j, Vis (Xs j).env.scope x := by intro _; first | exact Or.inl rfl | exact Or.inr (Or.inl rfl) | exact Or.inr (Or.inr rfl)) (hd : (x == ("__debug__" : Str)) = false := by decide) (hcd : (x == ("__classdict__" : Str)) = false := by decide)
    (hs : ∀ j, swapsWith e (some (.Attribute (.Name x p) f p')) pos.line (Xs j).env = pure false := by intro _; rfl) : DS Xs mg Wx (.Assign [.Attribute (.Name x p) f p'] e pos) (dSetF i c f g) := by
  obtain ⟨t, h1, h2⟩ := h
  refine ⟨sFld mg.K (tVar i) t f, fun j => by
    have z := ps_fld (pe_var (i := i) (pos := p) (hN j) (hv j) hd hcd) (h1 j) (hs j)
    rw [hK j] at z
    exact z, fun W0 B N ρ hf W σ H Ds s e n => ?_⟩
  refine h2 B ρ _ _ hf W σ H _ s.holds e (n.ex s e) fun W1 H1 v d s1 r1 k1 => ?_
  have e1 := e.step s1
  dsimp only at k1
  split at k1
  · rename_i c' a fs hs'
    obtain ⟨rfl, hl, hq⟩ := k1
    obtain ⟨o, g1, vs, g2, ⟨C', dx, hc, g3⟩, g4, g5, g6, hk, rs⟩ := e1.sl i _ hs'
    subst g2
    have ec := F.eq hc
    subst ec
    have el : vs.length = fs.length := by
      have q := congrArg List.length hk
      simpa using q
    obtain ⟨k2, k3⟩ := putF_reps (f := f) r1 hk rs
    refine ⟨.ref a, g1, a, C', dx, vs, rfl, g3, F.cl, na, by omega, ?_⟩
    refine n.nx W1 _ σ _ ((s.trans s1).own g6 g3 g4 g5) (e1.turn (s' := .ob c' a (putD f d fs)) hs' g1 (List.mem_singleton.mpr rfl) (fun _ h => h) ⟨_, rfl, ⟨C', dx, hc, upd_same⟩, g4, g5, g6, k2, k3⟩) hq
  · exact k1.elim
/-! ### making an object -/
/-- an __init__'s promise: the fields that the object has behind it -/
noncomputable def spI (mg : Gm) (c : Str) (C : Addr) (n : Nat) (f : List D → ((List (Str × D)) → Prop) → (XD → Prop) → Prop) : Sp := fun vs H Q E => ∃ W ds us H1 x dx Qd Ed, vs = .ref x :: us ∧ H1 x = none ∧ H1 dx = none ∧ dx ≠ x ∧ H = upd (upd H1 dx (.own x)) x (.ins C dx []) ∧ Holds W H1 ∧ Reps mg W us ds ∧ ds.length = n ∧ f ds Qd Ed ∧
  (∀ W' H' gs fs dy, Step W H1 W' H' → H' x = some (.ins C dy gs) → W'.H x = none → ¬ W'.T x → gs.map (·.1) = fs.map (·.1) → Reps mg W' (gs.map (·.2)) (fs.map (·.2)) → Qd fs → Q .non H') ∧ ∀ W' H' cls dd y, Step W H1 W' H' → RepX mg W' H' cls dd y → Ed y → E cls dd H'
structure InitOk (P : Program) (w : World) (mg : Gm) (base : Heap) (k : Nat) (c : Str) (C : Addr) (n : Nat) (f : List D → ((List (Str × D)) → Prop) → (XD → Prop) → Prop) : Prop where
  ex : ∃ fa fd ps, Mk mg.K C fa ∧ Binds mg.K fd ps [] ∧ ps.length = n + 1 ∧ FnG P w mg.K mg.mg base k fa fd ps (spI mg c C n f)
/-- the making, where no repr is under way -/
theorem makeG {X : Cx} {C f : Addr} {k : Nat} {fd : FuncData} {ps : List Str} {sp : Sp} {Ex : XK} {pins : List (Addr × Obj)} {σ : St} {H : Hp} {z : Shared} {Q : VK} {us : List Value} {vs : List V} (M : Mk X.K C f) (F : FnG X.prog X.w X.K X.mg X.base k f fd ps sp) (m : RmG (k + 1) X.A) (hb : Binds X.K fd ps [])
    (hx : PassesAt (L2.CX X.prog X.w) X σ Ex) (I : Inv X pins σ H z) (rv : Vals vs us)
    (h : ∀ x dx, H x = none → H dx = none → dx ≠ x → sp (.ref x :: vs) (upd (upd H dx (.own x)) x (.ins C dx [])) (fun v H2 => v = .non ∧ Q (.ref x) H2) Ex) : wpAny (model X.prog X.w) X.A (call (.ref C) us) (EP X pins σ Q) X.xe z := by
  have fr0 := I.hok.fresh (Nat.le_refl z.heap.objs.size)
  have fr1 := I.hok.fresh (Nat.le_succ z.heap.objs.size)
  have want := h (z.heap.objs.size + 1) z.heap.objs.size fr1 fr0 (Nat.ne_of_lt (Nat.lt_succ_self _))
  have J := Inv.made (C := C) I
  have rv2 : Vals (V.ref (z.heap.objs.size + 1) :: vs) (Value.ref (z.heap.objs.size + 1) :: us) := .cons rfl rv
  have ln : (Value.ref (z.heap.objs.size + 1) :: us ++ []).length = ps.length := by
    rw [List.append_nil, ← rv2.length]
    exact F.ln _ _ _ _ want
  have bd := hb _ (Value.ref (z.heap.objs.size + 1) :: us) J.kIn ln
  rw [List.append_nil] at bd
  have gd : (X.A.under (.builtin "type.__call__" ⟨.ref C :: us, []⟩)).guards = some [] := by
    simp [Around.under, Code.guards, Code.isGuard, guardIds, pushGuards, m.g]
  have cd := F.go _ X.stack _ _ ⟨Value.ref (z.heap.objs.size + 1) :: us, []⟩ _ _ _ Ex ⟨m.r.make C us [], gd⟩ (J.env0.make C us []) bd rv2 want
  refine wpAny_call (make_map (f := f) I.kIn M.makes M.init (beq_iff_eq.mp M.fn) (codeAny_mono cd ?_))
  intro res z' hq
  match res, hq with
  | .error e, hq => exact hx pins _ _ e z' J hq
  | .ok .next, hq => exact hq.elim
  | .ok .brk, hq => exact hq.elim
  | .ok .cont, hq => exact hq.elim
  | .ok (.ret u), hq =>
    obtain ⟨v, H', I3, ru, ev, q3⟩ := J.after hq
    subst ev
    exact ⟨ru, ⟨V.ref (z.heap.objs.size + 1), H', I3, rfl, q3⟩⟩
noncomputable abbrev dMake (c : Str) (f : List D → ((List (Str × D)) → Prop) → (XD → Prop) → Prop) (n : Nat) (g : DTA) : DTE := fun ρ Q E => g ρ (fun ds => ds.length = n ∧ f ds (fun fs => Q (.ins c fs)) E) E
theorem de_make {P : Program} {w : World} {base : Heap} {k n : Nat} {c : Str} {C : Addr} {f : List D → ((List (Str × D)) → Prop) → (XD → Prop) → Prop} {p : Pos} {e : Expr} {es : List Expr} {g : DTA} (Fc : ClsF mg c C) (F : InitOk P w mg base k c C n f) (hr : ∀ i, RmG (k + 1) (Xs i).A) (tk : ∀ i, Pas (Xs i) Wx) (ha : DA Xs mg Wx (e :: es) g)
    (hP : ∀ j, (Xs j).prog = P ∧ (Xs j).w = w ∧ (Xs j).K = mg.K ∧ (Xs j).mg = mg.mg ∧ (Xs j).base = base := by intro _; exact ⟨rfl, rfl, rfl, rfl, rfl⟩) (hg : ∀ j, Gl (Xs j) c := by intro _; rfl) (hd : (c == ("__debug__" : Str)) = false := by decide)
    (he : ∀ i, starEach (e :: es) (Xs i).env = (false, eval e (Xs i).env) :: starEach es (Xs i).env := by intro _; rfl) (hpl : ∀ i, (backTo pos (starEach es (Xs i).env)).any (·.1) = false := by intro _; rfl) : DE Xs mg Wx (.Call (.Name c p) (e :: es) [] pos) (dMake c f n g) := by
  obtain ⟨fa, fd, ps, M, hb, hl, G⟩ := F.ex
  obtain ⟨t, h1, h2⟩ := ha
  refine ⟨fun σ H Q => t σ H fun vs H1 => ∀ x dx, H1 x = none → H1 dx = none → dx ≠ x → spI mg c C n f (.ref x :: vs) (upd (upd H1 dx (.own x)) x (.ins C dx [])) (fun v H2 => v = .non ∧ Q (.ref x) H2) (WE Wx σ), fun i => ?_, ?_⟩
  · obtain ⟨p1, p2, p3, p4, p5⟩ := hP i
    subst p1 p2 p5
    constructor
    intro pins z σ H Q I hw
    apply wpAny_Call_Name_kw
    apply ld_glob I (hg i) (by rw [p4]; exact Fc.nm) _ hd
    apply PySem.W.callWith_K (h₀ := (Xs i).base) I.ok.mod.kin (by rw [p3]; exact M.kp) _ (he i) (hpl i)
    refine thn ((h1 i).run pos pins z σ H _ I hw) ?_
    rintro us z1 ⟨vs, H1, I1, rv, q⟩
    exact ⟨I1.kIn, makeG (by rw [p3]; exact M) (by rw [p3, p4]; exact G) (hr i) (by rw [p3]; exact hb) (tk i σ) I1 rv q⟩
  · intro B ρ Q E hf W σ H Q' hh e x q
    refine h2 B ρ _ E hf W σ H _ hh e x fun W1 H1 vs ds s1 r1 k1 => ?_
    intro a dx na ndx ne
    refine ⟨W1, ds, vs, H1, a, dx, _, E, rfl, na, ndx, ne, rfl, s1.holds, r1, k1.1, k1.2, fun W' H' gs fs dy s' ha' nw nt hk rs hq => ⟨rfl, ?_⟩, fun W' H' cls dd y s' r h => x W' H' cls dd y (s1.trans s') r h⟩
    have st := s'.taken na ha' nw nt
    exact q _ _ _ _ (s1.trans st) (.ins Fc.nm (show upd W'.H a _ a = _ from upd_same) hk (rs.mono (Wd.le_put nw))) hq
/-- an __init__ by its body: the object stands in slot 0 -/
theorem mkInit {P : Program} {w : World} {base : Heap} {c : Str} {C : Addr} {qual : Str} {st : Stmt} {N ps : List Str} {k n : Nat} {f : List D → ((List (Str × D)) → Prop) → (XD → Prop) → Prop} (Fc : ClsF mg c C) (d : ∃ fa fd, Mk mg.K C fa ∧ Fun mg.K "__init__" qual st fa fd) (S : FnScope N ps (defScope st)) (hn : ps.length = n + 1)
    (hb : ∀ (kV doc pm : Value) (an : Option Addr) (cdv ct : Value) (us : List Value), us.length = ps.length → bindArgs (PySem.W.fnOf "__init__" qual (defArgs st) (defBody st) (defScope st) .none kV doc pm an cdv ct) ⟨us, []⟩ = pure (ps.zip us))
    (h : ∀ (fa : Addr) (cdv : Value) (A : Around) (outer : List PySem.Env) (s : Shared) (H : Hp) (E : XK), RmG k (A.deeper (PyProof.Rows.envOfC qual (defScope st) s.heap.objs.size fa cdv)) →
      ∃ g, DSs (fun _ : Unit => cxOf (L2.CX P w) P w mg.K mg.mg base N qual (defScope st) fa cdv A outer s H E) mg (fun cls d _ H' => E cls d H') (defBody st) g ∧
        ∀ x ds Q Ex, ds.length = n → f ds Q Ex → g ⟨fun ρ => ∃ fs r, ρ = .ob c x fs :: r ∧ Q fs, fun _ _ => False, fun _ => False, fun _ => False, fun x _ => Ex x⟩ (.ob c x [] :: startD (N.length - 1) ds)) :
    InitOk P w mg base (k + 1) c C n f := by
  obtain ⟨fa, fd, M, F⟩ := d
  refine ⟨fa, fd, ps, M, F.binds hb, hn, ?_⟩
  refine fnG_of F S (fun vs H Q E hs => ?_) (fun cdv A outer s H vs Q E hr hs => ?_)
  · obtain ⟨W, ds, us, H1, x, dx, Qd, Ed, rfl, _, _, _, _, _, r, l, _⟩ := hs
    rw [List.length_cons, r.length, l, hn]
  · obtain ⟨W, ds, us, H1, x, dx, Qd, Ed, rfl, nx, ndx, ne, rfl, hh, r, l, hf, q, ex⟩ := hs
    obtain ⟨g, ⟨t, h1, h2⟩, h3⟩ := h fa cdv A outer s _ E hr
    have lu : us.length = n := by rw [r.length, l]
    have sd : Step W H1 W (upd H1 dx (.own x)) := Step.lay hh ndx
    have nx2 : (upd H1 dx (.own x)) x = none := by
      rw [upd_ne (Ne.symm ne)]
      exact nx
    have sx : Step W H1 W (upd (upd H1 dx (.own x)) x (.ins C dx [])) := sd.trans (Step.lay sd.holds nx2)
    refine ⟨t, h1 (), ?_⟩
    have hN : N.length = (N.length - 1) + 1 := by
      have q1 := congrArg List.length S.pre
      rw [List.length_take, hn] at q1
      omega
    have e0 : EnvR mg H1 W (upd (upd H1 dx (.own x)) x (.ins C dx [])) (L2.start N (.ref x :: us)) (.ob c x [] :: startD (N.length - 1) ds) := by
      have base0 := EnvR.start (N := N.tail) (mg := mg) (H := H1) r
      have lt : N.tail.length = N.length - 1 := List.length_tail
      have es : L2.start N (.ref x :: us) = some (.ref x) :: L2.start N.tail us := by
        unfold L2.start
        rw [List.map_cons, List.cons_append, List.length_cons, lt, Nat.sub_sub, Nat.add_comm 1]
      rw [es, ← lt]
      refine ⟨congrArg (· + 1) base0.len, fun i sl hi => ?_, fun i j s1 s2 o1 o2 a hij q1 q2 q3 q4 m1 m2 => ?_⟩
      · cases i with
        | zero =>
          cases hi
          exact ⟨_, rfl, [], rfl, ⟨C, dx, Fc.nm, upd_same⟩, hh.same.free nx, hh.nT nx, nx, rfl, .nil⟩
        | succ i =>
          obtain ⟨o, g1, g2⟩ := base0.sl i sl hi
          refine ⟨o, g1, g2.keep (Le.refl W) fun a _ u h5 h6 h7 => sx.mine h5 h6 h7⟩
      · have none2 : ∀ (j : Nat) (s : Sl) (o : Option V), (startD N.tail.length ds)[j]? = some s → a ∉ s.fp o := fun j s o hj m => by
          unfold startD at hj
          rcases List.mem_append.mp (List.mem_of_getElem? hj) with z | z
          · obtain ⟨_, _, z⟩ := List.mem_map.mp z
            rw [← z] at m
            cases m
          · have z := List.eq_of_mem_replicate z
            rw [z] at m
            cases m
        cases i with
        | succ i => exact none2 i s1 o1 q1 m1
        | zero =>
          cases j with
          | zero => exact hij rfl
          | succ j => exact none2 j s2 o2 q2 m2
    refine h2 W H1 _ _ (h3 x ds Qd Ed l hf) W _ _ _ sx e0 ⟨fun W' H' σ' ρ' s' e' k => ?_, fun _ _ _ _ _ _ _ _ _ k => k.elim, fun _ _ _ _ _ _ k => k.elim, fun _ _ _ _ _ _ k => k.elim, fun W' H' σ' ρ' cls dd y s' e' r' k => ex W' H' cls dd y s' r' k⟩
    obtain ⟨fs, rr, rfl, hq⟩ := k
    obtain ⟨o, g1, vs, g2, ⟨C', dy, hc, g3⟩, g4, g5, g6, hk, rs⟩ := e'.sl 0 _ rfl
    have ec := Fc.eq hc
    subst ec
    exact q W' H' vs fs dy s' g3 g4 g5 hk rs hq
end
end FP
/-! FP11: methods, properties, isinstance with an own class, len, in, [], str of own objects. -/
namespace FP
open PySem L2
variable [Tabl]
section
variable {ι : Type} {Xs : ι → Cx} {mg : Gm} {Wx : WX} {pos : Pos}
/-! ### methods -/
structure MethOk (P : Program) (w : World) (mg : Gm) (base : Heap) (k : Nat) (C : Addr) (m : Str) (n : Nat) (f : List D → M D) : Prop where
  ex : ∃ fa fd ps, Meth mg.K C m fa ∧ Binds mg.K fd ps [] ∧ ps.length = n ∧ FnG P w mg.K mg.mg base k fa fd ps (spD mg n f)
theorem mkMeth {P : Program} {w : World} {base : Heap} {C : Addr} {m qual : Str} {st : Stmt} {N ps : List Str} {k : Nat} {f : List D → M D} (d : ∃ fa fd, Meth mg.K C m fa ∧ Fun mg.K m qual st fa fd) (S : FnScope N ps (defScope st))
    (hb : ∀ (kV doc pm : Value) (an : Option Addr) (cdv ct : Value) (us : List Value), us.length = ps.length → bindArgs (PySem.W.fnOf m qual (defArgs st) (defBody st) (defScope st) .none kV doc pm an cdv ct) ⟨us, []⟩ = pure (ps.zip us))
    (h : ∀ (fa : Addr) (cdv : Value) (A : Around) (outer : List PySem.Env) (s : Shared) (H : Hp) (E : XK), RmG k (A.deeper (PyProof.Rows.envOfC qual (defScope st) s.heap.objs.size fa cdv)) →
      ∃ g, DSs (fun _ : Unit => cxOf (L2.CX P w) P w mg.K mg.mg base N qual (defScope st) fa cdv A outer s H E) mg (fun cls d _ H' => E cls d H') (defBody st) g ∧
        ∀ ds Q Ex, ds.length = ps.length → f ds Q Ex → g ⟨fun _ => Q .non, fun d _ => Q d, fun _ => False, fun _ => False, fun x _ => Ex x⟩ (startD N.length ds)) :
    MethOk P w mg base (k + 1) C m ps.length f := by
  obtain ⟨fa, fd, hm, F⟩ := d
  exact ⟨fa, fd, ps, hm, F.binds hb, rfl, def_ok F S (h fa)⟩
noncomputable abbrev dMeth (c : Str) (f : List D → M D) (n : Nat) (m : Str) (go : DTE) (g : DTA) : DTE := fun ρ Q E => go ρ (fun x => match x with
  | .ins c' fs => c' = c ∧ fs.lookup m = none ∧ g ρ (fun ds => ds.length + 1 = n ∧ f (.ins c' fs :: ds) Q E) E
  | _ => False) E
theorem lookup_none {α β : Type} : ∀ {vs : List (Str × α)} {ds : List (Str × β)} {f : Str}, vs.map (·.1) = ds.map (·.1) → ds.lookup f = none → vs.lookup f = none
  | [], [], _, _, _ => rfl
  | [], _ :: _, _, h, _ => by cases h
  | _ :: _, [], _, h, _ => by cases h
  | (a, v) :: vs, (b, e) :: ds, f, hk, hl => by
    simp only [List.map_cons, List.cons.injEq] at hk
    obtain ⟨rfl, hk⟩ := hk
    rw [List.lookup_cons] at hl ⊢
    split at hl
    · cases hl
    · exact lookup_none hk hl
theorem de_meth {P : Program} {w : World} {base : Heap} {k n : Nat} {c m : Str} {C : Addr} {f : List D → M D} {apos : Pos} {o e : Expr} {es : List Expr} {go : DTE} {g : DTA} {pl : ι → Sem Bool} (Fc : ClsF mg c C) (F : MethOk P w mg base k C m n f) (hr : ∀ i, RmG k (Xs i).A) (tk : ∀ i, Pas (Xs i) Wx) (ho : DE Xs mg Wx o go) (ha : DA Xs mg Wx (e :: es) g)
    (hP : ∀ j, (Xs j).prog = P ∧ (Xs j).w = w ∧ (Xs j).K = mg.K ∧ (Xs j).mg = mg.mg ∧ (Xs j).base = base := by intro _; exact ⟨rfl, rfl, rfl, rfl, rfl⟩)
    (he : ∀ i, starEach (e :: es) (Xs i).env = (false, eval e (Xs i).env) :: starEach es (Xs i).env := by intro _; rfl) (hpl : ∀ i, (backTo pos (starEach es (Xs i).env)).any (·.1) = false := by intro _; rfl)
    (ht : ∀ i, eval (.Call (.Attribute o m apos) (e :: es) [] pos) (Xs i).env = (do
      let ov ← eval o (Xs i).env
      standAt apos.atName
      let (fn, first) ← holding [ov] (getMethod ov m (pl i))
      callWith pos fn first (backTo pos (starEach (e :: es) (Xs i).env)) (backToKw pos (keywordEach [] (Xs i).env))) := by intro _; rfl) : DE Xs mg Wx (.Call (.Attribute o m apos) (e :: es) [] pos) (dMeth c f n m go g) := by
  obtain ⟨fa, fd, ps, hm, hb, hl, G⟩ := F.ex
  obtain ⟨to, o1, o2⟩ := ho
  obtain ⟨t, h1, h2⟩ := ha
  refine ⟨fun σ H Q => to σ H fun x H1 => ∃ a dx fs, x = .ref a ∧ H1 a = some (.ins C dx fs) ∧ fs.lookup m = none ∧ t σ H1 fun vs H2 => spD mg n f (x :: vs) H2 Q (WE Wx σ), fun i => ?_, ?_⟩
  · obtain ⟨p1, p2, p3, p4, p5⟩ := hP i
    subst p1 p2 p5
    constructor
    intro pins z σ H Q I hw
    refine PySem.W.methodCall_KW (pl := pl i) (thn ((o1 i).run pins z σ H _ I hw) ?_) (ht i)
    rintro u z1 ⟨x, H1, I1, rx, a, dx, fs, ex, ea, l, q⟩
    subst ex
    have eu : u = Value.ref a := rx
    subst eu
    apply getmeth_ok I1 ea (by rw [p3]; exact Fc.cl) (by rw [p3]; exact hm) l
    apply PySem.W.callWith_K (first := [.ref a]) (h₀ := (Xs i).base) I.ok.mod.kin (by rw [p3]; exact hm.kp) _ (he i) (hpl i)
    refine thn ((h1 i).run pos pins z1 σ H1 _ I1 q) ?_
    rintro us z2 ⟨vs, H2, I2, rv, q2⟩
    exact ⟨I2.kIn, goG (Ew := WE Wx) (us := .ref a :: us) (vs := .ref a :: vs) (by rw [p3, p4]; exact G) (hr i) (by rw [p3]; exact hb) (tk i σ) I2 (.cons rfl rv) q2⟩
  · intro B ρ Q E hf W σ H Q' hh e x q
    refine o2 B ρ _ E hf W σ H _ hh e x fun W1 H1 v d s1 r1 k1 => ?_
    obtain ⟨c', ds, rfl, k1⟩ := insOf k1
    obtain ⟨a, C', dx, fs, rfl, hc, ha, hk, rs⟩ := r1.insI
    obtain ⟨rfl, hno, k2⟩ := k1
    have ec := Fc.eq hc
    subst ec
    refine ⟨a, dx, fs, rfl, s1.holds.same _ _ ha, lookup_none hk hno, ?_⟩
    refine h2 B ρ _ E k2 W1 σ H1 _ s1.holds (e.step s1) (x.step s1) fun W2 H2 vs ds2 s2 r2 k3 => ?_
    have s12 := s1.trans s2
    exact ⟨W2, _, Q, E, s2.holds, .cons ((Rep.ins hc ha hk rs).mono s2.le) r2, k3.1, k3.2, ToV.step q s12, fun W' H' cls dd y s' r h => x W' H' cls dd y (s12.trans s') r h⟩
/-! ### properties -/
structure PropOk (P : Program) (w : World) (mg : Gm) (base : Heap) (k : Nat) (C : Addr) (m : Str) (f : List D → M D) : Prop where
  ex : ∃ p fa fd ps, PropOf mg.K C m p fa ∧ Binds mg.K fd ps [] ∧ ps.length = 1 ∧ FnG P w mg.K mg.mg base k fa fd ps (spD mg 1 f)
theorem mkProp {P : Program} {w : World} {base : Heap} {C : Addr} {m qual : Str} {st : Stmt} {N ps : List Str} {k : Nat} {f : List D → M D} (d : ∃ p fa fd, PropOf mg.K C m p fa ∧ Fun mg.K m qual st fa fd) (S : FnScope N ps (defScope st)) (h1 : ps.length = 1)
    (hb : ∀ (kV doc pm : Value) (an : Option Addr) (cdv ct : Value) (us : List Value), us.length = ps.length → bindArgs (PySem.W.fnOf m qual (defArgs st) (defBody st) (defScope st) .none kV doc pm an cdv ct) ⟨us, []⟩ = pure (ps.zip us))
    (h : ∀ (fa : Addr) (cdv : Value) (A : Around) (outer : List PySem.Env) (s : Shared) (H : Hp) (E : XK), RmG k (A.deeper (PyProof.Rows.envOfC qual (defScope st) s.heap.objs.size fa cdv)) →
      ∃ g, DSs (fun _ : Unit => cxOf (L2.CX P w) P w mg.K mg.mg base N qual (defScope st) fa cdv A outer s H E) mg (fun cls d _ H' => E cls d H') (defBody st) g ∧
        ∀ ds Q Ex, ds.length = ps.length → f ds Q Ex → g ⟨fun _ => Q .non, fun d _ => Q d, fun _ => False, fun _ => False, fun x _ => Ex x⟩ (startD N.length ds)) :
    PropOk P w mg base (k + 1) C m f := by
  obtain ⟨p, fa, fd, hm, F⟩ := d
  have G := def_ok F S (h fa)
  rw [h1] at G
  exact ⟨p, fa, fd, ps, hm, F.binds hb, h1, G⟩
/-- a property that raises nothing -/
noncomputable abbrev dProp (c : Str) (f : List D → M D) (go : DTE) : DTE := fun ρ Q E => go ρ (fun x => match x with
  | .ins c' fs => c' = c ∧ f [.ins c' fs] Q F0
  | _ => False) E
theorem getpropG {X : Cx} {k : Nat} {C p g a dx : Addr} {fs : List (Str × V)} {f : Str} {fd : FuncData} {ps : List Str} {sp : Sp} {pins : List (Addr × Obj)} {σ : St} {H : Hp} {z : Shared} {Q : VK} {b : Bool} {E' : Value → Shared → Prop} (I : Inv X pins σ H z) (ea : H a = some (.ins C dx fs)) (c : Cls X.K C) (hp : PropOf X.K C f p g)
    (F : FnG X.prog X.w X.K X.mg X.base k g fd ps sp) (m : RmG (k + 1) X.A) (hb : Binds X.K fd ps []) (h : sp [.ref a] H Q E0) : wpAny (model X.prog X.w) X.A (getAttr (.ref a) f b) (EP X pins σ Q) E' z := by
  obtain ⟨mA, O, _⟩ := ins_get I.hok ea
  obtain ⟨od, J, _⟩ := O.look
  obtain ⟨rest, hrec⟩ := hp.rec_
  have I1 := I.tok (z.toks + 1)
  have hc : (PySem.W.clsIn X.K C).isSome = true := by
    obtain ⟨cd, q, _⟩ := PySem.W.any_some c.hd
    rw [q]
    rfl
  have plain := PySem.W.plainGet_of (c.get f)
  refine PySem.W.get_bind I.kIn J plain.1 (PySem.W.findObj_data hc hp.at_ hp.get hp.tak) plain.2 (wpAny_call (PySem.W.prop_get (s := { z with toks := z.toks + 1 }) I.kIn hrec ?_))
  have bd := hb { z with toks := z.toks + 1 } [.ref a] I1.kIn (F.ln _ _ _ _ h)
  rw [List.append_nil] at bd
  have cd := F.go X.A.in1 X.stack { z with toks := z.toks + 1 } H ⟨[.ref a], []⟩ [.ref a] [.ref a] Q E0 m.in1 I1.env0.in1 bd (.cons rfl .nil) h
  refine codeAny_mono cd ?_
  intro res z' hq
  match res, hq with
  | .error e, hq =>
    obtain ⟨_, _, _, _, _, _, _, _, _, _, _, _, w⟩ := hq
    exact w.elim
  | .ok .next, hq => exact hq.elim
  | .ok .brk, hq => exact hq.elim
  | .ok .cont, hq => exact hq.elim
  | .ok (.ret u), hq =>
    obtain ⟨v, H', I3, rv, q3⟩ := I1.after hq
    show wpAny _ _ (handedOut u) _ _ _
    rw [PySem.W.handedOut_of (handed_of rv)]
    exact wpAny_pure ⟨v, H', I3, rv, q3⟩
theorem de_prop {P : Program} {w : World} {base : Heap} {k : Nat} {c m : Str} {C : Addr} {f : List D → M D} {o : Expr} {go : DTE} (Fc : ClsF mg c C) (F : PropOk P w mg base k C m f) (hr : ∀ i, RmG (k + 1) (Xs i).A) (ho : DE Xs mg Wx o go)
    (hP : ∀ j, (Xs j).prog = P ∧ (Xs j).w = w ∧ (Xs j).K = mg.K ∧ (Xs j).mg = mg.mg ∧ (Xs j).base = base := by intro _; exact ⟨rfl, rfl, rfl, rfl, rfl⟩) (hab : ∀ j, attributeBase o m (Xs j).env (eval o (Xs j).env) = eval o (Xs j).env := by intro _; rfl) : DE Xs mg Wx (.Attribute o m pos) (dProp c f go) := by
  obtain ⟨p, fa, fd, ps, hm, hb, hl, G⟩ := F.ex
  obtain ⟨to, o1, o2⟩ := ho
  refine ⟨fun σ H Q => to σ H fun x H1 => ∃ a dx fs, x = .ref a ∧ H1 a = some (.ins C dx fs) ∧ spD mg 1 f [.ref a] H1 Q E0, fun i => ?_, ?_⟩
  · obtain ⟨p1, p2, p3, p4, p5⟩ := hP i
    subst p1 p2 p5
    constructor
    intro pins z σ H Q I hw
    refine attr_of (hab i) (thn ((o1 i).run pins z σ H _ I hw) ?_)
    rintro u z1 ⟨x, H1, I1, rx, a, dx, fs, ex, ea, q⟩
    subst ex
    have eu : u = Value.ref a := rx
    subst eu
    exact getpropG I1 ea (by rw [p3]; exact Fc.cl) (by rw [p3]; exact hm) (by rw [p3, p4]; exact G) (hr i) (by rw [p3]; exact hb) q
  · intro B ρ Q E hf W σ H Q' hh e x q
    refine o2 B ρ _ E hf W σ H _ hh e x fun W1 H1 v d s1 r1 k1 => ?_
    obtain ⟨c', ds, rfl, k1⟩ := insOf k1
    obtain ⟨a, C', dx, fs, rfl, hc, ha, hk, rs⟩ := r1.insI
    obtain ⟨rfl, k2⟩ := k1
    have ec := Fc.eq hc
    subst ec
    exact ⟨a, dx, fs, rfl, s1.holds.same _ _ ha, W1, _, Q, F0, s1.holds, .cons (.ins hc ha hk rs) .nil, rfl, k2, ToV.step q s1, fun _ _ _ _ _ _ _ h => h⟩
/-! ### isinstance with a class of the text -/
/-- what isinstance says of built-in kinds and of the classes cs -/
structure IsiF (mg : Gm) (C : Addr) (cs : List Str) (yes : Str → Bool) : Prop where
  bn : ∀ n ∈ ["NoneType", "bool", "int", "str", "tuple", "list", "dict"], PySem.W.kitOne mg.K (.type n) (.ref C) = some false
  cl : ∀ c ∈ cs, ∃ C', ClsF mg c C' ∧ PySem.W.kitOne mg.K (.ref C') (.ref C) = some (yes c)
noncomputable def isiD (cs : List Str) (yes : Str → Bool) : D → Option Bool
  | .ins c _ => if c ∈ cs then some (yes c) else none
  | .fz _ => none
  | .cl _ => none
  | .fn _ _ => none
  | .dn _ => none
  | _ => some false
noncomputable abbrev dIsiO (cs : List Str) (yes : Str → Bool) (f : DTE) : DTE := fun ρ Q E => f ρ (fun x => match isiD cs yes x with
  | some b => Q (.bl b)
  | none => False) E
theorem isiD_v {W : Wd} {H : Hp} {C : Addr} {cs : List Str} {yes : Str → Bool} {x : V} {d : D} {b : Bool} (K : IsiF mg C cs yes) (hh : Holds W H) (r : Rep mg W x d) (h : isiD cs yes d = some b) : ∃ t, TyX mg.K H x t ∧ PySem.W.kitOne mg.K t (.ref C) = some b := by
  cases r with
  | @ins a C0 dx fs c ds hc ha hk rs =>
    have h' : (if c ∈ cs then some (yes c) else none) = some b := h
    by_cases hm : c ∈ cs
    · rw [if_pos hm] at h'
      cases h'
      obtain ⟨C', F, hy⟩ := K.cl _ hm
      have ec := F.eq hc
      subst ec
      exact ⟨_, .base (.ins (hh.same _ _ ha) F.cl F.ha F.hn F.htk F.hm), hy⟩
    · rw [if_neg hm] at h'
      cases h'
  | fz _ _ => cases h
  | cl _ => cases h
  | fn _ => cases h
  | dn _ _ _ _ _ => cases h
  | non => cases h; exact ⟨_, tyName_v (mg := mg) hh .non rfl, K.bn _ (by decide)⟩
  | bl k => cases h; exact ⟨_, tyName_v (mg := mg) hh (.bl k) rfl, K.bn _ (by decide)⟩
  | int k => cases h; exact ⟨_, tyName_v (mg := mg) hh (.int k) rfl, K.bn _ (by decide)⟩
  | str k => cases h; exact ⟨_, tyName_v (mg := mg) hh (.str k) rfl, K.bn _ (by decide)⟩
  | tup ha rs => cases h; exact ⟨_, tyName_v (mg := mg) hh (.tup ha rs) rfl, K.bn _ (by decide)⟩
  | lst ha rs => cases h; exact ⟨_, tyName_v (mg := mg) hh (.lst ha rs) rfl, K.bn _ (by decide)⟩
  | dct ha hk rs => cases h; exact ⟨_, tyName_v (mg := mg) hh (.dct ha hk rs) rfl, K.bn _ (by decide)⟩
  | tok t => cases h; exact ⟨_, tyName_v (mg := mg) hh (.tok t) rfl, K.bn _ (by decide)⟩
theorem de_isiO {e : Expr} {f : DTE} {c : Str} {C : Addr} {cs : List Str} {yes : Str → Bool} {p p2 : Pos} (h : DE Xs mg Wx e f) (hm : mg.mg "isinstance" = none) (Fc : mg.mg c = some (.ref C)) (K : IsiF mg C cs yes) (hv : bootBuiltins "isinstance" = some (.builtin "isinstance"))
    (hK : ∀ j, (Xs j).K = mg.K := by intro _; rfl) (hM : ∀ j, (Xs j).mg = mg.mg := by intro _; rfl) (hg : ∀ j, Gl (Xs j) "isinstance" := by intro _; rfl) (hgT : ∀ j, Gl (Xs j) c := by intro _; rfl) (hd : (c == ("__debug__" : Str)) = false := by decide)
    (he : ∀ j, starEach [e, .Name c p2] (Xs j).env = (false, eval e (Xs j).env) :: starEach [.Name c p2] (Xs j).env := by intro _; rfl) (he2 : ∀ j, starEach [.Name c p2] (Xs j).env = [(false, eval (.Name c p2) (Xs j).env)] := by intro _; rfl)
    (hpl : ∀ j, (backTo pos (starEach [.Name c p2] (Xs j).env)).any (·.1) = false := by intro _; rfl) : DE Xs mg Wx (.Call (.Name "isinstance" p) [e, .Name c p2] [] pos) (dIsiO cs yes f) := by
  obtain ⟨t, h1, h2⟩ := h
  refine ⟨tCB (rIsi mg.K) (tCons t (tCons (tC (.ref C)) tNil)), fun j => ?_, ?_⟩
  · exact pe_callB (call_isiK2 (hK j)) (hg j) (by rw [hM j]; exact hm) hv (pa_cons (h1 j) (pa_cons (pe_glob (v := .ref C) (hgT j) (by rw [hM j]; exact Fc) rfl hd) pa_nil (he2 j)) (he j)) (by decide) (by decide) (he j) (hpl j)
  · intro B ρ Q E hf W σ H Q' hh e x q
    refine h2 B ρ _ E hf W σ H _ hh e x fun W1 H1 v d s1 r1 k1 => ?_
    dsimp only at k1
    split at k1
    · rename_i b hb
      obtain ⟨ty, hy, hk⟩ := isiD_v K s1.holds r1 hb
      exact ⟨v, .ref C, ty, .ref C, b, rfl, .own C, hy, hk, q W1 H1 _ _ s1 (.bl b) k1⟩
    · exact k1.elim
end
end FP
/-! FP12: what Python asks of own objects by special methods: len, in, ==, str, []. -/
namespace FP
open PySem L2
variable [Tabl]
theorem CX.none {P : Program} {w : World} {out : List PySem.Env} {H : Hp} {z : Shared} {e : Value} {z' : Shared} (h : L2.CX P w out H z E0 e z') : False := by
  obtain ⟨_, _, _, _, _, _, _, _, _, _, _, _, w⟩ := h
  exact w
/-- a callee that raises nothing, at any place -/
theorem callAt0 {X : Cx} {k : Nat} {f : Addr} {fd : FuncData} {ps : List Str} {sp : Sp} {pins : List (Addr × Obj)} {σ : St} {H : Hp} {z : Shared} {Q : VK} {us : List Value} {vs : List V} {E' : Value → Shared → Prop} (F : FnG X.prog X.w X.K X.mg X.base k f fd ps sp) {A' : Around} (m : RmG k A') (hA : A'.frames = X.A.frames)
    (hb : Binds X.K fd ps []) (I : Inv X pins σ H z) (rv : Vals vs us) (h : sp vs H Q E0) : wpAny (model X.prog X.w) A' (call (.ref f) us) (EP X pins σ Q) E' z := by
  have hl : (us ++ []).length = ps.length := by
    rw [List.append_nil, ← rv.length]
    exact F.ln _ _ _ _ h
  have bd := hb z us I.kIn hl
  rw [List.append_nil] at bd
  have e0 := I.env0
  have cd := F.go A' X.stack z H ⟨us, []⟩ us vs Q E0 m ⟨by rw [hA]; exact e0.frames, e0.mod, e0.bs, e0.bsz, e0.funs, e0.frf, e0.hok, e0.bare⟩ bd rv h
  refine wpAny_call (codeAny_mono cd ?_)
  intro res z' hq
  match res, hq with
  | .error e, hq => exact (CX.none hq).elim
  | .ok (.ret u), hq => exact I.after hq
  | .ok .next, hq => exact hq.elim
  | .ok .brk, hq => exact hq.elim
  | .ok .cont, hq => exact hq.elim
/-- a special method of a class: found, a def of the text, with its promise -/
structure SpecOk (P : Program) (w : World) (mg : Gm) (base : Heap) (k : Nat) (C : Addr) (m : Str) (n : Nat) (f : List D → M D) : Prop where
  ex : ∃ fa fd ps, PySem.W.findIn mg.K (.ref C) m = some (some (.ref fa)) ∧ PySem.W.isFn mg.K (.ref fa) = true ∧ PySem.W.fnIn mg.K fa = true ∧ Binds mg.K fd ps [] ∧ ps.length = n ∧ FnG P w mg.K mg.mg base k fa fd ps (spD mg n f)
section
variable {ι : Type} {Xs : ι → Cx} {mg : Gm} {Wx : WX} {pos : Pos} {P : Program} {w : World} {base : Heap} {k : Nat} {c : Str} {C : Addr} {f : List D → M D}
/-- the contexts are those of the module -/
noncomputable abbrev HPs (Xs : ι → Cx) (P : Program) (w : World) (mg : Gm) (base : Heap) : Prop := ∀ j, (Xs j).prog = P ∧ (Xs j).w = w ∧ (Xs j).K = mg.K ∧ (Xs j).mg = mg.mg ∧ (Xs j).base = base
theorem spD_of {W : Wd} {H : Hp} {Q : D → Prop} {Q' : VK} {vs : List V} {ds : List D} {n : Nat} (hh : Holds W H) (r : Reps mg W vs ds) (hl : ds.length = n) (h : f ds Q F0) (q : ToV mg W H Q Q') : spD mg n f vs H Q' E0 :=
  ⟨W, ds, Q, F0, hh, r, hl, h, q, fun _ _ _ _ _ _ _ h => h⟩
/-! ### len -/
noncomputable def rdLenM (c : Str) (f : List D → M D) : RDL := fun ds Q => match ds with
  | [.ins c' fs] => c' = c ∧ f [.ins c' fs] (fun d => match d with
    | .int n => (0 ≤ n ∧ n < 2 ^ 63) ∧ Q (.int n)
    | _ => False) F0
  | _ => False
theorem ok_lenM (Fc : ClsF mg c C) (S : SpecOk P w mg base k C "__len__" 1 f) (hr : ∀ j, RmG (k + 1) (Xs j).A) (hP : HPs Xs P w mg base := by intro _; exact ⟨rfl, rfl, rfl, rfl, rfl⟩) : CallOk Xs mg (.builtin "len") (rdLenM c f) := by
  obtain ⟨fa, fd, ps, h1, h2, h3, hb, hl, G⟩ := S.ex
  refine ⟨fun xs H Q => ∃ a dx fs, xs = [.ref a] ∧ H a = some (.ins C dx fs) ∧ spD mg 1 f [.ref a] H (fun v H' => ∃ n : Int, v = .int n ∧ (0 ≤ n ∧ n < 2 ^ 63) ∧ Q (.int n) H') E0, fun j => ?_, ?_⟩
  · obtain ⟨p1, p2, p3, p4, p5⟩ := hP j
    subst p1 p2 p5
    intro pins z σ H xs us Q I rv h
    obtain ⟨a, dx, fs, rfl, ea, hs⟩ := h
    obtain ⟨u, rfl, ru⟩ := vals1 rv
    cases ru
    obtain ⟨mA, O, _⟩ := ins_get I.hok ea
    obtain ⟨od, J, _⟩ := O.look
    obtain ⟨m, hF⟩ := I.fr
    refine PySem.W.len_K hF I.ok.mod.kin J (by rw [p3]; exact h1) (by rw [p3]; exact h2) ?_
    refine wpAny_mono (callAt0 (X := Xs j) (by rw [p3, p4]; exact G) (hr j).in1 rfl (by rw [p3]; exact hb) I (vs := [.ref a]) (.cons (show RelV (.ref _) (.ref _) from rfl) .nil) hs) (fun v z' hv => ?_) fun _ _ q => q
    obtain ⟨x, H', I', rx, n, rfl, hn, hq⟩ := hv
    obtain ⟨t, rfl⟩ := (show ∃ t, v = Value.int n t from rx)
    exact ⟨hn, .int n, H', I'.tok _, ⟨_, rfl⟩, hq⟩
  · intro W H vs ds Q Q' hh r h q
    unfold rdLenM at h
    split at h
    · cases r with
      | cons r rs =>
        cases rs
        cases r with
        | @ins a C' dx fs c' ds hc ha hk rs =>
          obtain ⟨rfl, h⟩ := h
          have ec := Fc.eq hc
          subst ec
          refine ⟨a, dx, fs, rfl, hh.same _ _ ha, spD_of hh (.cons (.ins hc ha hk rs) .nil) rfl h fun W' H' v d s' r' hd => ?_⟩
          cases r' with
          | int n => exact ⟨n, rfl, hd.1, q W' H' _ _ s' (.int n) hd.2⟩
          | _ => exact hd.elim
    · exact h.elim
/-! ### in -/
noncomputable def rdInM (neg : Bool) (c : Str) (f : List D → M D) : RD2 := fun x y Q => match y with
  | .ins c' fs => c' = c ∧ f [.ins c' fs, x] (fun d => blc d fun b => Q (.bl (if neg then !b else b))) F0
  | _ => False
theorem ok_inM (Fc : ClsF mg c C) (S : SpecOk P w mg base k C "__contains__" 2 f) (hr : ∀ j, RmG k (Xs j).A) (hP : HPs Xs P w mg base := by intro _; exact ⟨rfl, rfl, rfl, rfl, rfl⟩) : OpOk Xs mg (compareOp .In) (rdInM false c f) := by
  obtain ⟨fa, fd, ps, h1, h2, h3, hb, hl, G⟩ := S.ex
  refine ⟨fun x y H Q => ∃ a dx fs, y = .ref a ∧ H a = some (.ins C dx fs) ∧ spD mg 2 f [.ref a, x] H (fun v H' => ∃ b, v = .bl b ∧ Q (.bl b) H') E0, fun j => ?_, ?_⟩
  · obtain ⟨p1, p2, p3, p4, p5⟩ := hP j
    subst p1 p2 p5
    intro pins z σ H x y v u Q I rx ry h
    obtain ⟨a, dx, fs, rfl, ea, hs⟩ := h
    cases ry
    obtain ⟨mA, O, _⟩ := ins_get I.hok ea
    obtain ⟨od, J, _⟩ := O.look
    obtain ⟨m, hF⟩ := I.fr
    refine PySem.W.in_K hF I.ok.mod.kin J (by rw [p3]; exact h1) (by rw [p3]; exact h2) ?_
    refine wpAny_mono (callAt0 (X := Xs j) (by rw [p3, p4]; exact G) (hr j) rfl (by rw [p3]; exact hb) I (vs := [.ref a, x]) (.cons (show RelV (.ref _) (.ref _) from rfl) (.cons rx .nil)) hs) (fun r z' hv => ?_) fun _ _ q => q
    obtain ⟨y, H', I', ry, b, rfl, hq⟩ := hv
    cases ry
    exact wpAny_truthy_bool ⟨.bl b, H', I', rfl, hq⟩
  · intro W H x y dx dy Q Q' hh rx ry h q
    cases ry with
    | @ins a C' ax fs c' ds hc ha hk rs =>
      obtain ⟨rfl, h⟩ := h
      have ec := Fc.eq hc
      subst ec
      refine ⟨a, ax, fs, rfl, hh.same _ _ ha, spD_of hh (.cons (.ins hc ha hk rs) (.cons rx .nil)) rfl h fun W' H' v d s' r' hd => ?_⟩
      cases r' with
      | bl b => exact ⟨b, rfl, q W' H' _ _ s' (.bl b) hd⟩
      | _ => exact hd.elim
    | _ => exact h.elim
theorem ok_notInM (Fc : ClsF mg c C) (S : SpecOk P w mg base k C "__contains__" 2 f) (hr : ∀ j, RmG k (Xs j).A) (hP : HPs Xs P w mg base := by intro _; exact ⟨rfl, rfl, rfl, rfl, rfl⟩) : OpOk Xs mg (compareOp .NotIn) (rdInM true c f) := by
  obtain ⟨fa, fd, ps, h1, h2, h3, hb, hl, G⟩ := S.ex
  refine ⟨fun x y H Q => ∃ a dx fs, y = .ref a ∧ H a = some (.ins C dx fs) ∧ spD mg 2 f [.ref a, x] H (fun v H' => ∃ b, v = .bl b ∧ Q (.bl (!b)) H') E0, fun j => ?_, ?_⟩
  · obtain ⟨p1, p2, p3, p4, p5⟩ := hP j
    subst p1 p2 p5
    intro pins z σ H x y v u Q I rx ry h
    obtain ⟨a, dx, fs, rfl, ea, hs⟩ := h
    cases ry
    obtain ⟨mA, O, _⟩ := ins_get I.hok ea
    obtain ⟨od, J, _⟩ := O.look
    obtain ⟨m, hF⟩ := I.fr
    refine PySem.W.notIn_K hF I.ok.mod.kin J (by rw [p3]; exact h1) (by rw [p3]; exact h2) ?_
    refine wpAny_mono (callAt0 (X := Xs j) (by rw [p3, p4]; exact G) (hr j) rfl (by rw [p3]; exact hb) I (vs := [.ref a, x]) (.cons (show RelV (.ref _) (.ref _) from rfl) (.cons rx .nil)) hs) (fun r z' hv => ?_) fun _ _ q => q
    obtain ⟨y, H', I', ry, b, rfl, hq⟩ := hv
    cases ry
    exact wpAny_truthy_bool ⟨.bl _, H', I', rfl, hq⟩
  · intro W H x y dx dy Q Q' hh rx ry h q
    cases ry with
    | @ins a C' ax fs c' ds hc ha hk rs =>
      obtain ⟨rfl, h⟩ := h
      have ec := Fc.eq hc
      subst ec
      refine ⟨a, ax, fs, rfl, hh.same _ _ ha, spD_of hh (.cons (.ins hc ha hk rs) (.cons rx .nil)) rfl h fun W' H' v d s' r' hd => ?_⟩
      cases r' with
      | bl b => exact ⟨b, rfl, q W' H' _ _ s' (.bl _) hd⟩
      | _ => exact hd.elim
    | _ => exact h.elim
/-! ### str -/
noncomputable def rdStrM (c : Str) (f : List D → M D) : RDL := fun ds Q => match ds with
  | [.ins c' fs] => c' = c ∧ f [.ins c' fs] (fun d => match d with
    | .str z => Q (.str z)
    | _ => False) F0
  | _ => False
theorem ok_strM (Fc : ClsF mg c C) (S : SpecOk P w mg base k C "__str__" 1 f) (hr : ∀ j, RmG (k + 2) (Xs j).A) (hP : HPs Xs P w mg base := by intro _; exact ⟨rfl, rfl, rfl, rfl, rfl⟩) : CallOk Xs mg (.type "str") (rdStrM c f) := by
  obtain ⟨fa, fd, ps, h1, h2, h3, hb, hl, G⟩ := S.ex
  refine ⟨fun xs H Q => ∃ a dx fs, xs = [.ref a] ∧ H a = some (.ins C dx fs) ∧ spD mg 1 f [.ref a] H (fun v H' => ∃ n : Str, v = .str n ∧ Q (.str n) H') E0, fun j => ?_, ?_⟩
  · obtain ⟨p1, p2, p3, p4, p5⟩ := hP j
    subst p1 p2 p5
    intro pins z σ H xs us Q I rv h
    obtain ⟨a, dx, fs, rfl, ea, hs⟩ := h
    obtain ⟨u, rfl, ru⟩ := vals1 rv
    cases ru
    obtain ⟨mA, O, _⟩ := ins_get I.hok ea
    obtain ⟨od, J, _⟩ := O.look
    have m2 : RmG k (Xs j).A.in1.in1 := (RmG.in1 (k := k + 1) (hr j)).in1
    refine PySem.W.kso_call m2.r.units0 I.kIn J (by rw [p3]; exact h1) (by rw [p3]; exact h2) ?_
    refine wpAny_mono (callAt0 (X := Xs j) (by rw [p3, p4]; exact G) m2 rfl (by rw [p3]; exact hb) I (vs := [.ref a]) (.cons (show RelV (.ref _) (.ref _) from rfl) .nil) hs) (fun v z' hv => ?_) fun _ _ q => q
    obtain ⟨x, H', I', rx, n, rfl, hq⟩ := hv
    obtain ⟨t, rfl⟩ := (show ∃ t, v = Value.str n t from rx)
    exact ⟨.str n, H', I', ⟨_, rfl⟩, hq⟩
  · intro W H vs ds Q Q' hh r h q
    unfold rdStrM at h
    split at h
    · cases r with
      | cons r rs =>
        cases rs
        cases r with
        | @ins a C' dx fs c' ds hc ha hk rs =>
          obtain ⟨rfl, h⟩ := h
          have ec := Fc.eq hc
          subst ec
          refine ⟨a, dx, fs, rfl, hh.same _ _ ha, spD_of hh (.cons (.ins hc ha hk rs) .nil) rfl h fun W' H' v d s' r' hd => ?_⟩
          cases r' with
          | str n => exact ⟨n, rfl, q W' H' _ _ s' (.str n) hd⟩
          | _ => exact hd.elim
    · exact h.elim
/-! ### == -/
/-- the class does not stand ahead of the other's, for the kinds of values at hand -/
structure EqF (mg : Gm) (C : Addr) (cs : List Str) : Prop where
  bn : ∀ n ∈ ["NoneType", "bool", "int", "str", "tuple", "list", "dict"], PySem.W.notFirst mg.K C (.type n) = true
  cl : ∀ c ∈ cs, ∃ C', ClsF mg c C' ∧ PySem.W.notFirst mg.K C (.ref C') = true
noncomputable def eqKind (cs : List Str) : D → Prop
  | .ins c _ => c ∈ cs
  | .fz _ => False
  | .cl _ => False
  | .fn _ _ => False
  | .dn _ => False
  | _ => True
noncomputable def rdEqM (cs : List Str) (c : Str) (f : List D → M D) : RD2 := fun x y Q => match x with
  | .ins c' fs => c' = c ∧ eqKind cs y ∧ f [.ins c' fs, y] (fun d => blc d fun b => Q (.bl b)) F0
  | _ => False
/-- the type of a value; frozen dicts too -/
noncomputable def TyL (K : PySem.W.Frag) (H : Hp) (x : V) (t : Value) : Prop := TyOf K H x t ∨ ∃ a o kvs, x = .ref a ∧ H a = some (.frz o (.dK kvs)) ∧ t = .type "dict"
theorem type_looks0 {X : Cx} {pins : List (Addr × Obj)} {σ : St} {H : Hp} {z : Shared} {x : V} {u t : Value} {M : Model} (I : Inv X pins σ H z) (rx : RelV x u) (ty : TyOf X.K H x t) : PySem.W.Looks M z.heap (typeOf u) t := by
  have ref : ∀ {a : Addr} {o : Obj} {t : Value}, z.heap.get? a = some o → o.cls = t → PySem.W.Looks M z.heap (typeOf (.ref a)) t := fun h1 h2 => h2 ▸ (PySem.W.Looks.ld h1).andThen .now
  cases ty with
  | non => cases rx; exact PySem.W.Looks.of_pure rfl
  | bl b => cases rx; exact PySem.W.Looks.of_pure rfl
  | int i => obtain ⟨t, rfl⟩ := (show ∃ t, u = Value.int i t from rx); exact PySem.W.Looks.of_pure rfl
  | str y => obtain ⟨t, rfl⟩ := (show ∃ t, u = Value.str y t from rx); exact PySem.W.Looks.of_pure rfl
  | flt y => obtain ⟨t, rfl⟩ := (show ∃ t, u = Value.float y t from rx); exact PySem.W.Looks.of_pure rfl
  | @lst a xs ea =>
    cases rx
    obtain ⟨_, _, n, _, h1⟩ := (show ObjOk X.prog X.w H z.heap a (.lst xs) from I.hok a _ ea)
    exact ref h1 rfl
  | @frz a ob xs ea =>
    cases rx
    obtain ⟨_, _, _, n, _, h1⟩ := (show ObjOk X.prog X.w H z.heap a (.frz ob (.lst xs)) from I.hok a _ ea)
    exact ref h1 rfl
  | @tup a xs ea =>
    cases rx
    obtain ⟨_, _, _, o, h1, h2, _⟩ := (show ObjOk X.prog X.w H z.heap a (.tup xs) from I.hok a _ ea)
    exact ref h1 h2
  | @dK a kvs ea =>
    cases rx
    obtain ⟨_, _, vs, _, o, es, ep, h1, h2, _⟩ := (show ObjOk X.prog X.w H z.heap a (.dK kvs) from I.hok a _ ea)
    exact ref h1 h2.1
  | @dT a kvs ea =>
    cases rx
    obtain ⟨_, _, xs, _, o, es, ep, h1, h2, _⟩ := (show ObjOk X.prog X.w H z.heap a (.dT kvs) from I.hok a _ ea)
    exact ref h1 h2.1
  | @ins a C dx fs ea cl ha hn htk hm =>
    cases rx
    obtain ⟨mA, O, _⟩ := ins_get I.hok ea
    obtain ⟨od, J, _⟩ := O.look
    exact J.type
theorem type_looks {X : Cx} {pins : List (Addr × Obj)} {σ : St} {H : Hp} {z : Shared} {x : V} {u t : Value} {M : Model} (I : Inv X pins σ H z) (rx : RelV x u) (ty : TyL X.K H x t) : PySem.W.Looks M z.heap (typeOf u) t := by
  rcases ty with ty | ⟨a, o, kvs, rfl, ea, rfl⟩
  · exact type_looks0 I rx ty
  · cases rx
    obtain ⟨_, hx⟩ := (show ObjOk X.prog X.w H z.heap a (.frz o (.dK kvs)) from I.hok a _ ea)
    obtain ⟨_, _, vs, _, o', es, ep, h1, h2, _⟩ := hx
    exact h2.1 ▸ (PySem.W.Looks.ld h1).andThen .now
/-- the kinds of values that may stand on the other side, with their types -/
theorem eqKind_v {W : Wd} {H : Hp} {C : Addr} {cs : List Str} {x : V} {d : D} (K : EqF mg C cs) (hh : Holds W H) (r : Rep mg W x d) (h : eqKind cs d) : ∃ t, TyL mg.K H x t ∧ PySem.W.notFirst mg.K C t = true := by
  cases r with
  | @ins a C0 dx fs c ds hc ha hk rs =>
    obtain ⟨C', F, hy⟩ := K.cl _ h
    have ec := F.eq hc
    subst ec
    exact ⟨_, .inl (.ins (hh.same _ _ ha) F.cl F.ha F.hn F.htk F.hm), hy⟩
  | fz ha => exact h.elim
  | cl ha => exact h.elim
  | fn ha => exact h.elim
  | dn _ _ _ _ _ => exact h.elim
  | non => exact ⟨_, .inl .non, K.bn _ (by decide)⟩
  | bl b => exact ⟨_, .inl (.bl b), K.bn _ (by decide)⟩
  | int b => exact ⟨_, .inl (.int b), K.bn _ (by decide)⟩
  | str b => exact ⟨_, .inl (.str b), K.bn _ (by decide)⟩
  | lst ha rs => exact ⟨_, .inl (.lst (hh.same _ _ ha)), K.bn _ (by decide)⟩
  | tup ha rs => exact ⟨_, .inl (.tup (hh.same _ _ ha)), K.bn _ (by decide)⟩
  | dct ha hk rs => exact ⟨_, .inr ⟨_, _, _, rfl, hh.same _ _ ha, rfl⟩, K.bn _ (by decide)⟩
  | tok t =>
    obtain ⟨_, _, _, _, h2⟩ := hh.tok _ t
    exact ⟨_, .inl (.lst h2), K.bn _ (by decide)⟩
theorem ok_eqM {cs : List Str} (Fc : ClsF mg c C) (S : SpecOk P w mg base k C "__eq__" 2 f) (K : EqF mg C cs) (hr : ∀ j, RmG k (Xs j).A) (hP : HPs Xs P w mg base := by intro _; exact ⟨rfl, rfl, rfl, rfl, rfl⟩) : OpOk Xs mg (compareOp .Eq) (rdEqM cs c f) := by
  obtain ⟨fa, fd, ps, h1, h2, h3, hb, hl, G⟩ := S.ex
  refine ⟨fun x y H Q => ∃ a dx fs t, x = .ref a ∧ H a = some (.ins C dx fs) ∧ TyL mg.K H y t ∧ PySem.W.notFirst mg.K C t = true ∧ spD mg 2 f [.ref a, y] H (fun v H' => ∃ b, v = .bl b ∧ Q (.bl b) H') E0, fun j => ?_, ?_⟩
  · obtain ⟨p1, p2, p3, p4, p5⟩ := hP j
    subst p1 p2 p5
    intro pins z σ H x y v u Q I rx ry h
    obtain ⟨a, dx, fs, t, rfl, ea, ty, hn, hs⟩ := h
    cases rx
    obtain ⟨mA, O, _⟩ := ins_get I.hok ea
    obtain ⟨od, J, _⟩ := O.look
    obtain ⟨m, hF⟩ := I.fr
    refine PySem.W.cmp_K (op := .Eq) (by have := (hr j).r.un; omega) hF I.ok.mod.kin J (type_looks I ry (by rw [p3]; exact ty)) (by rw [p3]; exact hn) (by rw [p3]; exact h1) (by rw [p3]; exact h2) ?_
    refine wpAny_mono (callAt0 (X := Xs j) (by rw [p3, p4]; exact G) (hr j) rfl (by rw [p3]; exact hb) I (vs := [.ref a, y]) (.cons (show RelV (.ref _) (.ref _) from rfl) (.cons ry .nil)) hs) (fun r z' hv => ?_) fun _ _ q => q
    obtain ⟨y, H', I', ry, b, rfl, hq⟩ := hv
    cases ry
    exact ⟨.bl b, H', I', rfl, hq⟩
  · intro W H x y dx dy Q Q' hh rx ry h q
    obtain ⟨c', ds, rfl, h⟩ := insOf h
    obtain ⟨a, C', ax, fs, rfl, hc, ha, hk, rs⟩ := rx.insI
    obtain ⟨rfl, hy, h⟩ := h
    have ec := Fc.eq hc
    subst ec
    obtain ⟨t, ty, hn⟩ := eqKind_v K hh ry hy
    refine ⟨a, ax, fs, t, rfl, hh.same _ _ ha, ty, hn, spD_of hh (.cons (.ins hc ha hk rs) (.cons ry .nil)) rfl h fun W' H' v d s' r' hd => ?_⟩
    cases r' with
    | bl b => exact ⟨b, rfl, q W' H' _ _ s' (.bl b) hd⟩
    | _ => exact hd.elim
/-! ### != by an own == -/
theorem ifBoundS {M : Model} {A : Around} {E : Value → Shared → Prop} {s : Shared} {K : PySem.W.Frag} {x C : Addr} {ox : Obj} {od : Option Obj} {name : Str} {id : String} {args : List Value} {Q : Option Value → Shared → Prop} (X : K.In s.heap) (I : PySem.W.InstAt s.heap x ox C od)
    (hs : PySem.W.findIn K (.ref C) name = some (some (.builtin id))) (hb : ∀ self, bindSpecial (.builtin id) self = pure (.builtin id, [self])) (h : wpAny M A (call (.builtin id) (.ref x :: args)) (fun v => Q (some v)) E s) : wpAny M A (callSpecialIfBound? (.ref x) name args) Q E s := by
  skip
  refine wpAny_holding (wpAny_bind (wpAny_bind (wpAny_bind (I.type.here ((PySem.W.looks_findIn X hs).here ?_)))))
  refine wpAny_bind (wpAny_askSetting (wpAny_ite ?_))
  have fin : wpAny M A (call (.builtin id) ([.ref x] ++ args) >>= fun v => pure (some v)) Q E s := wpAny_bind (wpAny_mono h (fun v s' h' => wpAny_pure h') fun _ _ h' => h')
  split
  · exact wpAny_bind ((PySem.W.Looks.of_pure (hb _)).here (wpAny_pure (by exact fin)))
  · exact wpAny_tryCatch (wpAny_bind ((PySem.W.Looks.of_pure (hb _)).here (wpAny_pure (by exact fin))))
theorem neK {prog : Program} {w : World} {A : Around} {E : Value → Shared → Prop} {s : Shared} {K : PySem.W.Frag} {x C f : Addr} {ox : Obj} {od : Option Obj} {b tb : Value} {Q : Value → Shared → Prop} (hu : A.units + 1 < cLine) (X : K.In s.heap) (I : PySem.W.InstAt s.heap x ox C od)
    (hb : PySem.W.Looks (model prog w) s.heap (typeOf b) tb) (hn : PySem.W.notFirst K C tb = true) (hne : PySem.W.findIn K (.ref C) "__ne__" = some (some (.builtin "object.__ne__"))) (hm : PySem.W.mroIn K C (.type "object") = some true)
    (hs : PySem.W.findIn K (.ref C) "__eq__" = some (some (.ref f))) (hf : PySem.W.isFn K (.ref f) = true)
    (h : wpAny (model prog w) A.in1 (call (.ref f) [.ref x, b]) (fun v s' => ∃ c, v = .bool c ∧ Q (.bool (!c)) s') E s) : wpAny (model prog w) A (richCompare .NotEq (.ref x) b) Q E s := by
  have one : wpAny (model prog w) A (tryCompare (.ref x) (cmpInfo .NotEq).2.1 b) (fun r s' => ∃ v, r = some v ∧ Q v s') E s := by
    unfold tryCompare
    refine wpAny_bind (ifBoundS X I hne PySem.F.cmp_object.ne.bind (wpAny_call (codeAny_call_builtin PySem.F.cmp_object.ne.plain PySem.F.cmpEntry_ne (PySem.W.check_slot (i := "object.__ne__") (owner := "object") (n := "__ne__") PySem.F.cmpKind_ne PySem.F.cmpSplit_ne (I.type.andThen (PySem.W.looks_mroIn X hm)) (PySem.F.cmpArgs_ne _ _) ?_))))
    unfold Builtin.«object.__ne__»
    refine wpAny_bind (m := slotArgs "__ne__" 1 _) (wpAny_pure ?_)
    refine wpAny_bind (m := cRoomFor _ _) (wpAny_cRoomFor hu ?_)
    refine wpAny_bind (m := callSpecialIfBound? (.ref x) (Str.ofString "__eq__") _) (PySem.W.ifBound_K X I hs hf (wpAny_mono h (fun r s' hq => ?_) fun _ _ y => y))
    obtain ⟨c, rfl, hq⟩ := hq
    exact wpAny_bind (wpAny_truthy_bool (wpAny_pure (wpAny_pure ⟨_, rfl, hq⟩)))
  unfold richCompare
  simp only [oneThing_ref]
  refine wpAny_holding (wpAny_bind (wpAny_cRoomFor (Nat.lt_of_succ_lt hu) ?_))
  refine wpAny_bind (I.type.here (wpAny_bind (hb.here ?_)))
  split
  · rename_i q
    have e : PySem.W.subIn K tb (.ref C) = some false := by
      rcases Bool.or_eq_true_iff.mp hn with e | e
      · rw [beq_iff_eq.mp e] at q; simp at q
      · exact beq_iff_eq.mp e
    refine wpAny_bind ((PySem.W.looks_subIn X e).here ?_)
    skip
    refine wpAny_bind (wpAny_mono one (fun r s' z => ?_) fun _ _ e => e)
    obtain ⟨v, rfl, hq⟩ := z
    exact wpAny_pure hq
  · refine wpAny_bind (wpAny_pure ?_)
    skip
    refine wpAny_bind (wpAny_mono one (fun r s' z => ?_) fun _ _ e => e)
    obtain ⟨v, rfl, hq⟩ := z
    exact wpAny_pure hq
noncomputable def rdNeM (cs : List Str) (c : Str) (f : List D → M D) : RD2 := fun x y Q => match x with
  | .ins c' fs => c' = c ∧ eqKind cs y ∧ f [.ins c' fs, y] (fun d => blc d fun b => Q (.bl (!b))) F0
  | _ => False
theorem ok_neM {cs : List Str} (Fc : ClsF mg c C) (S : SpecOk P w mg base k C "__eq__" 2 f) (K : EqF mg C cs) (hne : PySem.W.findIn mg.K (.ref C) "__ne__" = some (some (.builtin "object.__ne__"))) (hr : ∀ j, RmG (k + 1) (Xs j).A) (hP : HPs Xs P w mg base := by intro _; exact ⟨rfl, rfl, rfl, rfl, rfl⟩) : OpOk Xs mg (compareOp .NotEq) (rdNeM cs c f) := by
  obtain ⟨fa, fd, ps, h1, h2, h3, hb, hl, G⟩ := S.ex
  refine ⟨fun x y H Q => ∃ a dx fs t, x = .ref a ∧ H a = some (.ins C dx fs) ∧ TyL mg.K H y t ∧ PySem.W.notFirst mg.K C t = true ∧ spD mg 2 f [.ref a, y] H (fun v H' => ∃ b, v = .bl b ∧ Q (.bl (!b)) H') E0, fun j => ?_, ?_⟩
  · obtain ⟨p1, p2, p3, p4, p5⟩ := hP j
    subst p1 p2 p5
    intro pins z σ H x y v u Q I rx ry h
    obtain ⟨a, dx, fs, t, rfl, ea, ty, hn, hs⟩ := h
    cases rx
    obtain ⟨mA, O, _⟩ := ins_get I.hok ea
    obtain ⟨od, J, _⟩ := O.look
    have kin := I.kIn
    rw [p3] at kin
    refine neK (by have := (hr j).r.un; omega) kin J (type_looks I ry (by rw [p3]; exact ty)) hn hne Fc.hm h1 h2 ?_
    refine wpAny_mono (callAt0 (X := Xs j) (by rw [p3, p4]; exact G) (hr j).in1 rfl (by rw [p3]; exact hb) I (vs := [.ref a, y]) (.cons (show RelV (.ref _) (.ref _) from rfl) (.cons ry .nil)) hs) (fun r z' hv => ?_) fun _ _ q => q
    obtain ⟨y, H', I', ry, b, rfl, hq⟩ := hv
    cases ry
    exact ⟨b, rfl, .bl (!b), H', I', rfl, hq⟩
  · intro W H x y dx dy Q Q' hh rx ry h q
    obtain ⟨c', ds, rfl, h⟩ := insOf h
    obtain ⟨a, C', ax, fs, rfl, hc, ha, hk, rs⟩ := rx.insI
    obtain ⟨rfl, hy, h⟩ := h
    have ec := Fc.eq hc
    subst ec
    obtain ⟨t, ty, hn⟩ := eqKind_v K hh ry hy
    refine ⟨a, ax, fs, t, rfl, hh.same _ _ ha, ty, hn, spD_of hh (.cons (.ins hc ha hk rs) (.cons ry .nil)) rfl h fun W' H' v d s' r' hd => ?_⟩
    cases r' with
    | bl b => exact ⟨b, rfl, q W' H' _ _ s' (.bl _) hd⟩
    | _ => exact hd.elim
end
end FP
/-! FP13: sets of texts: set(list of texts), sorted(set(..)), len(set(..)). -/
namespace FP
open PySem L2 PySem.Spec PyProof.Rows
variable [Tabl]
noncomputable def keyS (e : Int × Value) : Str := match e.2 with
  | .str k _ => k
  | _ => Str.empty
noncomputable def GoodS (w : World) (e : Int × Value) : Prop := ∃ k tk, e.2 = Value.str k tk ∧ e.1 = hashStr w k
/-- the set of texts at a has the members of M; its table can be walked -/
noncomputable def SetS (w : World) (h : Heap) (a : Addr) (M : List Str) : Prop :=
  ∃ o es ep t, h.get? a = some o ∧ o.ExactSet ∧ o.data = .set es ep t ∧ (∀ e ∈ es.toList, GoodS w e) ∧ (es.toList.map keyS).Nodup ∧ (∀ k, k ∈ M ↔ k ∈ es.toList.map keyS) ∧
    es.size < scanBound ∧ t.fits es.size = true ∧ es.size ≤ M.length ∧ Ris t.place.toList ∧ (w.params.followText "set-order" = true ∨ t.led = true)
section
variable {P : Program} {w : World} {h h' : Heap} {a : Addr} {M : List Str}
theorem SetS.at (R : SetS w h a M) (k : ∀ o, h.get? a = some o → h'.get? a = some o) : SetS w h' a M := by
  obtain ⟨o, es, ep, t, ho, r⟩ := R
  exact ⟨o, es, ep, t, k o ho, r⟩
theorem goodS_elems {l : List (Int × Value)} (g : ∀ e ∈ l, GoodS w e) : ElemsOf (PySem.strKind P w) l := fun e he => by
  obtain ⟨k, tk, h1, h2⟩ := g e he
  exact ⟨⟨k, by rw [h1]; exact strKind_is P w k tk, h2⟩, by rw [h1] <;> rfl⟩
theorem goodS_is {e : Int × Value} (g : GoodS w e) (k : Str) : (PySem.strKind P w).is k e.2 = true ↔ keyS e = k := by
  obtain ⟨k0, tk, h1, _⟩ := g
  unfold keyS
  rw [h1]
  constructor
  · intro q
    obtain ⟨t, e⟩ := Value.isStrOf_shape (x := k) (v := .str k0 tk) q
    injection e
  · intro q
    have q' : k0 = k := q
    rw [q']
    exact strKind_is P w k tk
theorem goodS_mem {l : List (Int × Value)} (g : ∀ e ∈ l, GoodS w e) (k : Str) : k ∈ l.map keyS ↔ ∃ e ∈ l, (PySem.strKind P w).is k e.2 = true := by
  rw [List.mem_map]
  constructor
  · rintro ⟨e, he, q⟩
    exact ⟨e, he, (goodS_is (g e he) k).2 q⟩
  · rintro ⟨e, he, q⟩
    exact ⟨e, he, (goodS_is (g e he) k).1 q⟩
end
section
variable {P : Program} {w : World} {A : Around} {E : Value → Shared → Prop} {s : Shared} {a : Addr} {M : List Str}
theorem setS_tail {g : Bool → Sem Unit} (hg : ∀ (b : Bool) (s₁ : Shared) (Q' : Unit → Shared → Prop), Q' () s₁ → wpAny (model P w) A (g b) Q' E s₁)
    {o : Obj} {es : Array (Int × Value)} {ep : Nat} {t : SetTable} (ho : s.heap.get? a = some o) (hex : o.ExactSet) (hd : o.data = .set es ep t)
    {es1 : Array (Int × Value)} {t2 : SetTable} {M' : List Str} (g1 : ∀ e ∈ es1.toList, GoodS w e) (nd1 : (es1.toList.map keyS).Nodup) (m1 : ∀ k, k ∈ M' ↔ k ∈ es1.toList.map keyS)
    (hb1 : es1.size < scanBound) (hf2 : t2.fits es1.size = true) (hz : es1.size ≤ M'.length) (hr : Ris t2.place.toList) (hl : w.params.followText "set-order" = true ∨ t2.led = true) {wasDummy : Bool} {R : Option Bool → Shared → Prop}
    (hR : ∀ h', Heap.SameBut a s.heap h' → SetS w h' a M' → R (some true) { s with heap := h' }) :
    wpAny (model P w) A (do
        storeSet a es1 t2
        if (!wasDummy && t2.tooFull) = true then do
            g (relayAll t2 es1 (SetTable.grown es1.size)).2.2
            storeSet a (relayAll t2 es1 (SetTable.grown es1.size)).1 (relayAll t2 es1 (SetTable.grown es1.size)).2.1
            pure (some true)
          else pure (some true)) R E s := by
  refine wpAny_bind (wpAny_storeSet_of ho hd ?_ (fits_of_scanBound hb1))
  have ho1 := store_at (es' := es1) (t' := t2) ho hd
  have sb1 := Heap.SameBut.update s.heap a (Obj.putSet es1 t2)
  split
  · have pm := relayAll_perm t2 es1 (SetTable.grown es1.size)
    have hf3 := relayAll_fits t2 es1 (SetTable.grown es1.size)
    have hr3 := relayAll_ris t2 es1 (SetTable.grown es1.size)
    have hl3 := relayAll_led t2 es1 (SetTable.grown es1.size)
    generalize relayAll t2 es1 (SetTable.grown es1.size) = Z at pm hf3 hr3 hl3 ⊢
    obtain ⟨es2, t3, gave⟩ := Z
    dsimp only at pm hf3 hr3 hl3 ⊢
    have hsz : es2.size = es1.size := by rw [← Array.length_toList, pm.length_eq, Array.length_toList]
    have hb2 : es2.size < scanBound := by rw [hsz]; exact hb1
    refine wpAny_bind (hg _ _ _ ?_)
    refine wpAny_bind (wpAny_storeSet_of ho1 rfl ?_ (fits_of_scanBound hb2))
    have ho2 := store_at (es' := es2) (t' := t3) ho1 rfl
    refine wpAny_pure (hR _ (sb1.trans (Heap.SameBut.update _ a _)) ?_)
    exact ⟨_, es2, _, t3, ho2, hex, rfl, fun e he => g1 e (pm.mem_iff.mp he), (pm.map keyS).nodup_iff.mpr nd1, fun k => (m1 k).trans (pm.map keyS).mem_iff.symm, hb2, hf3, by rw [hsz]; exact hz, hr3,
      hl.imp id fun z => by rw [hl3]; exact z⟩
  · exact wpAny_pure (hR _ sb1 ⟨_, es1, _, t2, ho1, hex, rfl, g1, nd1, m1, hb1, hf2, hz, hr, hl⟩)
theorem setS_add_hashed {k : Str} {tk : Tok} {Q : Bool → Shared → Prop} (R : SetS w s.heap a M) (room : M.length + 1 < scanBound)
    (hQ : ∀ b h', Heap.SameBut a s.heap h' → SetS w h' a (M ++ [k]) → Q b { s with heap := h' }) :
    wpAny (model P w) A (setAddHashed a (.str k tk) ((PySem.strKind P w).hash k)) Q E s := by
  obtain ⟨o, es, ep, t, ho, hex, hd, g, nd, hm, hb, hf, hn, hr, hl⟩ := R
  have hkey : (PySem.strKind P w).is k (.str k tk) = true := strKind_is P w k tk
  have hsc : (Value.str k tk).scannable = true := rfl
  have hel : ElemsOf (PySem.strKind P w) es.toList := goodS_elems g
  unfold setAddHashed setAddHashedIn
  refine wpAny_holding (wpAny_bind (wpAny_setState_of ho hd hf ?_))
  dsimp only
  rw [byScan_of hsc hb hel]
  simp only [↓reduceIte]
  unfold setAddByScan
  refine wpAny_bind ?_
  refine wpAny_bind (wpAny_rule ?_)
  refine wpAny_bind (wpAny_setScan_of hkey ho hd hf hel ?_)
  cases hfi : List.findIdx? (fun e => (PySem.strKind P w).is k e.2) es.toList with
  | some j =>
    dsimp only
    obtain ⟨hj, pj, _⟩ := List.findIdx?_eq_some_iff_getElem.mp hfi
    have hSk : k ∈ M := (hm k).2 ((goodS_mem (P := P) (w := w) g k).2 ⟨es.toList[j], List.getElem_mem hj, pj⟩)
    refine wpAny_pure (wpAny_pure ?_)
    exact hQ _ s.heap (Heap.SameBut.refl a s.heap) ⟨o, es, ep, t, ho, hex, hd, g, nd, fun i => by
      rw [List.mem_append, List.mem_singleton, ← hm i]
      exact ⟨fun z => z.elim id (fun e => e ▸ hSk), .inl⟩, hb, hf, by rw [List.length_append]; omega, hr, hl⟩
  | none =>
    dsimp only
    have hnk : k ∉ es.toList.map keyS := fun z => by
      obtain ⟨e, he, q⟩ := (goodS_mem (P := P) (w := w) g k).1 z
      have c := List.findIdx?_eq_none_iff.mp hfi e he
      rw [q] at c
      cases c
    have hgw : ∀ (b : Bool) {s₁ : Shared} {Q' : Unit → Shared → Prop}, Q' () s₁ → wpAny (model P w) A (match b with | true => rule "set.scan.the-table-gave-way" | false => pure ()) Q' E s₁ :=
      fun b s₁ Q' q => by cases b <;> first | exact wpAny_pure q | exact wpAny_rule q
    have pm := layNew_perm t es ((PySem.strKind P w).hash k) (.str k tk)
    have hf1 := layNew_fits t es ((PySem.strKind P w).hash k) (.str k tk)
    have hr1 := layNew_ris t es ((PySem.strKind P w).hash k) (.str k tk) hr
    have hl1 := layNew_led t es ((PySem.strKind P w).hash k) (.str k tk)
    generalize layNew t es ((PySem.strKind P w).hash k) (.str k tk) = Z at pm hf1 hr1 hl1 ⊢
    obtain ⟨es1, t1, wasDummy, gave⟩ := Z
    dsimp only at pm hf1 hr1 hl1 ⊢
    rw [Array.toList_push] at pm
    have pc : es1.toList.Perm (((PySem.strKind P w).hash k, Value.str k tk) :: es.toList) := pm.trans (List.perm_append_singleton _ _)
    have pk : (es1.toList.map keyS).Perm (k :: es.toList.map keyS) := pc.map keyS
    have g1 : ∀ e ∈ es1.toList, GoodS w e := fun e he => by
      rcases List.mem_cons.mp (pc.mem_iff.mp he) with z | z
      · rw [z]; exact ⟨k, tk, rfl, rfl⟩
      · exact g e z
    have nd1 : (es1.toList.map keyS).Nodup := pk.nodup_iff.mpr (List.nodup_cons.mpr ⟨hnk, nd⟩)
    have m1 : ∀ i, i ∈ M ++ [k] ↔ i ∈ es1.toList.map keyS := fun i => by
      rw [List.mem_append, List.mem_singleton, hm i, pk.mem_iff, List.mem_cons]
      exact Or.comm
    have hsz : es1.size = es.size + 1 := by rw [← Array.length_toList, pc.length_eq, List.length_cons, Array.length_toList]
    have hb1 : es1.size < scanBound := by rw [hsz]; omega
    have hzz : es1.size ≤ (M ++ [k]).length := by rw [hsz, List.length_append]; simp; exact hn
    have hled : w.params.followText "set-order" = true ∨ t1.led = true := hl.imp id fun z => by rw [hl1]; exact z
    refine wpAny_bind (hgw _ ?_)
    split
    · refine wpAny_bind ?_
      rw [hashByValue_scannable 8 hsc]
      refine wpAny_pure ?_
      refine setS_tail (M' := M ++ [k]) ?_ ho hex hd g1 nd1 m1 hb1 ?_ hzz ?_ ?_ ?_
      · intro b s₁ Q' q; cases b <;> first | exact wpAny_pure q | exact wpAny_rule q
      · first | (split <;> first | exact hf1 | exact SetTable.fits_plain_off hf1) | exact hf1
      · first | (split <;> exact hr1) | exact hr1
      · first | (split <;> exact hled) | exact hled
      · intro h' sb r; dsimp only; exact wpAny_pure (hQ _ h' sb r)
    · refine wpAny_bind (wpAny_pure ?_)
      skip
      refine setS_tail (M' := M ++ [k]) ?_ ho hex hd g1 nd1 m1 hb1 hf1 hzz hr1 hled ?_
      · intro b s₁ Q' q; cases b <;> first | exact wpAny_pure q | exact wpAny_rule q
      · intro h' sb r; dsimp only; exact wpAny_pure (hQ _ h' sb r)
end
/-! ### set(list of texts) -/
theorem strsAt : ∀ {us : List Value} {xs : List Str}, StrsAre us xs → ∀ (i : Nat) (v : Value), us[i]? = some v → ∃ t, v = .str (xs.getD i Str.empty) t
  | _, _, .nil, i, v, h => by simp at h
  | _, _, .cons n t hr, 0, v, h => by simp at h; exact ⟨t, by rw [← h]; rfl⟩
  | _, _, .cons n t hr, i + 1, v, h => by
    simp only [List.getElem?_cons_succ] at h
    obtain ⟨t', e⟩ := strsAt hr i v h
    exact ⟨t', by rw [e]; rfl⟩
section
variable {prog : Program} {w : World} {A : Around} {R : Result → Shared → Prop} {I : Addr} {fp wr : List Addr} {G : Array GenState → Array GenState → Prop} {n : Nat} {P : Nat → Value → Prop} {St : Nat → Shared → Prop}
theorem loopS (W : WalksS prog w A.in1 I fp wr G n P St) (S : Addr) (hSf : S ∉ fp) (xs : List Str) (hsz : xs.length = n) (hb : n + 1 < scanBound)
    (hval : ∀ i v, P i v → ∃ t, v = .str (xs.getD i Str.empty) t) :
    ∀ (k i : Nat) (s : Shared), n - i = k → i ≤ n → St i s → SetS w s.heap S (xs.take i) →
      (∀ s', Moved (S :: wr) G s s' → SetS w s'.heap S xs → R (.ok (.ret .none)) s') →
      codeAny (model prog w) A (.builtin "set.update.loop" ⟨[.ref S, .ref I], []⟩) R s := by
  have hSw : S ∉ wr := fun h => hSf (W.sub _ h)
  have hsub : ∀ b ∈ wr, b ∈ S :: wr := fun b hb => List.mem_cons_of_mem _ hb
  intro k
  induction k with
  | zero =>
    intro i s hk hi hst hS hR
    have hin : i = n := by omega
    subst hin
    refine codeAny_builtin PyProof.Rows.F.entry_set_update_loop ?_
    rw [Around.under_plainId PyProof.Rows.F.plain_set_update_loop _]
    show wpAny _ A.in1 (pyNext (.ref I) >>= _) _ _ s
    refine wpAny_bind (W.done s _ _ hst fun s' hm => ?_)
    show wpAny _ A.in1 (ret Value.none) _ _ s'
    rw [List.take_of_length_le (by omega)] at hS
    exact wpAny_pure (hR s' (hm.mono hsub) (hS.at fun o e => hm.heap S o hSw e))
  | succ k ih =>
    intro i s hk hi hst hS hR
    have hlt : i < n := by omega
    refine codeAny_builtin PyProof.Rows.F.entry_set_update_loop ?_
    rw [Around.under_plainId PyProof.Rows.F.plain_set_update_loop _]
    show wpAny _ A.in1 (pyNext (.ref I) >>= _) _ _ s
    refine wpAny_bind (W.item i s _ _ hlt hst fun v s' hP hst' hm => ?_)
    obtain ⟨t, rfl⟩ := hval i v hP
    have hS' := hS.at (h' := s'.heap) fun o e => hm.heap S o hSw e
    show wpAny _ A.in1 (holding [Value.str (xs.getD i Str.empty) t] (setAdd S (.str (xs.getD i Str.empty) t)) >>= _) _ _ s'
    refine wpAny_bind (wpAny_holding ?_)
    unfold setAdd
    refine wpAny_holding ?_
    refine wpAny_bind ((PySem.strKind prog w).pyHash (k := xs.getD i Str.empty) (strKind_is _ _ _ _) ?_)
    refine setS_add_hashed (s := { s' with toks := s'.toks + 1 }) hS' (by rw [List.length_take]; omega) fun b h' hsb hS2 => ?_
    have e1 : xs.take i ++ [xs.getD i Str.empty] = xs.take (i + 1) := by
      rw [List.take_add_one, List.getElem?_eq_getElem (by omega), List.getD_eq_getElem?_getD, List.getElem?_eq_getElem (by omega)]
      rfl
    rw [e1] at hS2
    refine wpAny_pure ⟨plainId_quiet PyProof.Rows.F.plain_set_update_loop _, ih (i + 1) _ (by omega) hlt (W.frame _ s' _ _ hst' (Nat.le_succ _) fun b hb o e => ?_) hS2 fun s'' hm'' hS'' => ?_⟩
    · rw [hsb.2 b (fun h : b = S => hSf (by rw [← h]; exact hb))]; exact e
    · refine hR s'' (Moved.trans W.gtrans ((hm.mono hsub).then_heap (Nat.le_succ _) fun b o hb e => ?_) hm'') hS''
      rw [hsb.2 b (fun h : b = S => hb (by rw [h]; exact List.mem_cons_self))]; exact e
end
section
variable {prog : Program} {w : World} {A : Around} {E : Value → Shared → Prop} {s : Shared}
theorem setNew_led (a : Value) {Q₁ : Value → Shared → Prop}
    (h : Q₁ (.ref s.heap.objs.size) { s with heap := s.heap.push { cls := .type "set", dict := none, data := .set #[] 0 (.fresh 0 0 (!w.params.followText "set-order")) } }) :
    codeAny (model prog w) A (.call (.builtin "set.__new__") ⟨[.type "set", a], []⟩) (wants Q₁ E) s := by
  refine codeAny_of_tree ?_
  show wpAny _ A.in1 (do checkBuiltinCall "set.__new__" ⟨[.type "set", a], []⟩; again (.builtin "set.__new__" ⟨[.type "set", a], []⟩)) _ _ s
  refine wpAny_bind (wpAny_of_eq (PySem.F.newCall_set_1 a) (wpAny_pure ⟨plainId_quiet PySem.F.plain_set_new _, codeAny_builtin PySem.F.entry_set_new ?_⟩))
  rw [Around.under_plainId PySem.F.plain_set_new _]
  unfold Builtin.«set.__new__» Builtin.Frozenset.newClass
  have hsub := sub_set_self
  obtain ⟨hp, g, d, tk, os⟩ := s
  dsimp only
  wp_walk
  refine wpAny_askSetting (wpAny_pure ?_)
  dsimp only
  skip
  refine wpAny_bind (wpAny_alloc (wpAny_pure ?_))
  exact wpAny_pure h
theorem setS_fresh {h : Heap} (w : World) : SetS w (h.push { cls := .type "set", dict := none, data := .set #[] 0 (.fresh 0 0 (!w.params.followText "set-order")) }) h.objs.size [] :=
  ⟨_, #[], 0, _, Heap.get?_push_size _ rfl, ⟨rfl, rfl, rfl⟩, rfl, (fun e he => by simp at he), (by simp), (fun k => by simp), (by decide), (by rfl), Nat.le_refl _, List.Pairwise.nil, by
    show _ ∨ (!w.params.followText "set-order") = true
    cases w.params.followText "set-order"
    · exact .inr rfl
    · exact .inl rfl⟩
theorem setS_list {l : Addr} {items : Array Value} {xs : List Str} {Q : Value → Shared → Prop}
    (hh : A.handled = none) (hl : s.heap.IsList l items) (hi : PyProof.Rows.StrsAre items.toList xs) (hb : xs.length + 1 < scanBound)
    (h : ∀ (h' : Heap) (tk : Nat), SetS w h' s.heap.objs.size xs → (∀ b o, b < s.heap.objs.size → s.heap.get? b = some o → h'.get? b = some o) → Q (.ref s.heap.objs.size) { s with heap := h', toks := tk }) :
    wpAny (model prog w) A (call (.type "set") [.ref l]) Q E s := by
  obtain ⟨c, tl, hmro⟩ := PySem.F.called_set.mro
  have hmade := PySem.F.called_set.made
  have hsub := PySem.F.called_set.sub
  refine wpAny_call (codeAny_of_tree ?_)
  show wpAny _ _ (callAny (.type "set") _) _ _ _
  refine wpAny_pure ⟨Code.quiet_builtin _ (by decide +kernel), codeAny_builtin PySem.F.entry_type_call ?_⟩
  rw [Around.under_plain (weight_type_call_type "set" [.ref l] []) rfl]
  have h1 := PySem.F.called_set.notType
  have h2 := PySem.F.called_set.canCreate
  have hct := PySem.F.typeCall_set_1 (.ref l)
  repeat (any_goals (first | assumption | wp_step))
  generalize hled : (!w.params.followText "set-order") = led
  refine codeAny_mono (setNew_led (.ref l) (E := E) (Q₁ := fun obj s₁ => obj = .ref s.heap.objs.size ∧ s₁ = { s with heap := s.heap.push { cls := .type "set", dict := none, data := .set #[] 0 (.fresh 0 0 led) } }) (by rw [hled]; exact ⟨rfl, rfl⟩)) fun r s₁ hr => ?_
  cases r with
  | error e => exact hr
  | ok fl =>
    cases fl with
    | ret obj =>
      obtain ⟨rfl, rfl⟩ := hr
      have hS : (s.heap.push { cls := .type "set", dict := none, data := .set #[] 0 (.fresh 0 0 led) }).get? s.heap.objs.size = some { cls := .type "set", dict := none, data := .set #[] 0 (.fresh 0 0 led) } := Heap.get?_push_size _ rfl
      have hT : Shared.TypeIs { s with heap := s.heap.push { cls := .type "set", dict := none, data := .set #[] 0 (.fresh 0 0 led) } } (.ref s.heap.objs.size) "set" := ⟨_, hS, rfl⟩
      have hli := PySem.F.called_set.init.lookup
      have hbi := PySem.F.called_set.init.bind (.ref s.heap.objs.size)
      repeat (any_goals (first | assumption | wp_step))
      refine codeAny_mono (codeAny_call_builtin (R := wants (fun r s₂ => r = .none ∧ ∃ h' tk, s₂ = { s with heap := h', toks := tk } ∧
          SetS w h' s.heap.objs.size xs ∧ (∀ b o, b < s.heap.objs.size → s.heap.get? b = some o → h'.get? b = some o)) E) PySem.F.called_set.init.plain PySem.F.entry_set_init (check_set_init_1 hT ?_)) fun r₂ s₂ hr₂ => ?_
      · obtain ⟨ol, hol, hcl, nl, hdl⟩ := hl
        obtain ⟨ocls, odict, odata, oslots⟩ := ol
        simp only at hcl hdl
        subst hcl; subst hdl
        have hol' : (s.heap.push { cls := .type "set", dict := none, data := .set #[] 0 (.fresh 0 0 led) }).get? l = some { cls := .type "list", dict := odict, data := .seq items nl, slots := oslots } := Heap.get?_push_of_some _ hol
        have hsls := PySem.F.sub_list_set
        have hslf := PySem.F.sub_list_frozenset
        have hne : (Value.type "list" == Value.type "dict") = false := by decide
        have hl1 : (s.heap.push { cls := .type "set", dict := none, data := .set #[] 0 (.fresh 0 0 led) }).IsList l items := ⟨_, hol', rfl, nl, rfl⟩
        unfold Builtin.«set.__init__» noKeywords Builtin.Frozenset.updateFrom
        generalize hPI : pyIter = PI
        wp_walk
        subst hPI
        refine wpAny_pyIter_list hl1 ?_
        refine wpAny_bind (wpAny_runValue ?_)
        have hlS : l < s.heap.objs.size := Heap.lt_size hol
        have hh3 : A.in1.in1.in1.handled = none := by simp [hh]
        have hneI : l ≠ (s.heap.push { cls := .type "set", dict := none, data := .set #[] 0 (.fresh 0 0 led) }).objs.size := by
          rw [Heap.size_push]; exact Nat.ne_of_lt (Nat.lt_succ_of_lt hlS)
        have hSf : s.heap.objs.size ∉ [(s.heap.push { cls := .type "set", dict := none, data := .set #[] 0 (.fresh 0 0 led) }).objs.size, l] := by
          rw [Heap.size_push]; simp only [List.mem_cons, List.mem_singleton, List.not_mem_nil, or_false, not_or]
          exact ⟨Nat.ne_of_lt (Nat.lt_succ_self _), Nat.ne_of_gt hlS⟩
        have hsz : xs.length = items.size := by rw [← StrsAre.len_eq hi, Array.length_toList]
        have hval : ∀ (i : Nat) (v : Value), items[i]? = some v → ∃ t, v = .str (xs.getD i Str.empty) t := fun i v hv => strsAt hi i v (by rw [Array.getElem?_toList]; exact hv)
        refine loopS ((Walks.list hh3 _ l hneI items).toS) s.heap.objs.size
          hSf xs hsz (by rw [← hsz]; exact hb) hval (items.size - 0) 0 _ (by omega) (Nat.zero_le _)
          ⟨⟨_, Heap.get?_push_size _ rfl, rfl, rfl⟩, (hl1.push _)⟩ ?hS0 ?hR
        case hS0 =>
          rw [List.take_zero, ← hled]
          exact (setS_fresh w).at fun o e => Heap.get?_push_of_some _ e
        case hR =>
          intro s' hm hS'
          obtain ⟨h', g', d', tk', os'⟩ := s'
          have eg : g' = s.gens := hm.gens
          have ed : d' = s.drawn := hm.drawn
          have eo : os' = s.os := hm.os
          subst eg; subst ed; subst eo
          show wpAny _ _ _ _ _ _
          refine wpAny_pure ?_
          show wpAny _ _ (ret Value.none) _ _ _
          refine wpAny_pure ⟨rfl, h', tk', rfl, hS', fun b o hb e => ?_⟩
          have hb1 : b ≠ s.heap.objs.size := Nat.ne_of_lt hb
          have hb2 : b ≠ (s.heap.push { cls := .type "set", dict := none, data := .set #[] 0 (.fresh 0 0 led) }).objs.size := by
            rw [Heap.size_push]; exact Nat.ne_of_lt (Nat.lt_succ_of_lt hb)
          exact hm.heap b o (by simp only [List.mem_cons, List.mem_singleton, List.not_mem_nil, or_false, not_or]; exact ⟨hb1, hb2⟩) (Heap.get?_push_of_some _ (Heap.get?_push_of_some _ e))
      · cases r₂ with
        | error e => exact hr₂
        | ok fl₂ =>
          cases fl₂ with
          | ret r =>
            obtain ⟨rfl, h', tk, rfl, hS', hk'⟩ := hr₂
            repeat (any_goals (first | assumption | wp_step))
            exact h _ _ hS' hk'
          | _ => exact hr₂.elim
    | _ => exact hr.elim
end
end FP
/-! FP14: the order of texts; sorted(texts), sorted(set(texts)), len(set(texts)). -/
namespace FP
open PySem L2 PySem.Spec PyProof.Rows
variable [Tabl]
/-! ### the order of texts, pure -/
noncomputable abbrev ltS (a b : Str) : Bool := ltCps a.cps.toList b.cps.toList
theorem ltS_iff {a b : Str} : ltS a b = true ↔ a.cps.toList < b.cps.toList := by
  unfold ltS
  rw [ltCps_eq]
  exact decide_eq_true_iff
theorem ltS_irrefl (a : Str) : ltS a a = false := by
  cases q : ltS a a with
  | false => rfl
  | true => exact (List.lt_irrefl _ (ltS_iff.mp q)).elim
theorem ltS_trans {a b c : Str} (h : ltS a b = true) (g : ltS b c = true) : ltS a c = true := ltS_iff.mpr (List.lt_trans (ltS_iff.mp h) (ltS_iff.mp g))
theorem str_of_list {a b : Str} (h : a.cps.toList = b.cps.toList) : a = b := by
  cases a; cases b
  simp only [Str.mk.injEq]
  exact Array.toList_inj.mp h
theorem ltS_tri {a b : Str} (h : ltS a b = false) (g : ltS b a = false) : a = b := by
  have h1 : ¬ a.cps.toList < b.cps.toList := fun z => by rw [ltS_iff.mpr z] at h; cases h
  have h2 : ¬ b.cps.toList < a.cps.toList := fun z => by rw [ltS_iff.mpr z] at g; cases g
  exact str_of_list (List.le_antisymm (List.not_lt.mp h2) (List.not_lt.mp h1))
theorem ltS_asym {a b : Str} (h : ltS a b = true) : ltS b a = false := by
  cases q : ltS b a with
  | false => rfl
  | true => have := ltS_trans h q; rw [ltS_irrefl] at this; cases this
theorem geS_trans {a b c : Str} (h : ltS b a = false) (g : ltS c b = false) : ltS c a = false := by
  cases q : ltS c a with
  | false => rfl
  | true =>
    by_cases e : a = b
    · rw [e] at q; rw [q] at g; cases g
    · have : ltS a b = true := by
        cases z : ltS a b with
        | true => rfl
        | false => exact (e (ltS_tri z h)).elim
      rw [ltS_trans q this] at g
      cases g
noncomputable abbrev UpS (l : List Str) : Prop := l.Pairwise (fun a b => ltS b a = false)
theorem risingS_up : ∀ (l : List Str) (p : Str), risingS p l = true → (∀ x ∈ l, ltS x p = false) ∧ UpS l
  | [], p, _ => ⟨(fun x h => by cases h), List.Pairwise.nil⟩
  | y :: r, p, h => by
    have h' : (!ltS y p && risingS y r) = true := h
    rw [Bool.and_eq_true, Bool.not_eq_true'] at h'
    obtain ⟨i1, i2⟩ := risingS_up r y h'.2
    refine ⟨fun x hx => ?_, List.pairwise_cons.mpr ⟨i1, i2⟩⟩
    cases hx with
    | head => exact h'.1
    | tail _ hx => exact geS_trans h'.1 (i1 x hx)
theorem sortedS_up {l : List Str} (h : sortedS l = true) : UpS l := by
  cases l with
  | nil => exact .nil
  | cons x r =>
    obtain ⟨i1, i2⟩ := risingS_up r x h
    exact List.pairwise_cons.mpr ⟨i1, i2⟩
noncomputable def insS (x : Str) : List Str → List Str
  | [] => [x]
  | y :: r => if ltS y x then y :: insS x r else x :: y :: r
noncomputable def sortS : List Str → List Str
  | [] => []
  | x :: r => insS x (sortS r)
theorem insS_perm (x : Str) : ∀ l, (insS x l).Perm (x :: l)
  | [] => .refl _
  | y :: r => by
    unfold insS
    split
    · exact ((insS_perm x r).cons y).trans (.swap ..)
    · exact .refl _
theorem sortS_perm : ∀ l, (sortS l).Perm l
  | [] => .refl _
  | x :: r => (insS_perm x _).trans ((sortS_perm r).cons x)
theorem insS_up {x : Str} : ∀ {l}, UpS l → UpS (insS x l)
  | [], _ => List.pairwise_singleton _ _
  | y :: r, h => by
    obtain ⟨h1, h2⟩ := List.pairwise_cons.mp h
    unfold insS
    split
    · rename_i q
      refine List.pairwise_cons.mpr ⟨fun z hz => ?_, insS_up h2⟩
      rcases List.mem_cons.mp ((insS_perm x r).mem_iff.mp hz) with e | e
      · rw [e]; exact ltS_asym q
      · exact h1 z e
    · rename_i q
      have q' : ltS y x = false := by simpa using q
      refine List.pairwise_cons.mpr ⟨fun z hz => ?_, h⟩
      rcases List.mem_cons.mp hz with e | e
      · rw [e]; exact q'
      · exact geS_trans q' (h1 z e)
theorem sortS_up : ∀ l, UpS (sortS l)
  | [] => .nil
  | x :: r => insS_up (sortS_up r)
theorem upS_eq {l l' : List Str} (h : UpS l) (h' : UpS l') (p : l.Perm l') : l = l' := List.Perm.eq_of_pairwise (fun a b _ _ x y => ltS_tri y x) h h' p
theorem sortS_eq {l xs : List Str} (p : l.Perm xs) (h : sortedS l = true) : l = sortS xs := upS_eq (sortedS_up h) (sortS_up xs) (p.trans (sortS_perm xs).symm)
/-- without what comes twice -/
noncomputable def nubS : List Str → List Str
  | [] => []
  | x :: r => if x ∈ nubS r then nubS r else x :: nubS r
theorem nubS_mem {k : Str} : ∀ {l}, k ∈ nubS l ↔ k ∈ l
  | [] => Iff.rfl
  | x :: r => by
    unfold nubS
    split
    · rename_i h
      rw [nubS_mem, List.mem_cons]
      exact ⟨.inr, fun z => z.elim (fun e => by rw [e]; exact nubS_mem.mp h) id⟩
    · rw [List.mem_cons, List.mem_cons, nubS_mem]
theorem nubS_nodup : ∀ l, (nubS l).Nodup
  | [] => .nil
  | x :: r => by
    unfold nubS
    split
    · exact nubS_nodup r
    · rename_i h
      exact List.nodup_cons.mpr ⟨h, nubS_nodup r⟩
theorem nubS_len : ∀ l, (nubS l).length ≤ l.length
  | [] => Nat.le_refl _
  | x :: r => by
    unfold nubS
    have := nubS_len r
    split
    · rw [List.length_cons]; omega
    · rw [List.length_cons, List.length_cons]; omega
/-- sorted(set(l)) -/
noncomputable def sortU (l : List Str) : List Str := sortS (nubS l)
theorem sortU_mem {k : Str} {l : List Str} : k ∈ sortU l ↔ k ∈ l := by
  unfold sortU
  rw [(sortS_perm _).mem_iff, nubS_mem]
theorem sortU_len (l : List Str) : (sortU l).length ≤ l.length := by
  unfold sortU
  rw [(sortS_perm _).length_eq]
  exact nubS_len l
theorem sortU_nodup (l : List Str) : (sortU l).Nodup := (sortS_perm _).nodup_iff.mpr (nubS_nodup l)
theorem nodup_perm {l l' : List Str} (h : l.Nodup) (h' : l'.Nodup) (m : ∀ k, k ∈ l ↔ k ∈ l') : l.Perm l' := by
  rw [List.perm_iff_count]
  intro a
  rw [h.count, h'.count]
  by_cases q : a ∈ l
  · rw [if_pos q, if_pos ((m a).mp q)]
  · rw [if_neg q, if_neg fun z => q ((m a).mpr z)]
theorem sortU_congr {l l' : List Str} (m : ∀ k, k ∈ l ↔ k ∈ l') : sortU l = sortU l' :=
  upS_eq (sortS_up _) (sortS_up _) (nodup_perm (sortU_nodup l) (sortU_nodup l') fun k => by rw [sortU_mem, sortU_mem]; exact m k)
/-! ### the rules -/
noncomputable def SetSO (w : World) (a : Addr) (M : List Str) : HO := .ext fun h => SetS w h a M
section
variable {X : Cx}
theorem setSO_new {w : World} {P : Program} {H : Hp} {h : Heap} {a : Addr} {M : List Str} (R : SetS w h a M) : ObjOk P w H h a (SetSO w a M) := by
  have ⟨o, _, _, _, ho, _⟩ := R
  exact ⟨R, ⟨o, ho⟩, fun h1 h2 p k => SetS.at p k⟩
theorem setSO_get {pins : List (Addr × Obj)} {σ : L2.St} {H : Hp} {s : Shared} {a : Addr} {M : List Str} (I : Inv X pins σ H s) (ha : H a = some (SetSO X.w a M)) : SetS X.w s.heap a M := (I.hok a _ ha).1
noncomputable def rSetL (K : PySem.W.Frag) (w : World) : List V → Hp → VK → Prop := fun vs H Q => ∃ (l : Addr) (xs : List Str), vs = [V.ref l] ∧ SqL K H l (xs.map V.str) ∧ xs.length + 1 < scanBound ∧ ∀ p, H p = none → Q (.ref p) (upd H p (SetSO w p xs))
theorem cr_setL (hc : X.calm = true) : CallR X (.type "set") (rSetL X.K X.w) := by
  intro pins s σ H vs us Q I r h
  obtain ⟨a, xs, rfl, hs, hb, q⟩ := h
  obtain ⟨its, rv, hl, _⟩ := I.list hs
  rw [Vals.ref1 r]
  refine setS_list (I.ok.hd hc) hl.isList rv.strs hb fun h' tk new k => ?_
  exact ⟨.ref _, upd H s.heap.objs.size (SetSO X.w s.heap.objs.size xs), I.laid (t' := tk) (fun b u e => k b u (Heap.lt_size e) e) (Nat.le_refl _) (setSO_new new), rfl, q _ (I.hok.fresh (Nat.le_refl _))⟩
theorem setS_perm {w : World} {es : Array (Int × Value)} {M : List Str} (nd : (es.toList.map keyS).Nodup) (hm : ∀ k, k ∈ M ↔ k ∈ es.toList.map keyS) : (es.toList.map keyS).Perm (sortU M) :=
  nodup_perm nd (sortU_nodup M) fun k => by rw [sortU_mem, hm k]
theorem strsOf : ∀ (l : List Value), (∀ v ∈ l, ∃ k tk, v = Value.str k tk) → StrsAre l (l.map fun v => keyS (0, v))
  | [], _ => .nil
  | v :: l, h => by
    obtain ⟨k, tk, rfl⟩ := h v List.mem_cons_self
    exact .cons k tk (strsOf l fun u hu => h u (List.mem_cons_of_mem _ hu))
noncomputable def rSortSS (w : World) : List V → Hp → VK → Prop := fun vs H Q => ∃ (a : Addr) (M : List Str), vs = [V.ref a] ∧ H a = some (SetSO w a M) ∧ ∀ p, H p = none → Q (.ref p) (upd H p (.lst ((sortU M).map V.str)))
theorem cr_sortSS (hc : X.calm = true) : CallR X (.builtin "sorted") (rSortSS X.w) := by
  intro pins s σ H vs us Q I r h
  obtain ⟨a, M, rfl, ha, q⟩ := h
  obtain ⟨o, es, ep, t, ho, hex, hd, g, nd, hm, hb, hf, hn, hr, hl⟩ := setSO_get I ha
  rw [Vals.ref1 r]
  have pe := setS_perm (w := X.w) nd hm
  refine Calls.call_function_entry kind_sorted plain_sorted entry_sorted (args_sorted1 _) ?_
  unfold Builtin.«sorted»
  refine wpAny_bind (m := checkCount "sorted" 1 1 _) (wpAny_pure ?_)
  refine wpAny_bind (collect_set (A := X.A.in1) (I.ok.hd hc) ⟨o, ho, hex.1, hd⟩ hf hb hr hl fun s1 vs k1 hz g1 o1 pm => ?_)
  have hvl : vs.length = es.size := by rw [pm.length_eq, List.length_map, Array.length_toList]
  have h4 : es.size < 4096 := hb
  have hs0 : vs.length ≤ sizeLine := by rw [hvl, sizeLine_eq]; omega
  have hI : StrsAre vs (vs.map fun v => keyS (0, v)) := strsOf vs fun v hv => by
    obtain ⟨e, he, q⟩ := List.mem_map.mp (pm.mem_iff.mp hv)
    obtain ⟨k, tk, h1, _⟩ := g e he
    exact ⟨k, tk, by rw [← q]; exact h1⟩
  have pk : (vs.map fun v => keyS (0, v)).Perm (es.toList.map keyS) := by
    have q := pm.map fun v => keyS (0, v)
    rw [List.map_map] at q
    exact q
  refine wpAny_bind (wpAny_newList ?_ hs0)
  have hoL : (s1.heap.push (seqObj "list" vs.toArray 0)).get? s1.heap.objs.size = some (seqObj "list" vs.toArray 0) := Heap.get?_push_size _ rfl
  refine wpAny_bind (wpAny_holding (wpAny_call_entry slot_list_sort ⟨_, hoL, rfl⟩ entry_list_sort (list_sort_treeKAny strKind_oneLt hoL hI.keysOf (fun v₁ v₂ rest e => keyKind_strs (by rw [← e]; exact hI)) hs0 fun st' hp hs => ⟨_, rfl, ?_⟩) (args_list_sort _)))
  obtain ⟨ys, q1, q2, q3⟩ := sorted_out_str hI hp hs
  obtain ⟨c, hc'⟩ := sortedHeap_at (vs := vs) (out := (arrOf st').map (·.2)) hoL
  have ey : ys = sortU M := upS_eq (sortedS_up q3) (sortS_up _) (q2.trans (pk.trans pe))
  subst ey
  have hlen : ((sortU M).map V.str).length ≤ sizeLine := by rw [List.length_map, q2.length_eq, List.length_map]; exact hs0
  have hn : H s1.heap.objs.size = none := I.hok.fresh hz
  have kk : ∀ b u, s.heap.get? b = some u → (sortedHeap (s1.heap.push (seqObj "list" vs.toArray 0)) s1.heap.objs.size vs ((arrOf st').map (·.2))).get? b = some u := fun b u e => by
    have q := k1 b u e
    have hlt := Heap.lt_size q
    rw [sortedHeap_old (Nat.ne_of_lt hlt) (by rw [size_push']; exact Nat.lt_succ_of_lt hlt)]
    exact Heap.get?_push_of_some _ q
  have J : Inv X pins σ (upd H s1.heap.objs.size (.lst ((sortU M).map V.str))) { s with heap := sortedHeap (s1.heap.push (seqObj "list" vs.toArray 0)) s1.heap.objs.size vs ((arrOf st').map (·.2)), gens := s1.gens, drawn := s1.drawn, toks := s1.toks } :=
    I.call (ch := []) (Un.laid kk hz hn) (I.hok.laid kk hz ⟨hlen, ((arrOf st').map (·.2)).toList, c, vals_of_strs q1, by rw [Array.toArray_toList]; exact hc'⟩) (by rw [g1]; exact I.bare) (fun _ z => nomatch z)
  have e : ({ s1 with heap := sortedHeap (s1.heap.push (seqObj "list" vs.toArray 0)) s1.heap.objs.size vs ((arrOf st').map (·.2)) } : Shared) = { s with heap := sortedHeap (s1.heap.push (seqObj "list" vs.toArray 0)) s1.heap.objs.size vs ((arrOf st').map (·.2)), gens := s1.gens, drawn := s1.drawn, toks := s1.toks } := by
    cases s1
    cases s
    cases o1
    rfl
  refine wpAny_pure ⟨_, rfl, ?_⟩
  rw [e]
  exact ⟨.ref s1.heap.objs.size, _, J, rfl, q s1.heap.objs.size hn⟩
/-- sorted(list of texts), of any length -/
noncomputable def rSortLS (K : PySem.W.Frag) : List V → Hp → VK → Prop := fun vs H Q => ∃ (a : Addr) (xs : List Str), vs = [V.ref a] ∧ SqL K H a (xs.map V.str) ∧ ∀ p, H p = none → Q (.ref p) (upd H p (.lst ((sortS xs).map V.str)))
theorem cr_sortLS : CallR X (.builtin "sorted") (rSortLS X.K) := by
  intro pins s σ H vs us Q I r h
  obtain ⟨a, xs, rfl, hs, q⟩ := h
  obtain ⟨its, rv, hl, hz⟩ := I.list hs
  rw [Vals.ref1 r]
  have hlen0 := rv.length
  refine PyProof.Rows.sorted_strsAny hl.isList rv.strs (by rw [← hlen0]; exact hz) fun out ys h1 h2 h3 => ?_
  obtain ⟨ep, he'⟩ := PyProof.Rows.sortedAll_at s.heap its out
  have ey := sortS_eq h2 h3
  subst ey
  have hlen : ((sortS xs).map V.str).length ≤ sizeLine := by rw [List.length_map, h2.length_eq, ← List.length_map (f := V.str)]; exact hz
  exact ⟨.ref _, upd H (s.heap.objs.size + 1) (.lst ((sortS xs).map V.str)), I.laid (t' := s.toks) (fun _ _ => PyProof.Rows.sortedAll_old) (Nat.le_succ _) ⟨hlen, out.toList, ep, vals_of_strs h1, he'⟩, rfl, q _ (I.hok.fresh (Nat.le_succ _))⟩
end
end FP
/-! FP15: sorted(set(..)), len(set(..)), sorted(..) by data; o[i]; star displays; two-clause comprehensions. -/
namespace FP
open PySem L2
variable [Tabl]
section
variable {ι : Type} {Xs : ι → Cx} {mg : Gm} {Wx : WX} {pos : Pos}
theorem cr_setLK {X : Cx} {K : PySem.W.Frag} {w : World} (h : X.K = K) (hw : X.w = w) (hc : X.calm = true) : CallR X (.type "set") (rSetL K w) := by
  subst h hw
  exact cr_setL hc
theorem cr_sortSSK {X : Cx} {w : World} (hw : X.w = w) (hc : X.calm = true) : CallR X (.builtin "sorted") (rSortSS w) := by
  subst hw
  exact cr_sortSS hc
theorem cr_sortLSK {X : Cx} {K : PySem.W.Frag} (h : X.K = K) : CallR X (.builtin "sorted") (rSortLS K) := by
  subst h
  exact cr_sortLS
noncomputable abbrev dSortSet (f : DTE) : DTE := fun ρ Q E => f ρ (fun x => match x with
  | .lst xs => ∃ ss, strsD xs = some ss ∧ ss.length < 4000 ∧ Q (.lst ((sortU ss).map .str))
  | _ => False) E
theorem de_sortSet {w : World} {e : Expr} {f : DTE} {p p2 q : Pos} (h : DE Xs mg Wx e f) (hm : mg.mg "sorted" = none) (hm2 : mg.mg "set" = none) (hv : bootBuiltins "sorted" = some (.builtin "sorted")) (hv2 : bootBuiltins "set" = some (.type "set"))
    (hw : ∀ j, (Xs j).w = w := by intro _; rfl) (hK : ∀ j, (Xs j).K = mg.K := by intro _; rfl) (hM : ∀ j, (Xs j).mg = mg.mg := by intro _; rfl) (hc : ∀ j, (Xs j).calm = true := by intro _; rfl) (hg : ∀ j, Gl (Xs j) "sorted" := by intro _; rfl) (hg2 : ∀ j, Gl (Xs j) "set" := by intro _; rfl)
    (he : ∀ j, starEach [e] (Xs j).env = [(false, eval e (Xs j).env)] := by intro _; rfl)
    (he2 : ∀ j, starEach [.Call (.Name "set" p2) [e] [] q] (Xs j).env = [(false, eval (.Call (.Name "set" p2) [e] [] q) (Xs j).env)] := by intro _; rfl) :
    DE Xs mg Wx (.Call (.Name "sorted" p) [.Call (.Name "set" p2) [e] [] q] [] pos) (dSortSet f) := by
  obtain ⟨t, h1, h2⟩ := h
  refine ⟨tCB (rSortSS w) (tCons (tCB (rSetL mg.K w) (tCons t tNil)) tNil), fun j => ?_, ?_⟩
  · exact pe_callB (cr_sortSSK (hw j) (hc j)) (hg j) (by rw [hM j]; exact hm) hv (pa_cons (pe_callTy (cr_setLK (hK j) (hw j) (hc j)) (hg2 j) (by rw [hM j]; exact hm2) hv2 (pa_cons (h1 j) pa_nil (he j)) (by decide) (by decide) (he j) rfl) pa_nil (he2 j)) (by decide) (by decide) (he2 j) rfl
  · intro B ρ Q E hf W σ H Q' hh e x q
    refine h2 B ρ _ E hf W σ H _ hh e x fun W1 H1 v d s1 r1 k1 => ?_
    dsimp only at k1
    split at k1
    · cases r1 with
      | lst ha ra =>
        obtain ⟨ss, g1, g2, g3⟩ := k1
        have ev := strs_v ra g1
        subst ev
        refine ⟨_, ss, rfl, SqL.of (s1.holds.same _ _ ha), (show ss.length + 1 < 4096 by omega), fun p1 n1 => ⟨p1, ss, rfl, upd_same, fun p2 n2 => ?_⟩⟩
        have s2 := s1.trans (Step.lay s1.holds (o := SetSO w p1 ss) n1)
        exact to_lst (ToV.step q s2) s2.holds (Reps.strs _) g3 p2 n2
    · exact k1.elim
noncomputable def rdSorted : RDL := fun ds Q => match ds with
  | [.lst xs] => ∃ ss, strsD xs = some ss ∧ Q (.lst ((sortS ss).map .str))
  | _ => False
theorem ok_sorted (hK : ∀ j, (Xs j).K = mg.K := by intro _; rfl) : CallOk Xs mg (.builtin "sorted") rdSorted := by
  refine CallOk.mk (fun j => cr_sortLSK (hK j)) ?_
  intro W H vs ds Q Q' P hh r h q hP
  cases r with
  | nil => exact False.elim h
  | cons r rs =>
    cases r with
    | lst ha ra =>
      cases rs with
      | nil =>
        delta rdSorted at h
        dsimp only at h
        obtain ⟨ss, h1, h2⟩ := h
        have e := strs_v ra h1
        subst e
        exact hP _ (⟨_, ss, rfl, SqL.of (hh.same _ _ ha), to_lst q hh (Reps.strs _) h2⟩)
      | cons => exact False.elim h
    | _ => exact False.elim h
/-! ### *e among arguments and in displays -/
noncomputable abbrev dStar (f : DTE) (g : DTA) : DTA := fun ρ Q E => f ρ (fun x => match x with
  | .lst xs => g ρ (fun ys => Q (xs ++ ys)) E
  | .fz xs => g ρ (fun ys => Q (xs ++ ys)) E
  | .tup xs => g ρ (fun ys => Q (xs ++ ys)) E
  | _ => False) E
theorem pa_starK {X : Cx} {K : PySem.W.Frag} {e : Expr} {es : List Expr} {te : TE} {t : TA} {p : Pos} (h : X.K = K) (he : PE X e te) (hr : PA X es t) (hs : starEach (.Starred e p :: es) X.env = (true, eval e X.env) :: starEach es X.env) : PA X (.Starred e p :: es) (StX.tStar K te t) := by
  subst h
  exact StX.pa_star he hr hs
theorem da_star {e : Expr} {es : List Expr} {f : DTE} {g : DTA} {p : Pos} (h : DE Xs mg Wx e f) (h' : DA Xs mg Wx es g) (hK : ∀ j, (Xs j).K = mg.K := by intro _; rfl) (hs : ∀ i, starEach (.Starred e p :: es) (Xs i).env = (true, eval e (Xs i).env) :: starEach es (Xs i).env := by intro _; rfl) :
    DA Xs mg Wx (.Starred e p :: es) (dStar f g) := by
  obtain ⟨t, h1, h2⟩ := h
  obtain ⟨u, g1, g2⟩ := h'
  refine ⟨_, fun i => pa_starK (hK i) (h1 i) (g1 i) (hs i), ?_⟩
  intro B ρ Q E hf W σ H Q' hh e x q
  refine h2 B ρ _ E hf W σ H _ hh e x fun W1 H1 v d s1 r1 k1 => ?_
  have fin : ∀ {xs : List V} {ds : List D}, Reps mg W1 xs ds → g ρ (fun ys => Q (ds ++ ys)) E → u σ H1 fun ys H2 => Q' (xs ++ ys) H2 := fun {xs ds} ra k => g2 B ρ _ E k W1 σ H1 _ s1.holds (e.step s1) (x.step s1) fun W2 H2 vs ds2 s2 r2 k2 => q W2 H2 _ _ (s1.trans s2) ((ra.mono s2.le).append r2) k2
  dsimp only at k1
  split at k1
  · cases r1 with
    | lst ha ra => exact ⟨_, _, rfl, .inr (SqL.of (s1.holds.same _ _ ha)), fin ra k1⟩
  · cases r1 with
    | fz ha ra => exact ⟨_, _, rfl, .inr (s1.holds.same.seq ha), fin ra k1⟩
  · cases r1 with
    | tup ha ra => exact ⟨_, _, rfl, .inl (SqT.of (s1.holds.same _ _ ha)), fin ra k1⟩
  · exact k1.elim
/-! ### o[i] of an own class -/
noncomputable def rIxO (P : Program) (w : World) (mg : Gm) (base : Heap) (C : Addr) (f : List D → M D) : R2 := fun x y H Q => ∃ a dx fs, x = .ref a ∧ H a = some (.ins C dx fs) ∧ spD mg 2 f [.ref a, y] H Q E0
noncomputable def rdIxM (c : Str) (f : List D → M D) : RD2 := fun x y Q => match x with
  | .ins c' fs => c' = c ∧ f [.ins c' fs, y] Q F0
  | _ => False
noncomputable abbrev IxOwn (b : Expr) : Prop := ∀ a i, subscripted b true (.ref a) i = runValue (.builtin "lifetime.subscript" ⟨[.ref a, i], []⟩)
theorem de_ixM {P : Program} {w : World} {base : Heap} {k : Nat} {c : Str} {C : Addr} {f : List D → M D} {a b : Expr} {fa fb : DTE} (Fc : ClsF mg c C) (S : SpecOk P w mg base k C "__getitem__" 2 f) (hr : ∀ j, RmG (k + 1) (Xs j).A) (ha : DE Xs mg Wx a fa) (hb : DE Xs mg Wx b fb)
    (hs : IxOwn b := by exact fun _ _ => rfl) (hP : HPs Xs P w mg base := by intro _; exact ⟨rfl, rfl, rfl, rfl, rfl⟩) : DE Xs mg Wx (.Subscript a b pos) (dOp (rdIxM c f) fa fb) := by
  obtain ⟨fa', fd, ps, h1, h2, h3, hbd, hl, G⟩ := S.ex
  obtain ⟨ta, a1, a2⟩ := ha
  obtain ⟨tb, b1, b2⟩ := hb
  refine ⟨tOp (rIxO P w mg base C f) ta tb, fun j => ?_, Cp.op ?_ a2 b2⟩
  · obtain ⟨p1, p2, p3, p4, p5⟩ := hP j
    subst p1 p2 p5
    refine ⟨fun pins s σ H Q I h => PyProof.Rows.Subscript_ (binT (a1 j) (b1 j) I h fun v u s2 x y H2 I2 rx ry q => ?_)⟩
    obtain ⟨r, dx, fs, rfl, ea, hsp⟩ := q
    cases rx
    obtain ⟨mA, O, _⟩ := ins_get I2.hok ea
    obtain ⟨od, J, _⟩ := O.look
    obtain ⟨m, hF⟩ := I2.fr
    refine PySem.W.sub_K hF I2.ok.mod.kin J (by rw [p3]; exact h1) (by rw [p3]; exact h3) (by rw [p3]; exact h2) ?_ (hs _ _)
    exact callAt0 (X := Xs j) (by rw [p3, p4]; exact G) (hr j).in1 rfl (by rw [p3]; exact hbd) I2 (vs := [.ref r, y]) (.cons (show RelV (.ref _) (.ref _) from rfl) (.cons ry .nil)) hsp
  · intro W H x y dx dy Q Q' hh rx ry h q
    cases rx with
    | @ins a C' ax fs c' ds hc ha hk rs =>
      obtain ⟨rfl, h⟩ := h
      have ec := Fc.eq hc
      subst ec
      exact ⟨a, ax, fs, rfl, hh.same _ _ ha, spD_of hh (.cons (.ins hc ha hk rs) (.cons ry .nil)) rfl h q⟩
    | _ => exact h.elim
end
end FP
/-! FP16: comprehensions with two clauses. -/
namespace FP
open PySem L2
variable [Tabl]
section
variable {ι : Type} {Xs : ι → Cx} {mg : Gm} {Wx : WX} {pos : Pos}
noncomputable def lcS (body : D → (List D → Prop) → Prop) : List D → (List D → Prop) → Prop
  | [], Q => Q []
  | d :: ds, Q => body d fun r => lcS body ds fun rs => Q (r ++ rs)
/-- so many items that no list is too long -/
noncomputable def few : Nat := 4000
noncomputable abbrev fewD (ds : List D) : Prop := ds.length ≤ few
theorem few_mul {a i j : Nat} (h : a ≤ i * few + j) (hi : i < few) (hj : j < few) : a < sizeLine := by
  unfold few at *
  rw [PySem.sizeLine_eq]
  omega
noncomputable abbrev dLc2 (w : DTI) (T : Tg) (ft : DTT) (w1 : DTI) (T1 : Tg) (ft1 : DTT) (fe : DTE) (vs vs1 : List Nat) : DTE := fun ρ Q E => w ρ (fun ds => fewD ds ∧ lcS (fun d k => ∃ ρ2, T.put d (wipeD ρ vs) = some ρ2 ∧ ft ρ2 (fun b => bit b
  (w1 ρ2 (fun es => fewD es ∧ lcD (fun e k => ∃ ρ3, T1.put e (wipeD ρ2 vs1) = some ρ3 ∧ ft1 ρ3 (fun b => bit b (fe ρ3 (fun r => k (some r)) F0) (k none)) F0) es fun rs => k rs) F0) (k [])) F0) ds fun rs => Q (.lst rs)) E
theorem EnvR.mark {B : Hp} {W : Wd} {H : Hp} {σ : St} {ρ : Env} (e : EnvR mg B W H σ ρ) {A : Addr} {o : HO} (n : H A = none) : EnvR mg (upd B A o) W H σ ρ := by
  refine ⟨e.len, fun i s h => ?_, e.dis⟩
  obtain ⟨v, h1, h2⟩ := e.sl i s h
  refine ⟨v, h1, ?_⟩
  cases s with
  | no => exact True.intro
  | exc => exact h2
  | d x => exact h2
  | own xs =>
    obtain ⟨a, vs, q1, q2, q3, q4, q5, q6⟩ := h2
    exact ⟨a, vs, q1, q2, q3, q4, by rw [upd_ne (ne_of_none q2 n)]; exact q5, q6⟩
  | od xs =>
    obtain ⟨a, vs, q1, q2, q3, q4, q5, q6⟩ := h2
    exact ⟨a, vs, q1, q2, q3, q4, by rw [upd_ne (ne_of_none q2 n)]; exact q5, q6⟩
  | ob c a fs =>
    obtain ⟨vs, q1, ⟨C, dx, q0, q2⟩, q3, q4, q5, q6⟩ := h2
    exact ⟨vs, q1, ⟨C, dx, q0, q2⟩, q3, q4, by rw [upd_ne (ne_of_none q2 n)]; exact q5, q6⟩
  | ow c as fs =>
    obtain ⟨a, as', vs, q0, q1, q2, q3, q4, q5⟩ := h2
    exact ⟨a, as', vs, q0, q1, q2, q3, q4, fun b hb => by
      obtain ⟨⟨u, hu⟩, k2, k3, k4⟩ := q5 b hb
      exact ⟨⟨u, hu⟩, k2, k3, by rw [upd_ne (ne_of_none hu n)]; exact k4⟩⟩
  | o2 as x =>
    obtain ⟨a, Ls, q0, q1, q3, q4, q5⟩ := h2
    exact ⟨a, Ls, q0, q1, q3, q4, fun b hb => by
      obtain ⟨⟨u, hu⟩, k2, k3, k4⟩ := q5 b hb
      exact ⟨⟨u, hu⟩, k2, k3, by rw [upd_ne (ne_of_none hu n)]; exact k4⟩⟩
  | hv f =>
    obtain ⟨a, q1, q2, q3, q4, q5⟩ := h2
    exact ⟨a, q1, q2, q3, q4, by rw [upd_ne (ne_of_none q2 n)]; exact q5⟩
theorem EnvR.beside {B : Hp} {W : Wd} {H : Hp} {σ : St} {ρ : Env} (e : EnvR mg B W H σ ρ) {A : Addr} {o o' : HO} (n : B A = some o') : EnvR mg B W (upd H A o) σ ρ := by
  refine ⟨e.len, fun i s h => ?_, e.dis⟩
  obtain ⟨v, h1, h2⟩ := e.sl i s h
  refine ⟨v, h1, h2.keep (Le.refl W) fun a ha u h5 h6 h7 => ⟨?_, h6, h7⟩⟩
  obtain ⟨_, _, _, _, z⟩ := h2.at ha
  have ne : a ≠ A := fun q => by rw [q, n] at z; cases z
  rw [upd_ne ne]
  exact h5
noncomputable def AccE (mg : Gm) (A : Addr) (W1 : Wd) (H1 : Hp) (W4 : Wd) (B : Hp) (σ : St) (ρ : Env) (n : Nat) (K : List D → Prop) : Hp → Prop := fun H' => ∃ W' us acc, Step W1 H1 W' H' ∧ Le W4 W' ∧ EnvR mg B W' H' σ ρ ∧ AccL mg A W' H' us acc n ∧ K acc
/-- the inner clause -/
theorem lc2_in {g1 : TG} {tt1 : TT} {te : TE} {T1 : Tg} {ft1 : DTT} {fe : DTE} {vs1 : List Nat} (hg1 : CpG mg g1 T1) (hv1 : ∀ i ∈ T1.slots, i ∈ vs1) (ht1 : CpT mg Wx0 tt1 ft1) (he : Cp mg Wx0 te fe) {B' H1 H4 : Hp} {W1 W4 : Wd} {A : Addr} {i : Nat} {R : List D → Prop} {es : List D} {J1 : It} {σ3 : St} {ρ1 : Env} {us : List V} {acc : List D} (hA : H1 A = none) (hBA : B' A = some (.lst [])) (hi : i < few) (hsz1 : es.length ≤ few)
    (wk1 : WalkD mg W4 J1 es) (e4 : EnvR mg B' W4 H4 σ3 ρ1) (s14 : Step W1 H1 W4 H4) (I : AccL mg A W4 H4 us acc (i * few)) (k : lcD (fun e k => ∃ ρ3, T1.put e (wipeD ρ1 vs1) = some ρ3 ∧ ft1 ρ3 (fun b => bit b (fe ρ3 (fun r => k (some r)) F0) (k none)) F0) es (fun r => R (acc ++ r))) :
    ∃ Wn : Nat → Nat → Hp → Prop, (∃ m, Wn 0 m H4) ∧ ∀ j k H, Wn j k H → (J1.stop j H ∧ AccP mg A W1 H1 ((i + 1) * few) R H) ∨ (J1.go j H ∧ ∃ Nx1 : Hp → Prop, (∀ H', Nx1 H' → ∃ k', k' < k ∧ Wn (j + 1) k' H') ∧ ∀ x H', J1.yld j H x H' → g1 x (L2.wipe σ3 vs1) H' fun σ5 H5 => L2.wipe σ5 vs1 = L2.wipe σ3 vs1 ∧ tt1 σ5 H5 fun b H6 =>
      if b = true then te σ5 H6 fun y H7 => ∃ acc, H7 A = some (.lst acc) ∧ acc.length < sizeLine ∧ Nx1 (upd H7 A (.lst (acc ++ [y]))) else Nx1 H6) := by
  refine ⟨fun j k H' => k = es.length - j ∧ j ≤ es.length ∧ AccE mg A W1 H1 W4 B' σ3 ρ1 (i * few + j) (fun acc' => lcD _ (es.drop j) (fun r => R (acc' ++ r))) H', ⟨es.length, rfl, Nat.zero_le _, W4, us, acc, s14, Le.refl _, e4, I, k⟩, ?_⟩
  rintro j k H5 ⟨rfl, hj, W5, us5, acc5, s5, l45, e5, I5, k5⟩
  obtain ⟨go1, stop1, yld1⟩ := wk1 W5 H5 l45 s5.holds
  by_cases hlt1 : j < es.length
  · refine .inr ⟨go1 j hlt1, AccE mg A W1 H1 W4 B' σ3 ρ1 (i * few + (j + 1)) (fun acc' => lcD _ (es.drop (j + 1)) (fun r => R (acc' ++ r))), fun H6 q => ⟨es.length - (j + 1), by omega, rfl, hlt1, q⟩, fun y1 H6 hy1 => ?_⟩
    obtain ⟨W6, d1, s6, hd1, r6⟩ := yld1 j y1 H6 hlt1 hy1
    rw [drop_at hd1] at k5
    obtain ⟨ρ3, p3, k6⟩ := k5
    refine hg1 B' W6 H6 y1 d1 _ _ ρ3 _ s6.holds r6 ((e5.step s6).wipe vs1) p3 fun σ6 e6 w6 => ?_
    refine ⟨(w6 vs1 hv1).trans (wipe_wipe σ3 vs1), ?_⟩
    refine ht1 B' ρ3 _ _ k6 W6 σ6 H6 _ s6.holds e6 ExR.f0 fun W7 H7 b s7 k7 => ?_
    have I7 := I5.step (s6.trans s7)
    cases b with
    | true =>
      rw [if_pos rfl]
      refine he B' ρ3 _ _ k7 W7 σ6 H7 _ s7.holds (e6.step s7) ExR.f0 fun W8 H8 z dz s8 r8 k8 => ?_
      have I8 := I7.step s8
      have s58 := (s6.trans s7).trans s8
      refine ⟨us5, I8.h, ?_, W8, us5 ++ [z], acc5 ++ [dz], I8.own (s5.trans s58) hA, l45.trans s58.le, (e5.step s58).beside hBA, I8.snoc r8 (Nat.le_refl _), ?_⟩
      · rw [I5.r.length]
        exact few_mul I5.l hi (Nat.lt_of_lt_of_le hlt1 hsz1)
      · show lcD _ _ (fun rs => R (acc5 ++ [dz] ++ rs))
        rw [app_one R]
        exact k8
    | false =>
      rw [if_neg Bool.false_ne_true]
      exact ⟨W7, us5, acc5, s5.trans (s6.trans s7), l45.trans (s6.trans s7).le, e5.step (s6.trans s7), I7.up (Nat.le_succ _), k7⟩
  · have ej : j = es.length := by omega
    subst ej
    rw [List.drop_length] at k5
    have k6 : R (acc5 ++ []) := k5
    rw [List.append_nil] at k6
    refine .inl ⟨stop1, W5, us5, acc5, s5, I5.up ?_, k6⟩
    rw [Nat.succ_mul]
    exact Nat.add_le_add_left hsz1 _
theorem Cp.lc2 {wi wi1 : TI} {g g1 : TG} {tt tt1 : TT} {te : TE} {w w1 : DTI} {T T1 : Tg} {ft ft1 : DTT} {fe : DTE} {vs vs1 : List Nat} (hi : CpI mg Wx wi w) (hg : CpG mg g T) (hv : ∀ i ∈ T.slots, i ∈ vs) (ht : CpT mg Wx0 tt ft)
    (hi1 : CpI mg Wx0 wi1 w1) (hg1 : CpG mg g1 T1) (hv1 : ∀ i ∈ T1.slots, i ∈ vs1) (ht1 : CpT mg Wx0 tt1 ft1) (he : Cp mg Wx0 te fe) : Cp mg Wx (tLc2 wi g tt wi1 g1 tt1 te vs vs1) (dLc2 w T ft w1 T1 ft1 fe vs vs1) := by
  intro B ρ Q E hf W σ H Q' hh e x q
  refine hi B ρ _ E hf W σ H _ hh e x fun W1 H1 J ds s1 wk k1 => ?_
  obtain ⟨hsz, k1⟩ := k1
  intro A hA
  have e1 := (e.step s1).mark (o := .lst []) hA
  generalize hBm : upd B A (.lst []) = B' at e1
  have hBA : B' A = some (.lst []) := by rw [← hBm]; exact upd_same
  refine ⟨fun i m H' => m = ds.length - i ∧ i ≤ ds.length ∧ AccP mg A W1 H1 (i * few) (fun acc => lcS _ (ds.drop i) (fun rs => Q (.lst (acc ++ rs)))) H', ⟨ds.length, rfl, Nat.zero_le _, W1, [], [], Step.lay s1.holds hA, (AccL.new s1.holds hA).up (Nat.zero_le _), k1⟩, ?_⟩
  rintro i m H' ⟨rfl, hi, W', us, acc, s', I, k'⟩
  obtain ⟨go, stop, yld⟩ := wk W' H' s'.le s'.holds
  by_cases hlt : i < ds.length
  · refine .inr ⟨go i hlt, AccP mg A W1 H1 ((i + 1) * few) (fun acc => lcS _ (ds.drop (i + 1)) (fun rs => Q (.lst (acc ++ rs)))), fun H2 q => ⟨ds.length - (i + 1), by omega, rfl, hlt, q⟩, fun y H2 hy => ?_⟩
    obtain ⟨W2, d, s2, hd, r⟩ := yld i y H2 hlt hy
    rw [drop_at hd] at k'
    obtain ⟨ρ1, p1, k2⟩ := k'
    refine hg B' W2 H2 y d _ _ ρ1 _ s2.holds r ((e1.step s').step s2 |>.wipe vs) p1 fun σ3 e3 w3 => ?_
    refine ⟨(w3 vs hv).trans (wipe_wipe σ vs), ?_⟩
    refine ht B' ρ1 _ _ k2 W2 σ3 H2 _ s2.holds e3 ExR.f0 fun W3 H3 b s3 k3 => ?_
    have s13 := (s'.trans s2).trans s3
    have I3 := I.step (s2.trans s3)
    have up : i * few ≤ (i + 1) * few := by
      rw [Nat.succ_mul]
      exact Nat.le_add_right _ _
    cases b with
    | false =>
      rw [if_neg Bool.false_ne_true]
      exact ⟨W3, us, acc, s13, I3.up up, k3⟩
    | true =>
      rw [if_pos rfl]
      refine hi1 B' ρ1 _ _ k3 W3 σ3 H3 _ s3.holds (e3.step s3) ExR.f0 fun W4 H4 J1 es s4 wk1 k4 => ?_
      obtain ⟨hsz1, k4⟩ := k4
      refine lc2_in hg1 hv1 ht1 he (H1 := H1) (A := A) (i := i) (R := fun acc => lcS _ (ds.drop (i + 1)) (fun rs => Q (.lst (acc ++ rs)))) hA hBA (Nat.lt_of_lt_of_le hlt hsz) hsz1 wk1 ((e3.step s3).step s4) (s13.trans s4) (I3.step s4) ?_
      refine cast (congrArg (lcD _ es) (funext fun r => congrArg (lcS _ (ds.drop (i + 1))) (funext fun rs => ?_))) k4
      show Q (.lst (acc ++ (r ++ rs))) = Q (.lst ((acc ++ r) ++ rs))
      rw [List.append_assoc]
  · have ei : i = ds.length := by omega
    subst ei
    rw [List.drop_length] at k'
    refine .inl ⟨stop, q (W'.put A (.lst us)) H' _ _ (s1.trans (s'.taken hA I.h I.w I.t)) (Rep.newLst I.r I.w) ?_⟩
    have k2 : Q (.lst (acc ++ [])) := k'
    rw [List.append_nil] at k2
    exact k2
theorem de_lc2 {elt tg iter tg1 iter1 : Expr} {ifs ifs1 : List Expr} {scope : Scope} {own : List (Str × Nat)} {vs1 : List Nat} {w w1 : DTI} {T T1 : Tg} {ft ft1 : DTT} {fe : DTE} (hN : ∀ j, (Xs j).N.Nodup) (hi : DI Xs mg Wx tg iter w) (ok : ∀ j, BlkOk (Xs j).N (Xs j).env.scope scope own) (hg : DG (blkF Xs scope) mg tg T) (ht : DTs (blkF Xs scope) mg Wx0 ifs ft)
    (hi1 : DI (blkF Xs scope) mg Wx0 tg1 iter1 w1) (hg1 : DG (blkF Xs scope) mg tg1 T1) (ht1 : DTs (blkF Xs scope) mg Wx0 ifs1 ft1) (he : DE (blkF Xs scope) mg Wx0 elt fe)
    (hw : ∀ i ∈ vs1, i ∈ own.map (·.2) := by decide) (hv : ∀ i ∈ T.slots, i ∈ own.map (·.2) := by decide) (hv1 : ∀ i ∈ T1.slots, i ∈ vs1 := by decide) (hc : ∀ j, (Xs j).calm = true := by intro _; rfl) (hs : ∀ j x, foldedSetIterable iter (Xs j).env x = pure x := by intro _ _; rfl) (hs1 : ∀ env x, foldedSetIterable iter1 env x = pure x := by intro _ _; rfl) :
    DE Xs mg Wx (.ListComp elt [⟨tg, iter, ifs, 0⟩, ⟨tg1, iter1, ifs1, 0⟩] scope pos) (dLc2 w T ft w1 T1 ft1 fe (own.map (·.2)) vs1) := by
  obtain ⟨wi, i1, i2⟩ := hi
  obtain ⟨g, g1, g2⟩ := hg
  obtain ⟨tt, t1, t2⟩ := ht
  obtain ⟨wi1, i3, i4⟩ := hi1
  obtain ⟨g', g3, g4⟩ := hg1
  obtain ⟨tt', t3, t4⟩ := ht1
  obtain ⟨te, e1, e2⟩ := he
  exact ⟨_, fun j => pe_lc2 (hc j) (hN j) (i1 j) (ok j) hw (fun s H C cl fp => g1 (j, s, H, C, cl, fp)) (fun s H C cl fp => t1 (j, s, H, C, cl, fp)) (fun s H C cl fp => i3 (j, s, H, C, cl, fp)) (fun s H C cl fp => g3 (j, s, H, C, cl, fp)) (fun s H C cl fp => t3 (j, s, H, C, cl, fp)) (fun s H C cl fp => e1 (j, s, H, C, cl, fp)) (hs j) hs1, Cp.lc2 i2 g2 hv t2 i4 g4 hv1 t4 e2⟩
end
end FP
/-! FP17: f-strings; dicts: d[k], k in d, dict comprehensions. -/
namespace FP
open PySem L2
variable [Tabl]
section
variable {ι : Type} {Xs : ι → Cx} {mg : Gm} {Wx : WX} {pos : Pos}
/-! ### f-strings -/
noncomputable def fmtD : D → (Str → Prop) → Prop := fun x Q => match x with
  | .str y => y.length ≤ sizeLine ∧ Q y
  | .int i => i.natAbs.log2 < 1920 ∧ Q (toString i)
  | _ => False
noncomputable abbrev dFmt (f : DTE) : DTE := fun ρ Q E => f ρ (fun x => fmtD x fun y => Q (.str y)) E
theorem de_fmt {e : Expr} {f : DTE} (h : DE Xs mg Wx e f) : DE Xs mg Wx (.FormattedValue e (-1) none pos) (dFmt f) := by
  obtain ⟨t, h1, h2⟩ := h
  refine ⟨_, fun i => pe_fmt (h1 i), fun B ρ Q E hf W σ H Q' hh e x q => h2 B ρ _ E hf W σ H _ hh e x fun W1 H1 v d s1 r1 k1 => ?_⟩
  unfold fmtD at k1
  dsimp only at k1
  split at k1
  · cases r1
    exact .inl ⟨_, rfl, k1.1, q W1 H1 _ _ s1 (.str _) k1.2⟩
  · cases r1
    exact .inr ⟨_, rfl, k1.1, q W1 H1 _ _ s1 (.str _) k1.2⟩
  · exact k1.elim
/-- the parts of an f-string -/
noncomputable abbrev DJT := Env → Str → (Str → Prop) → (XD → Prop) → Prop
noncomputable def CpJ (mg : Gm) (Wx : WX) (ts : List TE) (f : DJT) : Prop := ∀ B ρ acc Q E, f ρ acc Q E → ∀ W σ H Q', Holds W H → EnvR mg B W H σ ρ → ExR mg Wx W H σ E → (∀ W' H' z, Step W H W' H' → Q z → Q' z H') → tJs ts acc σ H Q'
noncomputable def DJ (Xs : ι → Cx) (mg : Gm) (Wx : WX) (es : List Expr) (f : DJT) : Prop := ∃ ts, (∀ i, PJ (Xs i) es ts) ∧ CpJ mg Wx ts f
noncomputable abbrev dJNil : DJT := fun _ acc Q _ => Q acc
noncomputable abbrev dJCons (f : DTE) (g : DJT) : DJT := fun ρ acc Q E => f ρ (fun x => match x with
  | .str y => (acc ++ y).length ≤ sizeLine ∧ g ρ (acc ++ y) Q E
  | _ => False) E
theorem dj_nil : DJ Xs mg Wx [] dJNil := ⟨[], fun _ => .nil, fun B ρ acc Q E hf W σ H Q' hh e x q => q W H acc (Step.refl hh) hf⟩
theorem dj_cons {e : Expr} {es : List Expr} {f : DTE} {g : DJT} (h : DE Xs mg Wx e f) (h' : DJ Xs mg Wx es g) : DJ Xs mg Wx (e :: es) (dJCons f g) := by
  obtain ⟨t, h1, h2⟩ := h
  obtain ⟨ts, g1, g2⟩ := h'
  refine ⟨t :: ts, fun i => .cons (h1 i) (g1 i), fun B ρ acc Q E hf W σ H Q' hh e x q => ?_⟩
  refine h2 B ρ _ E hf W σ H _ hh e x fun W1 H1 v d s1 r1 k1 => ?_
  dsimp only at k1
  split at k1
  · cases r1
    exact ⟨_, rfl, k1.1, g2 B ρ _ Q E k1.2 W1 σ H1 _ s1.holds (e.step s1) (x.step s1) fun W2 H2 z s2 k2 => q W2 H2 z (s1.trans s2) k2⟩
  · exact k1.elim
noncomputable abbrev dJoined (g : DJT) : DTE := fun ρ Q E => g ρ Str.empty (fun z => Q (.str z)) E
theorem de_joined {v1 v2 : Expr} {rest : List Expr} {g : DJT} (h : DJ Xs mg Wx (v1 :: v2 :: rest) g) : DE Xs mg Wx (.JoinedStr (v1 :: v2 :: rest) pos) (dJoined g) := by
  obtain ⟨ts, h1, h2⟩ := h
  exact ⟨_, fun i => pe_joined (h1 i), fun B ρ Q E hf W σ H Q' hh e x q => h2 B ρ _ _ E hf W σ H _ hh e x fun W1 H1 z s1 k1 => q W1 H1 _ _ s1 (.str z) k1⟩
/-! ### dicts -/
noncomputable def keyD : D → Option Key
  | .int i => some (.inl i)
  | .str z => some (.inr z)
  | _ => none
noncomputable def valD (kvs : List (Key × D)) (k : Key) : Option D := (kvs.find? fun kv => decide (kv.1 = k)).map (·.2)
noncomputable def putKD (kvs : List (Key × D)) (k : Key) (v : D) : List (Key × D) :=
  if (kvs.any fun kv => decide (kv.1 = k)) = true then kvs.map (fun kv => if kv.1 = k then (kv.1, v) else kv) else kvs ++ [(k, v)]
theorem keyD_v {W : Wd} {x : V} {d : D} {k : Key} (r : Rep mg W x d) (h : keyD d = some k) : x = kV k := by
  cases r with
  | int i => cases h; rfl
  | str i => cases h; rfl
  | _ => cases h
theorem valD_cons (p : Key × D) (r : List (Key × D)) (k : Key) : valD (p :: r) k = if p.1 = k then some p.2 else valD r k := by
  unfold valD
  rw [List.find?_cons]
  by_cases q : p.1 = k <;> simp [q]
theorem valV_cons (p : Key × V) (r : List (Key × V)) (k : Key) : valV (p :: r) k = if p.1 = k then some p.2 else valV r k := by
  unfold valV
  rw [List.find?_cons]
  by_cases q : p.1 = k <;> simp [q]
theorem val_rep {W : Wd} {k : Key} : ∀ {kvs : List (Key × V)} {ds : List (Key × D)}, kvs.map (·.1) = ds.map (·.1) → Reps mg W (kvs.map (·.2)) (ds.map (·.2)) →
    (valD ds k = none ∧ valV kvs k = none) ∨ ∃ v d, valD ds k = some d ∧ valV kvs k = some v ∧ Rep mg W v d
  | [], [], _, _ => .inl ⟨rfl, rfl⟩
  | p :: kvs, q :: ds, hk, hr => by
    obtain ⟨h1, h2⟩ := List.cons.inj hk
    cases hr with
    | cons r rs =>
      rw [valD_cons, valV_cons]
      by_cases e : q.1 = k
      · rw [if_pos e, if_pos (h1.trans e)]
        exact .inr ⟨_, _, rfl, rfl, r⟩
      · rw [if_neg e, if_neg (fun z => e (h1.symm.trans z))]
        exact val_rep h2 rs
  | [], _ :: _, hk, _ => by cases hk
  | _ :: _, [], hk, _ => by cases hk
theorem any_key {k : Key} : ∀ {kvs : List (Key × V)} {ds : List (Key × D)}, kvs.map (·.1) = ds.map (·.1) → (kvs.any fun kv => decide (kv.1 = k)) = (ds.any fun kv => decide (kv.1 = k))
  | [], [], _ => rfl
  | p :: kvs, q :: ds, hk => by
    obtain ⟨h1, h2⟩ := List.cons.inj hk
    have h1 : p.1 = q.1 := h1
    rw [List.any_cons, List.any_cons, h1, any_key h2]
  | [], _ :: _, hk => by cases hk
  | _ :: _, [], hk => by cases hk
theorem put_rep {W : Wd} {k : Key} {v : V} {d : D} {kvs : List (Key × V)} {ds : List (Key × D)} (hk : kvs.map (·.1) = ds.map (·.1)) (hr : Reps mg W (kvs.map (·.2)) (ds.map (·.2))) (r : Rep mg W v d) :
    (putK kvs k v).map (·.1) = (putKD ds k d).map (·.1) ∧ Reps mg W ((putK kvs k v).map (·.2)) ((putKD ds k d).map (·.2)) := by
  unfold putK putKD
  rw [any_key hk]
  split
  · rename_i hq
    clear hq
    induction kvs generalizing ds with
    | nil =>
      cases ds with
      | nil => exact ⟨rfl, .nil⟩
      | cons q ds => cases hk
    | cons p kvs ih =>
      cases ds with
      | nil => cases hk
      | cons q ds =>
        obtain ⟨h1, h2⟩ := List.cons.inj hk
        cases hr with
        | cons r1 rs =>
          obtain ⟨i1, i2⟩ := ih h2 rs
          simp only [List.map_cons]
          by_cases e : q.1 = k
          · have e' : p.1 = k := h1.trans e
            rw [if_pos e, if_pos e']
            exact ⟨by rw [i1]; exact congrArg (· :: _) h1, .cons r i2⟩
          · have e' : ¬ p.1 = k := fun z => e (h1.symm.trans z)
            rw [if_neg e, if_neg e']
            exact ⟨by rw [i1]; exact congrArg (· :: _) h1, .cons r1 i2⟩
  · rw [List.map_append, List.map_append, List.map_append, List.map_append]
    exact ⟨by rw [hk]; rfl, hr.append (.cons r .nil)⟩
theorem DGet.kf {H : Hp} {a : Addr} {o : Obj} {kvs : List (Key × V)} {k : Key} (e : H a = some (.frz o (.dK kvs))) : DGet H a (kV k) (valV kvs k) := .inl ⟨kvs, k, .inr ⟨o, e⟩, rfl, rfl⟩
noncomputable def rdDGet : RD2 := fun x y Q => match x with
  | .dct kvs => ∃ k d, keyD y = some k ∧ valD kvs k = some d ∧ Q d
  | _ => False
theorem de_dget {k : Nat} {a b : Expr} {fa fb : DTE} (hr : ∀ j, RmG k (Xs j).A) (ha : DE Xs mg Wx a fa) (hb : DE Xs mg Wx b fb) (hs : NoSl b := by exact fun _ _ => rfl) : DE Xs mg Wx (.Subscript a b pos) (dOp rdDGet fa fb) := by
  obtain ⟨ta, a1, a2⟩ := ha
  obtain ⟨tb, b1, b2⟩ := hb
  refine ⟨tDGet ta tb, fun j => pe_dget (by have := (hr j).r.un; omega) (a1 j) (b1 j) hs, ?_⟩
  refine Cp.op (r := fun x y H Q => ∃ a v, x = .ref a ∧ DGet H a y (some v) ∧ Q v H) ?_ a2 b2
  intro W H x y dx dy Q Q' hh rx ry h q
  unfold rdDGet at h
  split at h
  · obtain ⟨k, d, h1, h2, h3⟩ := h
    cases rx with
    | dct ha hk rs =>
      have ey := keyD_v ry h1
      subst ey
      rcases val_rep (k := k) hk rs with ⟨z, _⟩ | ⟨v, d', z1, z2, z3⟩
      · rw [z] at h2
        cases h2
      · rw [z1] at h2
        cases h2
        refine ⟨_, v, rfl, ?_, q W H _ _ (Step.refl hh) z3 h3⟩
        rw [← z2]
        exact DGet.kf (hh.same _ _ ha)
  · exact h.elim
noncomputable def rdDIn (neg : Bool) : RD2 := fun x y Q => match y with
  | .dct kvs => ∃ k, keyD x = some k ∧ Q (.bl (if neg then !(valD kvs k).isSome else (valD kvs k).isSome))
  | _ => False
theorem ok_inD {k : Nat} (hr : ∀ j, RmG k (Xs j).A) : OpOk Xs mg (compareOp .In) (rdDIn false) := by
  refine ⟨fun y x H Q => ∃ a o, x = .ref a ∧ DGet H a y o ∧ Q (.bl o.isSome) H, fun j => ?_, ?_⟩
  · intro pins s σ H y x v u Q I ry rx h
    obtain ⟨a, o, rfl, g, q⟩ := h
    cases rx
    exact d_in (by have := (hr j).r.un; omega) I g ry fun s3 I3 => ⟨.bl o.isSome, H, I3, rfl, q⟩
  · intro W H x y dx dy Q Q' hh rx ry h q
    unfold rdDIn at h
    split at h
    · obtain ⟨k, h1, h3⟩ := h
      cases ry with
      | dct ha hk rs =>
        have ey := keyD_v rx h1
        subst ey
        rcases val_rep (k := k) hk rs with ⟨z, z2⟩ | ⟨v, d', z1, z2, z3⟩
        · rw [z] at h3
          exact ⟨_, none, rfl, by rw [← z2]; exact DGet.kf (hh.same _ _ ha), q W H _ _ (Step.refl hh) (.bl _) h3⟩
        · rw [z1] at h3
          exact ⟨_, some v, rfl, by rw [← z2]; exact DGet.kf (hh.same _ _ ha), q W H _ _ (Step.refl hh) (.bl _) h3⟩
    · exact h.elim
theorem ok_notInD {k : Nat} (hr : ∀ j, RmG k (Xs j).A) : OpOk Xs mg (compareOp .NotIn) (rdDIn true) := by
  refine ⟨fun y x H Q => ∃ a o, x = .ref a ∧ DGet H a y o ∧ Q (.bl (!o.isSome)) H, fun j => ?_, ?_⟩
  · intro pins s σ H y x v u Q I ry rx h
    obtain ⟨a, o, rfl, g, q⟩ := h
    cases rx
    exact d_notIn (by have := (hr j).r.un; omega) I g ry fun s3 I3 => ⟨.bl (!o.isSome), H, I3, rfl, q⟩
  · intro W H x y dx dy Q Q' hh rx ry h q
    unfold rdDIn at h
    split at h
    · obtain ⟨k, h1, h3⟩ := h
      cases ry with
      | dct ha hk rs =>
        have ey := keyD_v rx h1
        subst ey
        rcases val_rep (k := k) hk rs with ⟨z, z2⟩ | ⟨v, d', z1, z2, z3⟩
        · rw [z] at h3
          exact ⟨_, none, rfl, by rw [← z2]; exact DGet.kf (hh.same _ _ ha), q W H _ _ (Step.refl hh) (.bl _) h3⟩
        · rw [z1] at h3
          exact ⟨_, some v, rfl, by rw [← z2]; exact DGet.kf (hh.same _ _ ha), q W H _ _ (Step.refl hh) (.bl _) h3⟩
    · exact h.elim
end
end FP
/-! FP18: dict comprehensions. -/
namespace FP
open PySem L2
variable [Tabl]
section
variable {ι : Type} {Xs : ι → Cx} {mg : Gm} {Wx : WX} {pos : Pos}
noncomputable def dcD (body : D → (Option (Key × D) → Prop) → Prop) : List D → List (Key × D) → (List (Key × D) → Prop) → Prop
  | [], acc, Q => Q acc
  | d :: ds, acc, Q => body d fun o => match o with
    | some kv => dcD body ds (putKD acc kv.1 kv.2) Q
    | none => dcD body ds acc Q
noncomputable abbrev dDc (w : DTI) (T : Tg) (ft : DTT) (fk fv : DTE) (vs : List Nat) : DTE := fun ρ Q E => w ρ (fun ds => ds.length ≤ sizeLine ∧ dcD (fun d k => ∃ ρ2, T.put d (wipeD ρ vs) = some ρ2 ∧ ft ρ2 (fun b => bit b
  (fk ρ2 (fun y => fv ρ2 (fun z => ∃ kk, keyD y = some kk ∧ k (some (kk, z))) F0) F0) (k none)) F0) ds [] fun kvs => Q (.dct kvs)) E
theorem putKD_len (kvs : List (Key × D)) (k : Key) (v : D) : (putKD kvs k v).length ≤ kvs.length + 1 := by
  unfold putKD
  split
  · rw [List.length_map]; omega
  · rw [List.length_append]; exact Nat.le_refl _
theorem Rep.newDct {W : Wd} {kvs : List (Key × V)} {ds : List (Key × D)} {p : Addr} {o : Obj} (hk : kvs.map (·.1) = ds.map (·.1)) (r : Reps mg W (kvs.map (·.2)) (ds.map (·.2))) (n : W.H p = none) : Rep mg (W.put p (.frz o (.dK kvs))) (.ref p) (.dct ds) :=
  .dct (show upd W.H p _ p = _ from upd_same) hk (r.mono (Wd.le_put n))
theorem len_keys {kvs : List (Key × V)} {ds : List (Key × D)} (h : kvs.map (·.1) = ds.map (·.1)) : kvs.length = ds.length := by
  have := congrArg List.length h
  simpa using this
structure AccD (mg : Gm) (A : Addr) (W : Wd) (H : Hp) (us : List (Key × V)) (acc : List (Key × D)) (n : Nat) : Prop where
  h : H A = some (.dK us)
  w : W.H A = none
  t : ¬ W.T A
  k : us.map (·.1) = acc.map (·.1)
  r : Reps mg W (us.map (·.2)) (acc.map (·.2))
  l : acc.length ≤ n
theorem AccD.step {W W' : Wd} {H H' : Hp} {A : Addr} {us : List (Key × V)} {acc : List (Key × D)} {n : Nat} (I : AccD mg A W H us acc n) (s : Step W H W' H') : AccD mg A W' H' us acc n := by
  obtain ⟨h1, h2, h3⟩ := s.mine I.h I.w I.t
  exact ⟨h1, h2, h3, I.k, I.r.mono s.le, I.l⟩
theorem AccD.put {W : Wd} {H : Hp} {A : Addr} {us : List (Key × V)} {acc : List (Key × D)} {n : Nat} {k : Key} {v : V} {d : D} (I : AccD mg A W H us acc n) (r : Rep mg W v d) : AccD mg A W (upd H A (.dK (putK us k v))) (putK us k v) (putKD acc k d) (n + 1) := by
  obtain ⟨u1, u2⟩ := put_rep (k := k) I.k I.r r
  exact ⟨upd_same, I.w, I.t, u1, u2, Nat.le_trans (putKD_len acc k d) (Nat.succ_le_succ I.l)⟩
noncomputable def AccDP (mg : Gm) (A : Addr) (W1 : Wd) (H1 : Hp) (n : Nat) (K : List (Key × D) → Prop) : Hp → Prop := fun H' => ∃ W' us acc, Step W1 H1 W' H' ∧ AccD mg A W' H' us acc n ∧ K acc
theorem Cp.dc {wi : TI} {g : TG} {tt : TT} {tk tv : TE} {w : DTI} {T : Tg} {ft : DTT} {fk fv : DTE} {vs : List Nat} (hi : CpI mg Wx wi w) (hg : CpG mg g T) (hv : ∀ i ∈ T.slots, i ∈ vs) (ht : CpT mg Wx0 tt ft) (hk : Cp mg Wx0 tk fk) (he : Cp mg Wx0 tv fv) : Cp mg Wx (tLk (tDc wi g tt tk tv vs)) (dDc w T ft fk fv vs) := by
  intro B ρ Q E hf W σ H Q' hh e x q
  refine hi B ρ _ E hf W σ H _ hh e x fun W1 H1 J ds s1 wk k1 => ?_
  obtain ⟨hsz, k1⟩ := k1
  intro A hA
  have e1 := e.step s1
  refine ⟨fun i m H' => m = ds.length - i ∧ i ≤ ds.length ∧ AccDP mg A W1 H1 i (fun acc => dcD _ (ds.drop i) acc (fun kvs => Q (.dct kvs))) H',
    ⟨ds.length, rfl, Nat.zero_le _, W1, [], [], Step.lay s1.holds hA, ⟨upd_same, s1.holds.same.free hA, s1.holds.nT hA, rfl, .nil, Nat.le_refl _⟩, k1⟩, ?_⟩
  rintro i m H' ⟨rfl, hi, W', us, acc, s', I, k'⟩
  obtain ⟨go, stop, yld⟩ := wk W' H' s'.le s'.holds
  by_cases hlt : i < ds.length
  · refine .inr ⟨go i hlt, AccDP mg A W1 H1 (i + 1) (fun acc => dcD _ (ds.drop (i + 1)) acc (fun kvs => Q (.dct kvs))), fun H2 q => ⟨ds.length - (i + 1), by omega, rfl, hlt, q⟩, fun y H2 hy => ?_⟩
    obtain ⟨W2, d, s2, hd, r⟩ := yld i y H2 hlt hy
    rw [drop_at hd] at k'
    obtain ⟨ρ1, p1, k2⟩ := k'
    refine hg B W2 H2 y d _ _ ρ1 _ s2.holds r ((e1.step s').step s2 |>.wipe vs) p1 fun σ3 e3 w3 => ?_
    refine ⟨(w3 vs hv).trans (wipe_wipe σ vs), ?_⟩
    refine ht B ρ1 _ _ k2 W2 σ3 H2 _ s2.holds e3 ExR.f0 fun W3 H3 b s3 k3 => ?_
    have I3 := I.step (s2.trans s3)
    cases b with
    | true =>
      rw [if_pos rfl]
      refine hk B ρ1 _ _ k3 W3 σ3 H3 _ s3.holds (e3.step s3) ExR.f0 fun W4 H4 y dy s4 r4 k4 => ?_
      refine he B ρ1 _ _ k4 W4 σ3 H4 _ s4.holds ((e3.step s3).step s4) ExR.f0 fun W5 H5 z dz s5 r5 k5 => ?_
      obtain ⟨kk, h1, k6⟩ := k5
      have ey := keyD_v r4 h1
      subst ey
      have I5 := I3.step (s4.trans s5)
      refine ⟨us, kk, rfl, I5.h, ?_, W5, putK us kk z, putKD acc kk dz, ((s'.trans s2).trans (s3.trans (s4.trans s5))).own hA I5.h I5.w I5.t, I5.put r5, k6⟩
      rw [len_keys I.k]
      exact Nat.lt_of_le_of_lt I.l (Nat.lt_of_lt_of_le hlt hsz)
    | false =>
      rw [if_neg Bool.false_ne_true]
      exact ⟨W3, us, acc, (s'.trans s2).trans s3, ⟨I3.h, I3.w, I3.t, I3.k, I3.r, Nat.le_trans I3.l (Nat.le_succ _)⟩, k3⟩
  · have ei : i = ds.length := by omega
    subst ei
    rw [List.drop_length] at k'
    exact .inl ⟨stop, A, _, rfl, I.h, True.intro, fun od => q (W'.put A (.frz od (.dK us))) _ _ _ (s1.trans ((s'.own hA I.h I.w I.t).taken hA upd_same I.w I.t)) (Rep.newDct I.k I.r I.w) k'⟩
theorem de_dc {kx vx tg iter : Expr} {ifs : List Expr} {scope : Scope} {own : List (Str × Nat)} {w : DTI} {T : Tg} {ft : DTT} {fk fv : DTE} (hN : ∀ j, (Xs j).N.Nodup) (hi : DI Xs mg Wx tg iter w) (ok : ∀ j, BlkOk (Xs j).N (Xs j).env.scope scope own) (hg : DG (blkF Xs scope) mg tg T) (ht : DTs (blkF Xs scope) mg Wx0 ifs ft) (hk : DE (blkF Xs scope) mg Wx0 kx fk) (he : DE (blkF Xs scope) mg Wx0 vx fv)
    (hv : ∀ i ∈ T.slots, i ∈ own.map (·.2) := by decide) (hc : ∀ j, (Xs j).calm = true := by intro _; rfl) (hs : ∀ j x, foldedSetIterable iter (Xs j).env x = pure x := by intro _ _; rfl) : DE Xs mg Wx (.DictComp kx vx [⟨tg, iter, ifs, 0⟩] scope pos) (dDc w T ft fk fv (own.map (·.2))) := by
  obtain ⟨wi, i1, i2⟩ := hi
  obtain ⟨g, g1, g2⟩ := hg
  obtain ⟨tt, t1, t2⟩ := ht
  obtain ⟨tk, q1, q2⟩ := hk
  obtain ⟨te, e1, e2⟩ := he
  exact ⟨_, fun j => pe_lk (pe_dc (hc j) (hN j) (i1 j) (ok j) (fun s H C cl fp => g1 (j, s, H, C, cl, fp)) (fun s H C cl fp => t1 (j, s, H, C, cl, fp)) (fun s H C cl fp => q1 (j, s, H, C, cl, fp)) (fun s H C cl fp => e1 (j, s, H, C, cl, fp)) (hs j)), Cp.dc i2 g2 hv t2 q2 e2⟩
end
end FP
/-! FP19: for x in o, where o's class has an __iter__ that returns iter(self.f), f a tuple. -/
namespace FP
open PySem L2
variable [Tabl]
noncomputable abbrev titObj (t : Addr) (i : Nat) : Obj := { cls := .type "tuple_iterator", data := .fields #[.ref t, .int i 0] }
noncomputable def TitO (t it : Addr) (i : Nat) : HO := .ext fun h => h.get? it = some (titObj t i)
theorem titO_ok {P : Program} {w : World} {H : Hp} {h : Heap} {t it : Addr} {i : Nat} (e : h.get? it = some (titObj t i)) : ObjOk P w H h it (TitO t it i) := ⟨e, ⟨_, e⟩, fun h1 h2 q k => k _ q⟩
theorem titO_get {X : Cx} {pins : List (Addr × Obj)} {σ : St} {H : Hp} {s : Shared} {t it : Addr} {i : Nat} (I : Inv X pins σ H s) (e : H it = some (TitO t it i)) : s.heap.get? it = some (titObj t i) := (I.hok it _ e).1
theorem call_iterTup {prog : Program} {w : World} {A : Around} {E : Value → Shared → Prop} {s : Shared} {l : Addr} {items : Array Value} {Q : Value → Shared → Prop} (hl : s.heap.IsTuple l items) (h : Q (.ref s.heap.objs.size) { s with heap := s.heap.push (titObj l 0) }) : wpAny (model prog w) A (call (.builtin "iter") [.ref l]) Q E s := by
  refine Calls.call_function_entry (by decide +kernel) (by decide +kernel) PySem.W.kdk_entry_iter (PySem.W.kdk_args_iter _) ?_
  unfold Builtin.«iter»
  refine wpAny_bind (m := someArgs "iter" 1 2 _) (wpAny_of_eq (a := [Value.ref l]) (by first | rfl | kernel_rfl!) ?_)
  show wpAny _ _ (pyIter (.ref l) >>= _) _ _ _
  refine wpAny_bind (wpAny_pyIter_tuple hl ?_)
  exact wpAny_pure ⟨_, rfl, h⟩
noncomputable def rIterT (K : PySem.W.Frag) (n : Nat) : List V → Hp → VK → Prop := fun xs H Q => ∃ (l : Addr) (zs : List V), xs = [.ref l] ∧ SqT K H l zs ∧ ∀ it, H it = none → n ≤ it → Q (.ref it) (upd H it (TitO l it 0))
theorem cr_iterT {X : Cx} : CallR X (.builtin "iter") (rIterT X.K X.s_0.heap.objs.size) := by
  intro pins s σ H xs us Q I r h
  obtain ⟨l, zs, rfl, hq, q⟩ := h
  obtain ⟨u, rfl, ru⟩ := vals1 r
  cases ru
  obtain ⟨its, rv, pl, hz⟩ := I.tuple hq
  refine call_iterTup (show s.heap.IsTuple l its.toArray from pl) ?_
  exact ⟨.ref s.heap.objs.size, _, I.laid (t' := s.toks) (fun b u e => Heap.get?_push_of_some _ e) (Nat.le_refl _) (titO_ok (Heap.get?_push_size _ rfl)), rfl, q _ (I.hok.fresh (Nat.le_refl _)) I.sz⟩
/-- as FnG, the promise by the size of the heap at the call -/
structure FnGn (P : Program) (w : World) (K : PySem.W.Frag) (mg : Str → Option Value) (base : Heap) (k : Nat) (f : Addr) (fd : FuncData) (ps : List Str) (sp : Nat → Sp) : Prop where
  ln : ∀ n vs H Q E, sp n vs H Q E → vs.length = ps.length
  go : ∀ (A : Around) (out : List PySem.Env) (z : Shared) (H : Hp) (ag : Args) (us : List Value) (vs : List V) (Q : VK) (E : XK), RmG k A → Env0 P w K mg base A out z H → BindsTo z fd ag (ps.zip us) → Vals vs us → sp z.heap.objs.size vs H Q E →
    codeAny (model P w) A (.call (.ref f) ag) (CR (L2.CX P w) out P w H z Q E) z
theorem fnGn_of {P : Program} {w : World} {K : PySem.W.Frag} {mg : Str → Option Value} {base : Heap} {x qual : Str} {st : Stmt} {fa : Addr} {fd : FuncData} {N ps : List Str} {k : Nat} {sp : Nat → Sp} (F : Fun K x qual st fa fd) (S : FnScope N ps (defScope st)) (ln : ∀ n vs H Q E, sp n vs H Q E → vs.length = ps.length)
    (hb : ∀ (cdv : Value) (A : Around) (out : List PySem.Env) (z : Shared) (H : Hp) (vs : List V) (Q : VK) (E : XK), RmG k (A.deeper (PyProof.Rows.envOfC qual (defScope st) z.heap.objs.size fa cdv)) → sp z.heap.objs.size vs H Q E →
      ∃ t, PSs (cxOf (L2.CX P w) P w K mg base N qual (defScope st) fa cdv A out z H E) (defBody st) t ∧ t { nx := fun _ H' => Q .non H', rt := Q } (L2.start N vs) H) : FnGn P w K mg base (k + 1) fa fd ps sp := by
  obtain ⟨oc, od, kV, doc, pm, an, cdv, ct, osl, rfl, lk, hcd⟩ := F.ex
  refine ⟨ln, fun A out z H ag us vs Q E m e0 bd rv hs => ?_⟩
  have inK : K.In z.heap := e0.mod.kin.keeps fun c u q => (e0.bs c u q).1
  have noL : z.heap.NoLimit := e0.mod.nolimit.keeps fun c u q => (e0.bs c u q).1
  have kinds : ∀ y ∈ ps.zip us, (defScope st).names.lookup y.1 = some .local ∨ ((defScope st).names.lookup y.1 = some .cell ∧ ((cellsFrom (z.heap.objs.size + 1) (defScope st).names []).lookup y.1).isSome = true) := by
    rintro ⟨n, v⟩ hy
    refine (S.par n (List.of_mem_zip hy).1).imp id ?_
    intro c
    exact ⟨c, PySem.W.cellsFrom_some _ _ _ (.inl c)⟩
  apply codeAny_call_function m.r.depth (inK _ _ lk) rfl S.co S.gen rfl (PySem.W.codeRec_of inK hcd)
  apply bd
  apply wpAny_newFunctionEnv_cells S.kind kinds
  intro env he z1 inC
  subst he
  obtain ⟨t, pt, tq⟩ := hb cdv A out z H vs Q E ⟨m.r.deeper _, m.g⟩ hs
  have I0 := inv_start (CX := L2.CX P w) (E := E) S m.r.hd e0 (ln _ _ _ _ _ hs) rv inC
  refine ⟨noL.keeps inC.toInCall.keep, codeAny_func (wpAny_mono (pt.run [] z1 _ H _ I0 tq) ?_ fun _ _ q => q)⟩
  intro fl z' hfl
  match fl, hfl with
  | .ret u, ⟨v, _, H', J, ru, q⟩ => exact ⟨v, H', J.os, J.bare, J.base, J.hok, ru, q⟩
  | .next, ⟨_, H', J, q⟩ => exact ⟨V.non, H', J.os, J.bare, J.base, J.hok, rfl, q⟩
  | .brk, ⟨_, _, _, q⟩ => exact q.elim
  | .cont, ⟨_, _, _, q⟩ => exact q.elim
/-- what __iter__ gives -/
noncomputable def spIt (K : PySem.W.Frag) (C : Addr) (fld : Str) (n : Nat) : Sp := fun vs H Q _ => ∃ a dx fs b xs, vs = [.ref a] ∧ H a = some (.ins C dx fs) ∧ fs.lookup fld = some (.ref b) ∧ SqT K H b xs ∧ ∀ it, H it = none → n ≤ it → Q (.ref it) (upd H it (TitO b it 0))
structure IterOk (P : Program) (w : World) (mg : Gm) (base : Heap) (k : Nat) (C : Addr) (fld : Str) : Prop where
  ex : ∃ fa fd ps, PySem.W.findIn mg.K (.ref C) "__iter__" = some (some (.ref fa)) ∧ PySem.W.isFn mg.K (.ref fa) = true ∧ Binds mg.K fd ps [] ∧ FnGn P w mg.K mg.mg base k fa fd ps (spIt mg.K C fld)
theorem mkIter {P : Program} {w : World} {mg : Gm} {base : Heap} {C : Addr} {fld qual self : Str} {st : Stmt} {N : List Str} {k : Nat} {p1 p2 p3 p4 p5 : Pos} (d : ∃ fa fd, PySem.W.findIn mg.K (.ref C) "__iter__" = some (some (.ref fa)) ∧ PySem.W.isFn mg.K (.ref fa) = true ∧ Fun mg.K "__iter__" qual st fa fd) (S : FnScope N [self] (defScope st))
    (hb : ∀ (kV doc pm : Value) (an : Option Addr) (cdv ct : Value) (us : List Value), us.length = [self].length → bindArgs (PySem.W.fnOf "__iter__" qual (defArgs st) (defBody st) (defScope st) .none kV doc pm an cdv ct) ⟨us, []⟩ = pure ([self].zip us))
    (cl : Cls mg.K C) (na : NoAttr mg.K C fld) (hm : mg.mg "iter" = none) (hv : bootBuiltins "iter" = some (.builtin "iter"))
    (hbody : defBody st = [.Return (some (.Call (.Name "iter" p1) [.Attribute (.Name self p2) fld p3] [] p4)) p5]) (hN : N[0]? = some self) (hvis : Vis (defScope st) self)
    (hg : ∀ cdv fa A out z H E, Gl (cxOf (L2.CX P w) P w mg.K mg.mg base N qual (defScope st) fa cdv A out z H E) "iter") (hsl : (self == ("__debug__" : Str)) = false := by decide) (hcd : (self == ("__classdict__" : Str)) = false := by decide) : IterOk P w mg base (k + 1) C fld := by
  obtain ⟨fa, fd, h1, h2, F⟩ := d
  refine ⟨fa, fd, [self], h1, h2, F.binds hb, fnGn_of F S ?_ ?_⟩
  · rintro n vs H Q E ⟨a, dx, fs, b, xs, rfl, _⟩
    rfl
  · rintro cdv A out z H vs Q E hr ⟨a, dx, fs, b, xs, rfl, ha, hf, hx, q⟩
    rw [hbody]
    refine ⟨_, pss_cons (ps_ret (pe_callB (cr_iterT (X := cxOf (L2.CX P w) P w mg.K mg.mg base N qual (defScope st) fa cdv A out z H E)) (hg _ _ _ _ _ _ _) hm hv (pa_cons (pe_fld (pe_var (i := 0) hN hvis hsl hcd) rfl) pa_nil rfl) (by decide) (by decide) rfl rfl)) pss_nil, ?_⟩
    refine ⟨.ref a, ?_, a, C, dx, fs, .ref b, rfl, ha, cl, na, hf, b, xs, rfl, hx, q⟩
    unfold L2.start
    rfl
section
variable {ι : Type} {Xs : ι → Cx} {mg : Gm} {Wx : WX} {pos : Pos}
noncomputable abbrev dIOwn (c fld : Str) (f : DTE) : DTI := fun ρ Q E => f ρ (fun x => match x with
  | .ins c' fs => c' = c ∧ ∃ ds, fs.lookup fld = some (.tup ds) ∧ Q ds
  | _ => False) E
noncomputable def iOwn (K : PySem.W.Frag) (C : Addr) (fld : Str) (te : TE) : TI := fun σ H R => te σ H fun x H1 => ∃ a dx fs b xs, x = .ref a ∧ H1 a = some (.ins C dx fs) ∧ fs.lookup fld = some (.ref b) ∧ SqT K H1 b xs ∧ R (Itt K b) H1
theorem di_own {P : Program} {w : World} {base : Heap} {k : Nat} {c fld : Str} {C : Addr} {tg e : Expr} {f : DTE} (Fc : ClsF mg c C) (S : IterOk P w mg base k C fld) (hr : ∀ j, RmG k (Xs j).A) (h : DE Xs mg Wx e f) (hP : HPs Xs P w mg base := by intro _; exact ⟨rfl, rfl, rfl, rfl, rfl⟩) :
    DI Xs mg Wx tg e (dIOwn c fld f) := by
  obtain ⟨fa, fd, ps, h1, h2, hb, G⟩ := S.ex
  obtain ⟨t, q1, q2⟩ := h
  refine ⟨iOwn mg.K C fld t, fun j => ?_, fun B ρ Q E hf W σ H Q' hh e x q => ?_⟩
  · obtain ⟨p1, p2, p3, p4, p5⟩ := hP j
    subst p1 p2 p5
    refine ⟨fun pins s σ H R I h => ?_⟩
    refine thn ((q1 j).run pins s σ H _ I h) fun v s1 ⟨x, H1, I1, r1, a, dx, fs, b, xs, ex, ha, hf, hx, q⟩ => ?_
    subst ex
    cases r1
    obtain ⟨mA, O, _⟩ := ins_get I1.hok ha
    obtain ⟨od, J, _⟩ := O.look
    obtain ⟨m, hF⟩ := I1.fr
    refine PySem.W.owit_iter hF I1.ok.mod.kin J (by rw [p3]; exact h1) (by rw [p3]; exact h2) ?_
    have hG : FnGn (Xs j).prog (Xs j).w (Xs j).K (Xs j).mg (Xs j).base k fa fd ps (spIt mg.K C fld) := by rw [p3, p4]; exact G
    have hs : spIt mg.K C fld s1.heap.objs.size [.ref a] H1 (fun v H' => ∃ it, v = .ref it ∧ s1.heap.objs.size ≤ it ∧ H1 it = none ∧ H' = upd H1 it (TitO b it 0)) E0 := ⟨a, dx, fs, b, xs, rfl, ha, hf, hx, fun it n1 n2 => ⟨it, rfl, n2, n1, rfl⟩⟩
    have hl := hG.ln _ _ _ _ _ hs
    have bd := (by rw [p3]; exact hb : Binds (Xs j).K fd ps []) s1 [.ref a] I1.kIn (by simpa using hl)
    rw [List.append_nil] at bd
    have cd := hG.go (Xs j).A (Xs j).stack s1 H1 ⟨[.ref a], []⟩ [.ref a] [.ref a] _ E0 (hr j) I1.env0 bd (.cons (show RelV (.ref _) (.ref _) from rfl) .nil) hs
    refine wpAny_call (codeAny_mono cd ?_)
    intro res z' hq
    match res, hq with
    | .error e, hq => exact (CX.none hq).elim
    | .ok (.ret u), hq =>
      obtain ⟨y, H2, I2, r2, it, ey, hn, hno, eH⟩ := I1.after hq
      subst ey eH
      cases r2
      have st := titO_get I2 (upd_same (H := H1) (a := it))
      have hd := ItX.inv_drop I2 (show upd H1 it (TitO b it 0) it = some (.ext _) from upd_same)
      rw [ItX.dropH_upd hno] at hd
      unfold PySem.W.OwitIt
      refine wpAny_specialOf (T := "tuple_iterator") ⟨_, st, rfl⟩ PySem.F.slot_tuple_iterator_next.lookup ?_
      refine ⟨it, [it], _, _, H1, rfl, hd, turn_tuple b it, ⟨_, st, rfl, rfl⟩, fun c hc => ?_, by rw [p3]; exact q⟩
      have e : c = it := by simpa using hc
      subst e
      exact I1.fpOk hn hno
    | .ok .next, hq => exact hq.elim
    | .ok .brk, hq => exact hq.elim
    | .ok .cont, hq => exact hq.elim
  · refine q2 B ρ _ E hf W σ H _ hh e x fun W1 H1 v d s1 r1 k1 => ?_
    cases r1 with
    | @ins a C' dx fs c' ds hc ha hk rs =>
      obtain ⟨rfl, es, g1, g2⟩ := k1
      have ec := Fc.eq hc
      subst ec
      obtain ⟨v', hv, rv⟩ := lookup_reps hk rs g1
      cases rv with
      | @tup b vs _ hb rb =>
        refine ⟨a, dx, fs, b, vs, rfl, s1.holds.same _ _ ha, hv, SqT.of (s1.holds.same _ _ hb), q W1 H1 _ es s1 ?_ g2⟩
        have w := walk_tup (K := mg.K) (a := b) (xs := vs)
        rw [rb.length] at w
        exact WalkD.of (vs := fun i => vs[i]?) w (fun W2 H2 l hh => SqT.of (hh.same _ _ (l.h _ _ hb))) fun i x hi hx => rb.getV hx
    | _ => exact k1.elim
end
end FP
/-! FP20: classes as values, classmethods, cls(..). -/
namespace FP
open PySem L2
variable [Tabl]
theorem goGc {X : Cx} {k : Nat} {f : Addr} {fd : FuncData} {ps : List Str} {sp : Sp} {Ex : XK} {pins : List (Addr × Obj)} {σ : St} {H : Hp} {z : Shared} {Q : VK} {us : List Value} {vs : List V} (F : FnG X.prog X.w X.K X.mg X.base k f fd ps sp) (m : RmG k X.A) (hb : Binds X.K fd ps []) (hx : PassesAt (L2.CX X.prog X.w) X σ Ex)
    (I : Inv X pins σ H z) (rv : Vals vs us) (h : sp vs H Q Ex) : codeAny (model X.prog X.w) X.A (.call (.ref f) ⟨us, []⟩) (fun r s' => match r with | .ok (.ret v) => EP X pins σ Q v s' | .ok _ => False | .error e => X.xe e s') z := by
  have hl : (us ++ []).length = ps.length := by
    rw [List.append_nil, ← rv.length]
    exact F.ln _ _ _ _ h
  have bd := hb z us I.kIn hl
  rw [List.append_nil] at bd
  have cd := F.go X.A X.stack z H ⟨us, []⟩ us vs Q Ex m I.env0 bd rv h
  refine codeAny_mono cd ?_
  intro res z' hq
  match res, hq with
  | .error e, hq => exact hx pins H z e z' I hq
  | .ok (.ret u), hq => exact I.after hq
  | .ok .next, hq => exact hq.elim
  | .ok .brk, hq => exact hq.elim
  | .ok .cont, hq => exact hq.elim
section
variable {ι : Type} {Xs : ι → Cx} {mg : Gm} {Wx : WX} {pos : Pos}
structure CMethOk (P : Program) (w : World) (mg : Gm) (base : Heap) (k : Nat) (C : Addr) (m : Str) (n : Nat) (f : List D → M D) : Prop where
  ex : ∃ mc p g fd ps, ClX.CRead mg.K C mc ∧ ClX.CMet mg.K C mc m p g ∧ Binds mg.K fd ps [] ∧ ps.length = n ∧ FnG P w mg.K mg.mg base k g fd ps (spD mg n f)
theorem mkCMeth {P : Program} {w : World} {base : Heap} {C : Addr} {m qual : Str} {st : Stmt} {N ps : List Str} {k : Nat} {f : List D → M D} (d : ∃ mc p fa fd, ClX.CRead mg.K C mc ∧ ClX.CMet mg.K C mc m p fa ∧ Fun mg.K m qual st fa fd) (S : FnScope N ps (defScope st))
    (hb : ∀ (kV doc pm : Value) (an : Option Addr) (cdv ct : Value) (us : List Value), us.length = ps.length → bindArgs (PySem.W.fnOf m qual (defArgs st) (defBody st) (defScope st) .none kV doc pm an cdv ct) ⟨us, []⟩ = pure (ps.zip us))
    (h : ∀ (fa : Addr) (cdv : Value) (A : Around) (outer : List PySem.Env) (s : Shared) (H : Hp) (E : XK), RmG k (A.deeper (PyProof.Rows.envOfC qual (defScope st) s.heap.objs.size fa cdv)) →
      ∃ g, DSs (fun _ : Unit => cxOf (L2.CX P w) P w mg.K mg.mg base N qual (defScope st) fa cdv A outer s H E) mg (fun cls d _ H' => E cls d H') (defBody st) g ∧
        ∀ ds Q Ex, ds.length = ps.length → f ds Q Ex → g ⟨fun _ => Q .non, fun d _ => Q d, fun _ => False, fun _ => False, fun x _ => Ex x⟩ (startD N.length ds)) :
    CMethOk P w mg base (k + 1) C m ps.length f := by
  obtain ⟨mc, p, fa, fd, h1, h2, F⟩ := d
  exact ⟨mc, p, fa, fd, ps, h1, h2, F.binds hb, rfl, def_ok F S (h fa)⟩
noncomputable abbrev dCMeth (c : Str) (f : List D → M D) (n : Nat) (g : DTA) : DTE := fun ρ Q E => g ρ (fun ds => ds.length + 1 = n ∧ f (.cl c :: ds) Q E) E
theorem de_cmeth {P : Program} {w : World} {base : Heap} {k n : Nat} {c m : Str} {C : Addr} {f : List D → M D} {p apos : Pos} {e : Expr} {es : List Expr} {g : DTA} {pl : ι → Sem Bool} (Fc : ClsF mg c C) (F : CMethOk P w mg base k C m n f) (hr : ∀ i, RmG k (Xs i).A) (tk : ∀ i, Pas (Xs i) Wx) (ha : DA Xs mg Wx (e :: es) g)
    (hP : HPs Xs P w mg base := by intro _; exact ⟨rfl, rfl, rfl, rfl, rfl⟩) (hg : ∀ j, Gl (Xs j) c := by intro _; rfl) (hd : (c == ("__debug__" : Str)) = false := by decide)
    (he : ∀ i, starEach (e :: es) (Xs i).env = (false, eval e (Xs i).env) :: starEach es (Xs i).env := by intro _; rfl) (hpl : ∀ i, (backTo pos (starEach es (Xs i).env)).any (·.1) = false := by intro _; rfl)
    (ht : ∀ i, eval (.Call (.Attribute (.Name c p) m apos) (e :: es) [] pos) (Xs i).env = (do
      let ov ← eval (.Name c p) (Xs i).env
      standAt apos.atName
      let (f, first) ← holding [ov] (getMethod ov m (pl i))
      callWith pos f first (backTo pos (starEach (e :: es) (Xs i).env)) (backToKw pos (keywordEach [] (Xs i).env))) := by intro _; rfl) : DE Xs mg Wx (.Call (.Attribute (.Name c p) m apos) (e :: es) [] pos) (dCMeth c f n g) := by
  obtain ⟨mc, p1, ga, fd, ps, hrd, hcm, hb, hl, G⟩ := F.ex
  obtain ⟨t, h1, h2⟩ := ha
  refine ⟨fun σ H Q => t σ H fun vs H1 => spD mg n f (.ref C :: vs) H1 Q (WE Wx σ), fun i => ?_, ?_⟩
  · obtain ⟨e1, e2, e3, e4, e5⟩ := hP i
    subst e1 e2 e5
    refine ⟨fun pins s σ H Q I h => ?_⟩
    refine PySem.W.methodCall_KW (pl := pl i) (ld_glob I (hg i) (by rw [e4]; exact Fc.nm) ?_ hd) (ht i)
    refine ClX.getmethcm_ok I (by rw [e3]; exact hrd) (by rw [e3]; exact hcm) fun s2 I2 => ?_
    refine ClX.callwith_cm I2 (ClX.base_none I (Nat.le_refl _)) (by rw [e3]; exact hcm.fi) (thn ((h1 i).run pos _ s2 σ H _ I2 h) fun us s3 ⟨vs, H2, I3, rv, q2⟩ => ⟨⟨ClX.pin_at I3, I3.kIn⟩, ?_⟩) (he i) (hpl i)
    have z := wpAny_call (PySem.W.method_call (ClX.pin_at I3) (goGc (us := .ref C :: us) (vs := .ref C :: vs) (by rw [e3, e4]; exact G) (hr i) (by rw [e3]; exact hb) (tk i σ) I3 (.cons rfl rv) q2))
    exact thn z fun _ _ y => ClX.unpinE y
  · intro B ρ Q E hf W σ H Q' hh e x q
    refine h2 B ρ _ E hf W σ H _ hh e x fun W1 H1 vs ds s1 r1 k1 => ?_
    exact ⟨W1, _, Q, E, s1.holds, .cons (.cl Fc.nm) r1, k1.1, k1.2, ToV.step q s1, fun W' H' cls dd y s' r h => x W' H' cls dd y (s1.trans s') r h⟩
/-- cls(..), the class in a local name -/
noncomputable abbrev dMakeV (i : Nat) (c : Str) (f : List D → ((List (Str × D)) → Prop) → (XD → Prop) → Prop) (n : Nat) (g : DTA) : DTE := fun ρ Q E => ρ[i]? = some (.d (.cl c)) ∧ g ρ (fun ds => ds.length = n ∧ f ds (fun fs => Q (.ins c fs)) E) E
theorem de_makeV (i0 : Nat) {P : Program} {w : World} {base : Heap} {k n : Nat} {c x : Str} {C : Addr} {f : List D → ((List (Str × D)) → Prop) → (XD → Prop) → Prop} {p : Pos} {e : Expr} {es : List Expr} {g : DTA} (Fc : ClsF mg c C) (F : InitOk P w mg base k c C n f) (hr : ∀ i, RmG (k + 1) (Xs i).A) (tk : ∀ i, Pas (Xs i) Wx) (ha : DA Xs mg Wx (e :: es) g)
    (hP : HPs Xs P w mg base := by intro _; exact ⟨rfl, rfl, rfl, rfl, rfl⟩) (hN : ∀ j, (Xs j).N[i0]? = some x := by intro _; rfl)
    (hv : ∀ j, Vis (Xs j).env.scope x := by intro _; first | exact Or.inl rfl | exact Or.inr (Or.inl rfl) | exact Or.inr (Or.inr rfl)) (hd : (x == ("__debug__" : Str)) = false := by decide) (hcd : (x == ("__classdict__" : Str)) = false := by decide)
    (he : ∀ i, starEach (e :: es) (Xs i).env = (false, eval e (Xs i).env) :: starEach es (Xs i).env := by intro _; rfl) (hpl : ∀ i, (backTo pos (starEach es (Xs i).env)).any (·.1) = false := by intro _; rfl) : DE Xs mg Wx (.Call (.Name x p) (e :: es) [] pos) (dMakeV i0 c f n g) := by
  obtain ⟨fa, fd, ps, M, hb, hl, G⟩ := F.ex
  obtain ⟨t, h1, h2⟩ := ha
  refine ⟨fun σ H Q => σ[i0]? = some (some (.ref C)) ∧ t σ H fun vs H1 => ∀ x dx, H1 x = none → H1 dx = none → dx ≠ x → spI mg c C n f (.ref x :: vs) (upd (upd H1 dx (.own x)) x (.ins C dx [])) (fun v H2 => v = .non ∧ Q (.ref x) H2) (WE Wx σ), fun i => ?_, ?_⟩
  · obtain ⟨p1, p2, p3, p4, p5⟩ := hP i
    subst p1 p2 p5
    constructor
    intro pins z σ H Q I hw
    obtain ⟨hs, hw⟩ := hw
    refine wpAny_Call_Name_kw (thn ((pe_var (pos := p) (i := i0) (hN i) (hv i) hd hcd).run pins z σ H (fun v H1 => v = .ref C ∧ H1 = H) I ⟨.ref C, hs, rfl, rfl⟩) fun u s1 ⟨v, H1, I1, r1, ev, eH⟩ => ?_)
    subst ev
    rw [eH] at I1
    cases r1
    apply PySem.W.callWith_K (h₀ := (Xs i).base) I.ok.mod.kin (by rw [p3]; exact M.kp) _ (he i) (hpl i)
    refine thn ((h1 i).run pos pins s1 σ H _ I1 hw) ?_
    rintro us z1 ⟨vs, H2, I2, rv, q⟩
    exact ⟨I2.kIn, makeG (by rw [p3]; exact M) (by rw [p3, p4]; exact G) (hr i) (by rw [p3]; exact hb) (tk i σ) I2 rv q⟩
  · intro B ρ Q E hf W σ H Q' hh e x q
    obtain ⟨hs, hf⟩ := hf
    obtain ⟨o, g1, v, g2, g3⟩ := e.sl i0 _ hs
    subst g2
    cases g3 with
    | @cl C' _ hc =>
      have ec := Fc.eq hc
      subst ec
      refine ⟨g1, h2 B ρ _ E hf W σ H _ hh e x fun W1 H1 vs ds s1 r1 k1 => ?_⟩
      intro a dx na ndx ne
      refine ⟨W1, ds, vs, H1, a, dx, _, E, rfl, na, ndx, ne, rfl, s1.holds, r1, k1.1, k1.2, fun W' H' gs fs dy s' ha' nw nt hk rs hq => ⟨rfl, ?_⟩, fun W' H' cls dd y s' r h => x W' H' cls dd y (s1.trans s') r h⟩
      have st := s'.taken na ha' nw nt
      exact q _ _ _ _ (s1.trans st) (.ins Fc.nm (show upd W'.H a _ a = _ from upd_same) hk (rs.mono (Wd.le_put nw))) hq
end
end FP
/-! FP21: raise X('..'); try .. except X. -/
namespace FP
open PySem L2
variable [Tabl]
section
variable {ι : Type} {Xs : ι → Cx} {mg : Gm} {Wx : WX} {pos : Pos}
/-- a statement that is not reached -/
theorem ds_never {st : Stmt} : DS Xs mg Wx st (fun _ _ => False) := ⟨fun _ _ _ => False, fun _ => ⟨fun _ _ _ _ _ _ h => h.elim⟩, fun _ _ _ _ hf => hf.elim⟩
noncomputable abbrev dRaise (x : Str) : DTS := fun N ρ => N.rs ⟨x, []⟩ ρ
/-- an own exception without own __init__ -/
structure ExcF (mg : Gm) (x : Str) (C : Addr) (bmB : List Value) (newId : String) : Prop where
  nm : mg.mg x = some (.ref C)
  ei : PySem.W.excIn mg.K C bmB newId = true
  kp : PySem.W.keepIn mg.K (.ref C) = true
  sb : PySem.W.subIn mg.K (.ref C) (.type "BaseException") = some true
  ty : PySem.W.typeIn mg.K (.ref C) = some (.type "type")
theorem ds_raise {x m : Str} {C : Addr} {bmB : List Value} {B newId initId : String} {j : Nat} {p p2 q : Pos} (F : ExcBaseFacts B newId initId bmB) (X : ExcF mg x C bmB newId) (tk : ∀ i, Takes (Xs i) Wx) (hK : ∀ j, (Xs j).K = mg.K := by intro _; rfl) (hM : ∀ j, (Xs j).mg = mg.mg := by intro _; rfl)
    (hc : ∀ j, (Xs j).calm = true := by intro _; rfl) (hg : ∀ j, Gl (Xs j) x := by intro _; rfl) (hdb : (x == ("__debug__" : Str)) = false := by decide) : DS Xs mg Wx (.Raise (some (.Call (.Name x p) [.Constant (.str m) j p2] [] q)) none pos) (dRaise x) := by
  refine ⟨fun _ σ H => Wx (.ref C) none σ H, fun i => ?_, fun W0 B N ρ hf W σ H Ds s e n => ?_⟩
  · have z := ps_raise (pos := pos) (hc i) (tk i) (pmk_own (m := m) (j := j) (p := p) (p2 := p2) (pos := q) (X := Xs i) F (by rw [hK i]; exact X.ei) (by rw [hM i]; exact X.nm) (by rw [hK i]; exact X.kp) (raises_own (by rw [hK i]; exact X.sb) (by rw [hK i]; exact X.ty)) (hg i) hdb)
    exact z
  · exact n.rs W H σ ρ _ _ _ s e ⟨C, X.nm, rfl, .inl ⟨rfl, rfl⟩⟩ hf
/-- which of the errors cs the clause takes -/
structure CatF (mg : Gm) (c : Value) (cs : List Str) (yes : Str → Bool) : Prop where
  cl : ∀ x ∈ cs, ∃ C, mg.mg x = some (.ref C) ∧ PySem.W.exmOne mg.K (.ref C) c = some (yes x)
end
end FP
/-! FP22: owned objects: a pure expression reads one as data (view). -/
namespace FP
open PySem L2
variable [Tabl]
noncomputable def plainD : D → Bool
  | .non => true
  | .bl _ => true
  | .int _ => true
  | .str _ => true
  | _ => false
theorem Rep.flat {mg : Gm} {W W' : Wd} {v : V} {d : D} (r : Rep mg W v d) (h : plainD d = true) : Rep mg W' v d := by
  cases r with
  | non => exact .non
  | bl b => exact .bl b
  | int b => exact .int b
  | str b => exact .str b
  | _ => cases h
noncomputable def Wd.cut (W : Wd) (as : List Addr) : Wd := { W with H := fun b => if b ∈ as then none else W.H b }
end FP
/-! FP23: owned objects: what changes them. -/
namespace FP
open PySem L2
variable [Tabl]
noncomputable def putO (f : Str) (x : OF) : List (Str × OF) → List (Str × OF)
  | [] => []
  | (g, y) :: r => if f == g then (g, x) :: r else (g, y) :: putO f x r
section
variable {mg : Gm} {B : Hp} {W : Wd} {H : Hp} {σ : St} {ρ : Env} {as : List Addr}
/-- a field is found; another thing is put in its place, its address kept -/
theorem OFs.get {f : Str} {x : OF} : ∀ {vs : List (Str × V)} {fs : List (Str × OF)} {as : List Addr}, OFs mg W H vs fs as → fs.lookup f = some x → as.Nodup →
    ∃ v pre bs post, vs.lookup f = some v ∧ as = pre ++ (bs ++ post) ∧ OFR mg W H v x bs ∧
      ∀ x' bs' H', (∀ b u, H b = some u → b ∉ bs → H' b = some u) → OFR mg W H' v x' bs' → OFs mg W H' vs (putO f x' fs) (pre ++ (bs' ++ post))
  | [], [], _, _, hl, _ => by cases hl
  | (g, v) :: vs, (g', y) :: fs, as, ⟨e, as1, as2, ea, h1, h2⟩, hl, nd => by
    subst e
    rw [List.lookup_cons] at hl
    rw [List.lookup_cons]
    rw [ea] at nd
    by_cases q : (f == g) = true
    · rw [q] at hl ⊢
      cases hl
      refine ⟨v, [], as1, as2, rfl, ea, h1, fun x' bs' H' hH r => ?_⟩
      have ep : putO f x' ((g, x) :: fs) = (g, x') :: fs := by
        show (if (f == g) = true then _ else _) = _
        rw [if_pos q]
      rw [ep]
      refine ⟨rfl, bs', as2, rfl, r, h2.keep (Le.refl W) fun b hb u hu => hH b u hu fun z => ?_⟩
      exact (List.nodup_append.mp nd).2.2 b z b hb rfl
    · have q : (f == g) = false := by simpa using q
      rw [q] at hl ⊢
      obtain ⟨w, pre, bs, post, g1, g2, g3, g4⟩ := OFs.get h2 hl (List.nodup_append.mp nd).2.1
      refine ⟨w, as1 ++ pre, bs, post, g1, by rw [ea, g2, List.append_assoc], g3, fun x' bs' H' hH r => ?_⟩
      have ep : putO f x' ((g, y) :: fs) = (g, y) :: putO f x' fs := by
        show (if (f == g) = true then _ else _) = _
        rw [q, if_neg Bool.false_ne_true]
      rw [ep, List.append_assoc]
      refine ⟨rfl, as1, _, rfl, h1.keep (Le.refl W) fun b hb u hu => hH b u hu fun z => ?_, g4 x' bs' H' hH r⟩
      exact (List.nodup_append.mp nd).2.2 b hb b (by rw [g2]; exact List.mem_append_right _ (List.mem_append_left _ z)) rfl
  | [], _ :: _, _, h, _, _ => h.elim
  | _ :: _, [], _, h, _, _ => h.elim
end
end FP
/-! FP24: owned objects: fields stored. -/
namespace FP
open PySem L2
variable [Tabl]
/-- a field is put, at the end if it is new -/
noncomputable def setO (f : Str) (x : OF) : List (Str × OF) → List (Str × OF)
  | [] => [(f, x)]
  | (g, y) :: r => if g = f then (f, x) :: r else (g, y) :: setO f x r
section
variable {mg : Gm} {B : Hp} {W : Wd} {H : Hp} {σ : St} {ρ : Env} {as : List Addr}
theorem OFs.length : ∀ {vs : List (Str × V)} {fs : List (Str × OF)} {as : List Addr}, OFs mg W H vs fs as → vs.length = fs.length
  | [], [], _, _ => rfl
  | _ :: _, _ :: _, _, ⟨_, _, _, _, _, h⟩ => congrArg (· + 1) (OFs.length h)
  | [], _ :: _, _, h => h.elim
  | _ :: _, [], _, h => h.elim
/-- a datum's field may be stored -/
noncomputable def datF (f : Str) (fs : List (Str × OF)) : Bool := match fs.lookup f with
  | none => true
  | some (.d _) => true
  | _ => false
theorem OFs.put {f : Str} {v : V} {d : D} (r : Rep mg W v d) : ∀ {vs : List (Str × V)} {fs : List (Str × OF)} {as : List Addr}, OFs mg W H vs fs as → datF f fs = true → OFs mg W H (putF f v vs) (setO f (.d d) fs) as
  | [], [], as, h, _ => by
    have h : as = [] := h
    subst h
    exact ⟨rfl, [], [], rfl, ⟨rfl, r⟩, rfl⟩
  | (g, w) :: vs, (g', y) :: fs, as, ⟨e, as1, as2, ea, h1, h2⟩, hd => by
    subst e
    unfold putF setO
    by_cases q : g = f
    · rw [if_pos q, if_pos q]
      have hy : ∃ d0, y = .d d0 := by
        unfold datF at hd
        rw [List.lookup_cons, show (f == g) = true from by rw [q]; exact beq_self_eq_true f] at hd
        cases y with
        | d d0 => exact ⟨d0, rfl⟩
        | l _ => cases hd
        | ll _ => cases hd
        | nd _ => cases hd
      obtain ⟨d0, rfl⟩ := hy
      obtain ⟨z, _⟩ := h1
      subst z
      exact ⟨q, [], as2, ea, ⟨rfl, r⟩, h2⟩
    · rw [if_neg q, if_neg q]
      refine ⟨rfl, as1, as2, ea, h1, OFs.put r h2 ?_⟩
      unfold datF at hd ⊢
      rw [List.lookup_cons, show (f == g) = false from by simpa using fun z => q z.symm] at hd
      exact hd
  | [], _ :: _, _, h, _ => h.elim
  | _ :: _, [], _, h, _ => h.elim
end
end FP
/-! FP25: owned objects: a new field that holds a new list (x.f = []), or a new list of new lists (x.f = [[]]). -/
namespace FP
open PySem L2
variable [Tabl]
section
variable {mg : Gm} {B : Hp} {W : Wd} {H : Hp} {σ : St} {ρ : Env}
theorem OFs.snoc {f : Str} {v : V} {x : OF} {bs : List Addr} (r : OFR mg W H v x bs) : ∀ {vs : List (Str × V)} {fs : List (Str × OF)} {as : List Addr}, OFs mg W H vs fs as → fs.lookup f = none → OFs mg W H (putF f v vs) (fs ++ [(f, x)]) (as ++ bs)
  | [], [], as, h, _ => by
    have h : as = [] := h
    subst h
    exact ⟨rfl, bs, [], by simp, r, rfl⟩
  | (g, w) :: vs, (g', y) :: fs, as, ⟨e, as1, as2, ea, h1, h2⟩, hl => by
    subst e
    rw [List.lookup_cons] at hl
    have q : (f == g) = false := by
      cases z : f == g with
      | false => rfl
      | true => rw [z] at hl; cases hl
    rw [q] at hl
    unfold putF
    rw [if_neg fun z => by rw [z, beq_self_eq_true] at q; cases q]
    exact ⟨rfl, as1, as2 ++ bs, by rw [ea, List.append_assoc], h1, OFs.snoc r h2 hl⟩
  | [], _ :: _, _, h, _ => h.elim
  | _ :: _, [], _, h, _ => h.elim
end
section
variable {ι : Type} {Xs : ι → Cx} {mg : Gm} {Wx : WX} {pos : Pos}
theorem Step.noB {W0 W : Wd} {B H : Hp} (s : Step W0 B W H) {p : Addr} (h : H p = none) : B p = none := by
  cases q : B p with
  | none => rfl
  | some o =>
    obtain ⟨o', e'⟩ := s.live p o q
    rw [e'] at h
    cases h
end
end FP
/-! FP26: owned lists of owned lists: x.f.append([]), x.f[-1].append(e), y = x.f.pop(). -/
namespace FP
open PySem L2
end FP
/-! FP27: x.f[-1].append(e). -/
namespace FP
open PySem L2
end FP
/-! FP28: y = x.f.pop() of an owned list of owned lists. -/
namespace FP
open PySem L2
variable [Tabl]
section
variable {mg : Gm} {B : Hp} {W : Wd} {H : Hp} {σ : St} {ρ : Env}
/-- a place gets what no place has -/
theorem EnvR.move (e : EnvR mg B W H σ ρ) {k : Nat} {o : Option V} {s : Sl} (n : ∀ (j : Nat) (t : Sl) (o' : Option V) (b : Addr), j ≠ k → ρ[j]? = some t → σ[j]? = some o' → b ∈ t.fp o' → b ∈ s.fp o → False) (r : SlR mg B W H o s) : EnvR mg B W H (σ.set k o) (ρ.set k s) := by
  refine ⟨by simpa using e.len, fun j sl hj => ?_, fun j m s1 s2 o1 o2 a hjk h1 h2 h3 h4 m1 m2 => ?_⟩
  · rcases get_set hj with ⟨rfl, rfl⟩ | ⟨nj, hj⟩
    · have hl : k < ρ.length := by simpa using (List.getElem?_eq_some_iff.mp hj).1
      exact ⟨o, by rw [List.getElem?_set_self (by rw [e.len]; exact hl)], r⟩
    · obtain ⟨o', h1, h2⟩ := e.sl j sl hj
      exact ⟨o', by rw [List.getElem?_set_ne nj]; exact h1, h2⟩
  · rcases get_set h1 with ⟨e1, z1⟩ | ⟨n1, h1⟩
    · rcases get_set h2 with ⟨q, _⟩ | ⟨n2, h2⟩
      · exact hjk (e1.symm.trans q)
      · rw [List.getElem?_set_ne n2] at h4
        rcases get_set h3 with ⟨_, q⟩ | ⟨q, _⟩
        · rw [← z1, ← q] at m1
          exact n m s2 o2 a (Ne.symm n2) h2 h4 m2 m1
        · exact q e1
    · rcases get_set h2 with ⟨e2, z2⟩ | ⟨n2, h2⟩
      · rw [List.getElem?_set_ne n1] at h3
        rcases get_set h4 with ⟨_, q⟩ | ⟨q, _⟩
        · rw [← z2, ← q] at m2
          exact n j s1 o1 a (Ne.symm n1) h1 h3 m1 m2
        · exact q e2
      · rw [List.getElem?_set_ne n1] at h3
        rw [List.getElem?_set_ne n2] at h4
        exact e.dis j m s1 s2 o1 o2 a hjk h1 h2 h3 h4 m1 m2
end
end FP
/-! FP29: methods that change an owned object; making an owned object; handing it to the world. -/
namespace FP
open PySem L2
variable [Tabl]
/-- the heap without some addresses -/
noncomputable def offH (H : Hp) (as : List Addr) : Hp := fun b => if b ∈ as then none else H b
theorem offH_in {H : Hp} {as : List Addr} {b : Addr} (h : b ∈ as) : offH H as b = none := if_pos h
theorem offH_out {H : Hp} {as : List Addr} {b : Addr} (h : b ∉ as) : offH H as b = H b := if_neg h
theorem offH_some {H : Hp} {as : List Addr} {b : Addr} {o : HO} (h : offH H as b = some o) : b ∉ as ∧ H b = some o := by
  by_cases q : b ∈ as
  · rw [offH_in q] at h
    cases h
  · rw [offH_out q] at h
    exact ⟨q, h⟩
theorem Step.off {W : Wd} {H : Hp} {as : List Addr} (h : Holds W H) : Step W (offH H as) W H :=
  ⟨Le.refl W, h, fun _ _ e _ => (offH_some e).2, fun _ _ _ => rfl, fun _ t => .inl t, fun _ o e => ⟨o, (offH_some e).2⟩⟩
section
variable {mg : Gm} {B B' : Hp} {W W' : Wd} {H H' : Hp} {σ : St} {ρ : Env} {as : List Addr}
theorem SlR.rebase {o : Option V} {s : Sl} (h : SlR mg B W H o s) (k : ∀ a ∈ s.fp o, B a = none → B' a = none) : SlR mg B' W H o s := by
  cases s with
  | no => exact h
  | exc => exact h
  | d x => exact h
  | own xs =>
    obtain ⟨a, vs, h1, h2, h3, h4, h5, r⟩ := h
    subst h1
    exact ⟨a, vs, rfl, h2, h3, h4, k a (List.mem_singleton.mpr rfl) h5, r⟩
  | od xs =>
    obtain ⟨a, vs, h1, h2, h3, h4, h5, r⟩ := h
    subst h1
    exact ⟨a, vs, rfl, h2, h3, h4, k a (List.mem_singleton.mpr rfl) h5, r⟩
  | ob c a fs =>
    obtain ⟨vs, h1, h2, h3, h4, h5, r⟩ := h
    exact ⟨vs, h1, h2, h3, h4, k a (List.mem_singleton.mpr rfl) h5, r⟩
  | ow c as fs =>
    obtain ⟨a, as', vs, h1, h2, h3, h4, h5, h6⟩ := h
    exact ⟨a, as', vs, h1, h2, h3, h4, h5, fun b hb => ⟨(h6 b hb).1, (h6 b hb).2.1, (h6 b hb).2.2.1, k b hb (h6 b hb).2.2.2⟩⟩
  | o2 as x =>
    obtain ⟨a, Ls, h1, h2, h3, h4, h6⟩ := h
    exact ⟨a, Ls, h1, h2, h3, h4, fun b hb => ⟨(h6 b hb).1, (h6 b hb).2.1, (h6 b hb).2.2.1, k b hb (h6 b hb).2.2.2⟩⟩
  | hv f =>
    obtain ⟨a, h1, h2, h3, h4, h5⟩ := h
    subst h1
    exact ⟨a, rfl, h2, h3, h4, k a (List.mem_singleton.mpr rfl) h5⟩
end
/-! ### the promise of a method that changes its object -/
end FP
/-! FP30: t == (), t != (); max of a list; x, y = [], e; a def that is not called. -/
namespace FP
open PySem L2
variable [Tabl]
section
variable {ι : Type} {Xs : ι → Cx} {mg : Gm} {Wx : WX} {pos : Pos}
noncomputable def rT0 (K : PySem.W.Frag) (neg : Bool) : R2 := fun x y H Q => ∃ a b xs, x = .ref a ∧ y = .ref b ∧ SqT K H a xs ∧ SqT K H b [] ∧ Q (.bl (if neg then !xs.isEmpty else xs.isEmpty)) H
theorem op_eqT0 {X : Cx} (hu : X.A.units + 64 < cLine) : OpR X (compareOp .Eq) (rT0 X.K false) := by
  intro pins s σ H x y v u Q I rx ry h
  obtain ⟨a, b, xs, rfl, rfl, h1, h2, q⟩ := h
  cases rx
  cases ry
  obtain ⟨its, rv, pl, hz⟩ := I.tuple h1
  obtain ⟨its2, rv2, pl2, hz2⟩ := I.tuple h2
  have e2 : its2 = [] := by
    have := rv2.length
    cases its2 with
    | nil => rfl
    | cons => cases this
  subst e2
  refine SeqAt.rcIn_tuples (e := fun _ => true) (show s.heap.IsTuple a its.toArray from pl) (show s.heap.IsTuple b #[] from pl2) (by omega) (fun j _ h2 => absurd h2 (Nat.not_lt_zero j)) ⟨.bl xs.isEmpty, H, I, ?_, q⟩
  show Value.bool _ = Value.bool _
  congr 1
  have el := rv.length
  cases xs with
  | nil =>
    cases its with
    | nil => rfl
    | cons => cases el
  | cons =>
    cases its with
    | nil => cases el
    | cons => rfl
theorem op_neT0 {X : Cx} (hu : X.A.units + 64 < cLine) : OpR X (compareOp .NotEq) (rT0 X.K true) := by
  intro pins s σ H x y v u Q I rx ry h
  obtain ⟨a, b, xs, rfl, rfl, h1, h2, q⟩ := h
  cases rx
  cases ry
  obtain ⟨its, rv, pl, hz⟩ := I.tuple h1
  obtain ⟨its2, rv2, pl2, hz2⟩ := I.tuple h2
  have e2 : its2 = [] := by
    have := rv2.length
    cases its2 with
    | nil => rfl
    | cons => cases this
  subst e2
  have hl : s.heap.IsTuple a its.toArray := pl
  have hb : s.heap.IsTuple b #[] := pl2
  obtain ⟨⟨cls, dd, data, sl⟩, ho, hc, n, hd⟩ := id hl
  obtain ⟨⟨cls2, dd2, data2, sl2⟩, ho2, hc2, n2, hd2⟩ := id hb
  simp only at hc hd hc2 hd2
  subst hc hd hc2 hd2
  refine wpAny_richCompare_same_room (T := "tuple") (op := .NotEq) ⟨_, ho, rfl⟩ ⟨_, ho2, rfl⟩ F.slot_tuple_ne (call_meets F.slot_tuple_ne ⟨_, ho, rfl⟩ F.entry_tuple_ne (F.args_tuple_ne_2 _ _) (SeqAt.tuple_neAt a b its.toArray #[] n n2 dd dd2 sl sl2 (fun _ => true))
    ⟨ho, ho2, fun j _ h2 => absurd h2 (Nat.not_lt_zero j), (fun x => nomatch x), .bl (!xs.isEmpty), H, I, ?_, q⟩) (by omega)
  show Value.bool _ = Value.bool _
  congr 1
  have el := rv.length
  cases xs with
  | nil =>
    cases its with
    | nil => rfl
    | cons => cases el
  | cons =>
    cases its with
    | nil => cases el
    | cons => rfl
/-- a tuple of anything beside () -/
noncomputable def rdT0 (neg : Bool) : RD2 := fun x y Q => match x, y with
  | .tup xs, .tup [] => Q (.bl (if neg then !xs.isEmpty else xs.isEmpty))
  | _, _ => False
theorem ok_T0 {neg : Bool} {W : Wd} {H : Hp} {x y : V} {dx dy : D} {Q : D → Prop} {Q' : VK} (hh : Holds W H) (rx : Rep mg W x dx) (ry : Rep mg W y dy) (h : rdT0 neg dx dy Q) (q : ToV mg W H Q Q') : rT0 mg.K neg x y H Q' := by
  unfold rdT0 at h
  split at h
  · rename_i xs
    cases rx with
    | @tup a vs ds ha rs =>
      cases ry with
      | @tup b vs2 ds2 hb rs2 =>
        cases rs2
        have e : vs.isEmpty = xs.isEmpty := by
          cases rs <;> rfl
        refine ⟨a, b, vs, rfl, rfl, SqT.of (hh.same _ _ ha), SqT.of (hh.same _ _ hb), ?_⟩
        rw [e]
        exact q W H _ _ (Step.refl hh) (.bl _) h
  · exact h.elim
theorem ok_eqT0 (hu : ∀ j, (Xs j).A.units + 64 < cLine) (hK : ∀ j, (Xs j).K = mg.K := by intro _; rfl) : OpOk Xs mg (compareOp .Eq) (rdT0 false) :=
  ⟨_, fun j => by rw [← hK j]; exact op_eqT0 (hu j), fun W H x y dx dy Q Q' hh rx ry h q => ok_T0 hh rx ry h q⟩
theorem ok_neT0 (hu : ∀ j, (Xs j).A.units + 64 < cLine) (hK : ∀ j, (Xs j).K = mg.K := by intro _; rfl) : OpOk Xs mg (compareOp .NotEq) (rdT0 true) :=
  ⟨_, fun j => by rw [← hK j]; exact op_neT0 (hu j), fun W H x y dx dy Q Q' hh rx ry h q => ok_T0 hh rx ry h q⟩
/-! ### max of a list of ints -/
noncomputable def intsD : List D → Option (List Int)
  | [] => some []
  | .int i :: r => (intsD r).map (i :: ·)
  | _ :: _ => none
theorem intsD_map : ∀ ns : List Int, intsD (ns.map D.int) = some ns
  | [] => rfl
  | n :: r => by
    show (intsD (r.map D.int)).map (n :: ·) = _
    rw [intsD_map r]
    rfl
theorem intsD_inv {d : D} {r : List D} {ns : List Int} (h : intsD (d :: r) = some ns) : ∃ i ms, d = .int i ∧ intsD r = some ms ∧ ns = i :: ms := by
  cases d with
  | int i =>
    have h : (intsD r).map (i :: ·) = some ns := h
    cases q : intsD r with
    | none => rw [q] at h; cases h
    | some ms =>
      rw [q] at h
      exact ⟨i, ms, rfl, rfl, (Option.some.inj h).symm⟩
  | _ => cases h
theorem intsD_v {W : Wd} : ∀ {xs : List D} {vs : List V} {ns : List Int}, Reps mg W vs xs → intsD xs = some ns → vs = ns.map V.int := by
  intro xs
  induction xs with
  | nil =>
    intro vs ns r h
    cases h
    cases r
    rfl
  | cons d r' ih =>
    intro vs ns r h
    obtain ⟨i, ms, rfl, h1, rfl⟩ := intsD_inv h
    cases r with
    | cons r rs =>
      rw [r.intI, ih rs h1]
      rfl
noncomputable def rdMaxL : RDL := fun ds Q => match ds with
  | [.lst xs] => ∃ ns, intsD xs = some ns ∧ 0 < ns.length ∧ ∀ m, m ∈ ns → (∀ y ∈ ns, y ≤ m) → Q (.int m)
  | _ => False
theorem cr_maxK {X : Cx} {K : PySem.W.Frag} (h : X.K = K) (hc : X.calm = true) : CallR X (.builtin "max") (rMax K) := by
  subst h
  exact cr_max hc
theorem ok_maxL (hK : ∀ j, (Xs j).K = mg.K := by intro _; rfl) (hc : ∀ j, (Xs j).calm = true := by intro _; rfl) : CallOk Xs mg (.builtin "max") rdMaxL := by
  refine CallOk.mk (fun j => cr_maxK (hK j) (hc j)) ?_
  intro W H vs ds Q Q' P hh r h q hP
  cases r with
  | nil => exact False.elim h
  | cons r rs =>
    cases r with
    | @lst a us ds ha ru =>
      cases rs with
      | nil =>
        delta rdMaxL at h
        dsimp only at h
        obtain ⟨ns, h1, h2, h3⟩ := h
        have e := intsD_v ru h1
        subst e
        exact hP _ (⟨a, ns, rfl, SqL.of (hh.same _ _ ha), h2, fun m hm hy => q W H _ _ (Step.refl hh) (.int m) (h3 m hm hy)⟩)
      | cons => exact False.elim h
    | _ => exact False.elim h
/-! ### x, y = [..], e -/
noncomputable abbrev dParO (i j : Nat) (g : DTA) (f : DTE) : DTS := fun N ρ => g ρ (fun xs => f ρ (fun d => N.nx ((ρ.set i (.own xs)).set j (.d d))) (fun x => N.rs x ρ)) (fun x => N.rs x ρ)
theorem ds_parO {i j : Nat} {x y : Str} {a b : Expr} {g : DTA} {f : DTE} {px py pt : Pos} {kt k2 : Nat} {pt2 : Pos} (h : DO Xs mg Wx a g) (h' : DE Xs mg Wx b f) (hN : ∀ l, (Xs l).N.Nodup)
    (hw : ∀ l, swappedStores [.Tuple [.Name x px, .Name y py] kt pt] (.Tuple [a, b] k2 pt2) (Xs l).env = pure (some [x, y]) := by intro _; rfl) (hij : i ≠ j := by decide) (hi : ∀ l, (Xs l).N[i]? = some x := by intro _; rfl) (hj : ∀ l, (Xs l).N[j]? = some y := by intro _; rfl)
    (hx : ∀ l, (Xs l).env.scope.names.lookup x = some .local := by intro _; rfl) (hy : ∀ l, (Xs l).env.scope.names.lookup y = some .local := by intro _; rfl) (hc : ∀ l, (Xs l).calm = true := by intro _; rfl)
    (hs : ∀ l, swapsWithSole [.Tuple [.Name x px, .Name y py] kt pt] (.Tuple [a, b] k2 pt2) pos.line (Xs l).env = pure false := by intro _; rfl)
    (he : ∀ i, starEach [a, b] (Xs i).env = (false, eval a (Xs i).env) :: starEach [b] (Xs i).env := by intro _; rfl) (he2 : ∀ i, starEach [b] (Xs i).env = [(false, eval b (Xs i).env)] := by intro _; rfl) : DS Xs mg Wx (.Assign [.Tuple [.Name x px, .Name y py] kt pt] (.Tuple [a, b] k2 pt2) pos) (dParO i j g f) := by
  obtain ⟨t, h1, h2⟩ := h
  obtain ⟨u, g1, g2⟩ := h'
  refine ⟨_, fun l => ps_par (i := i) (j := j) (hc l) (hN l) (hi l) (hj l) hij (hx l) (hy l) (pa_cons (h1 l) (pa_cons (g1 l) pa_nil (he2 l)) (he l)) (hw l) (hs l), fun W0 B N ρ hf W σ H Ds s e n => ?_⟩
  refine h2 B ρ _ _ hf W σ H _ s.holds e (n.ex s e) fun W1 H1 p vs ds s1 hp r1 k1 => ?_
  have e1 := e.step s1
  have s01 := s.trans s1
  have sl := Step.lay (o := .lst vs) s1.holds hp
  have e2 := e1.setOwn (i := i) s1.holds hp (s01.noB hp) r1
  refine g2 B ρ _ _ k1 W1 σ _ _ sl.holds (e1.step sl) (n.ex (s01.trans sl) (e1.step sl)) fun W2 H2 v d s2 r2 k2 => ?_
  exact ⟨_, _, rfl, n.nx W2 H2 _ _ ((s01.trans sl).trans s2) ((e2.step s2).set r2) k2⟩
/-- a def that is not called -/
theorem DefOk.never {P : Program} {w : World} {mg : Gm} {base : Heap} {x qual : Str} {st : Stmt} {ps : List Str} {k : Nat} (d : ∃ fa fd, mg.mg x = some (.ref fa) ∧ Fun mg.K x qual st fa fd)
    (hb : ∀ (kV doc pm : Value) (an : Option Addr) (cdv ct : Value) (us : List Value), us.length = ps.length → bindArgs (PySem.W.fnOf x qual (defArgs st) (defBody st) (defScope st) .none kV doc pm an cdv ct) ⟨us, []⟩ = pure (ps.zip us)) : DefOk P w mg base k x ps.length (fun _ _ _ => False) := by
  obtain ⟨fa, fd, h1, F⟩ := d
  refine ⟨fa, fd, ps, h1, F.kp, F.binds hb, rfl, fun vs H Q E hs => ?_, fun A out z H ag us vs Q E _ _ _ _ hs => ?_⟩
  · obtain ⟨W, ds, Qd, Ed, _, _, _, h, _⟩ := hs
    exact h.elim
  · obtain ⟨W, ds, Qd, Ed, _, _, _, h, _⟩ := hs
    exact h.elim
end
end FP
/-! FP31: class facts put together; special methods by their bodies. -/
namespace FP
open PySem L2
variable [Tabl]
section
variable {mg : Gm}
theorem kit_no {n : String} {C : Addr} (ic : PySem.W.isClsIn mg.K C = true) (ty : PySem.W.typeIn mg.K (.ref C) = some (.type "type")) (h : PySem.W.subIn mg.K (.type n) (.ref C) = some false) : PySem.W.kitOne mg.K (.type n) (.ref C) = some false := by
  have e : (Value.type n == Value.ref C) = false := rfl
  unfold PySem.W.kitOne
  rw [e, if_neg Bool.false_ne_true]
  show (if ((PySem.W.clsIn mg.K C).isSome && PySem.W.typeIn mg.K (.ref C) == some (.type "type")) = true then PySem.W.subIn mg.K (.type n) (.ref C) else none) = _
  have ic : (PySem.W.clsIn mg.K C).isSome = true := ic
  rw [ic, ty, h]
  rfl
theorem isi_mk {c : Str} {C : Addr} (F : ClsF mg c C) (ic : PySem.W.isClsIn mg.K C = true) (ty : PySem.W.typeIn mg.K (.ref C) = some (.type "type")) (h0 : PySem.W.subIn mg.K (.type "NoneType") (.ref C) = some false) (h1 : PySem.W.subIn mg.K (.type "bool") (.ref C) = some false) (h2 : PySem.W.subIn mg.K (.type "int") (.ref C) = some false) (h3 : PySem.W.subIn mg.K (.type "str") (.ref C) = some false)
    (h4 : PySem.W.subIn mg.K (.type "tuple") (.ref C) = some false) (h5 : PySem.W.subIn mg.K (.type "list") (.ref C) = some false) (h6 : PySem.W.subIn mg.K (.type "dict") (.ref C) = some false) : IsiF mg C [c] (fun _ => true) := by
  refine ⟨fun n hn => kit_no ic ty ?_, fun x hx => ?_⟩
  · simp only [List.mem_cons, List.not_mem_nil, or_false] at hn
    rcases hn with rfl | rfl | rfl | rfl | rfl | rfl | rfl <;> assumption
  · rw [List.mem_singleton.mp hx]
    exact ⟨C, F, if_pos (beq_self_eq_true _)⟩
theorem eqF_mk {c : Str} {C : Addr} (F : ClsF mg c C) (h0 : PySem.W.notFirst mg.K C (.type "NoneType") = true) (h1 : PySem.W.notFirst mg.K C (.type "bool") = true) (h2 : PySem.W.notFirst mg.K C (.type "int") = true) (h3 : PySem.W.notFirst mg.K C (.type "str") = true)
    (h4 : PySem.W.notFirst mg.K C (.type "tuple") = true) (h5 : PySem.W.notFirst mg.K C (.type "list") = true) (h6 : PySem.W.notFirst mg.K C (.type "dict") = true) (h7 : PySem.W.notFirst mg.K C (.ref C) = true) : EqF mg C [c] := by
  refine ⟨fun n hn => ?_, fun x hx => ?_⟩
  · simp only [List.mem_cons, List.not_mem_nil, or_false] at hn
    rcases hn with rfl | rfl | rfl | rfl | rfl | rfl | rfl <;> assumption
  · rw [List.mem_singleton.mp hx]
    exact ⟨C, F, h7⟩
theorem mkSpec {P : Program} {w : World} {base : Heap} {C : Addr} {m qual : Str} {st : Stmt} {N ps : List Str} {k : Nat} {f : List D → M D} (d : ∃ fa fd, (Meth mg.K C m fa ∧ PySem.W.fnIn mg.K fa = true) ∧ Fun mg.K m qual st fa fd) (S : FnScope N ps (defScope st))
    (hb : ∀ (kV doc pm : Value) (an : Option Addr) (cdv ct : Value) (us : List Value), us.length = ps.length → bindArgs (PySem.W.fnOf m qual (defArgs st) (defBody st) (defScope st) .none kV doc pm an cdv ct) ⟨us, []⟩ = pure (ps.zip us))
    (h : ∀ (fa : Addr) (cdv : Value) (A : Around) (outer : List PySem.Env) (s : Shared) (H : Hp) (E : XK), RmG k (A.deeper (PyProof.Rows.envOfC qual (defScope st) s.heap.objs.size fa cdv)) →
      ∃ g, DSs (fun _ : Unit => cxOf (L2.CX P w) P w mg.K mg.mg base N qual (defScope st) fa cdv A outer s H E) mg (fun cls d _ H' => E cls d H') (defBody st) g ∧
        ∀ ds Q Ex, ds.length = ps.length → f ds Q Ex → g ⟨fun _ => Q .non, fun d _ => Q d, fun _ => False, fun _ => False, fun x _ => Ex x⟩ (startD N.length ds)) :
    SpecOk P w mg base (k + 1) C m ps.length f := by
  obtain ⟨fa, fd, ⟨hm, hf⟩, F⟩ := d
  exact ⟨fa, fd, ps, hm.at_, hm.fn, hf, F.binds hb, rfl, def_ok F S (h fa)⟩
theorem FnG.imp {P : Program} {w : World} {K : PySem.W.Frag} {mg : Str → Option Value} {base : Heap} {k : Nat} {f : Addr} {fd : FuncData} {ps : List Str} {sp sp' : Sp} (F : FnG P w K mg base k f fd ps sp) (h : ∀ vs H Q E, sp' vs H Q E → sp vs H Q E) : FnG P w K mg base k f fd ps sp' :=
  ⟨fun vs H Q E hs => F.ln vs H Q E (h vs H Q E hs), fun A out z H ag us vs Q E m e0 bd rv hs => F.go A out z H ag us vs Q E m e0 bd rv (h vs H Q E hs)⟩
theorem spD_imp {n : Nat} {f f' : List D → M D} (h : ∀ ds Q E, f' ds Q E → f ds Q E) : ∀ vs H Q E, spD mg n f' vs H Q E → spD mg n f vs H Q E := by
  rintro vs H Q E ⟨W, ds, Qd, Ed, h1, h2, h3, h4, h5⟩
  exact ⟨W, ds, Qd, Ed, h1, h2, h3, h ds Qd Ed h4, h5⟩
theorem DefOk.mono {P : Program} {w : World} {base : Heap} {k k' n : Nat} {x : Str} {f f' : List D → M D} (F : DefOk P w mg base k x n f) (hk : k ≤ k') (h : ∀ ds Q E, f' ds Q E → f ds Q E) : DefOk P w mg base k' x n f' := by
  obtain ⟨fa, fd, ps, h1, h2, h3, h4, G⟩ := F.ex
  exact ⟨fa, fd, ps, h1, h2, h3, h4, (G.up hk).imp (spD_imp h)⟩
theorem boot_iter : bootBuiltins "iter" = some (.builtin "iter") := by decide +kernel
/-- nothing is caught -/
theorem CatF.nil {c : Value} {yes : Str → Bool} : CatF mg c [] yes := ⟨fun _ h => absurd h List.not_mem_nil⟩
end
end FP
/-! FP32: max(e, default=d) of whole numbers. -/
namespace FP
open PySem PyProof.Rows L2
variable [Tabl]
section
variable {prog : Program} {w : World} {A : Around} {E : Value → Shared → Prop} {s : Shared} {R : Result → Shared → Prop} {J : Addr} {fp wr : List Addr} {n : Nat} {P : Nat → Value → Prop} {St : Nat → Heap → Prop}
/-- the best so far -/
noncomputable def BestD (bt : Nat → Nat → Bool) (P : Nat → Value → Prop) (j : Nat) (its : Array Value) : Prop := (j = 0 ∧ its = #[]) ∨ ∃ i vb, j = i + 1 ∧ P (argBest bt i) vb ∧ its = #[vb, vb]
theorem maxD_loop (W : Walks prog w A.in1 J fp wr n P St) (bt : Nat → Nat → Bool) (hcmp : CmpOf prog w A.in1 .Gt P bt) (T : Addr) (hT : T ∉ fp) (d : Value) : ∀ (k j : Nat) (s : Shared) (its : Array Value) (c : Nat), n - j = k → j ≤ n → St j s.heap → BestD bt P j its →
    s.heap.get? T = some { cls := .type "list", dict := none, data := .seq its c, slots := #[] } →
    (∀ v h' tk, (n = 0 ∧ v = d ∨ 0 < n ∧ P (argBest bt (n - 1)) v) → (∀ b o, b ∉ wr → b ≠ T → s.heap.get? b = some o → h'.get? b = some o) → R (.ok (.ret v)) { s with heap := h', toks := tk }) →
    codeAny (model prog w) A (.builtin "max.loop" ⟨[.ref J, .none, .ref T], [(Str.ofString "default", d)]⟩) R s := by
  have hTw : T ∉ wr := fun h => hT (W.sub _ h)
  have nm : (toString "max" ++ toString ".loop" : String) = "max.loop" := by decide
  intro k
  induction k with
  | zero =>
    intro j s its c hk hj hst hb hS hR
    obtain rfl : j = n := by omega
    refine codeAny_builtin PySem.F.entry_max_loop ?_
    rw [Around.under_plainId PySem.F.plain_max_loop _]
    show wpAny _ A.in1 (seqItems? (.ref T) >>= _) _ _ s
    refine wpAny_bind (wpAny_seqItems hS rfl ?_)
    show wpAny _ A.in1 (tryCatch (pyNext (.ref J)) _ >>= _) _ _ s
    refine wpAny_bind (wpAny_tryCatch (W.done s _ _ hst fun h' tk hk' => ?_))
    have hS' := hk' T _ hTw hS
    rcases hb with ⟨rfl, rfl⟩ | ⟨i, vb, rfl, hP, rfl⟩
    · refine wpAny_bind (wpAny_rule (wpAny_pure ?_))
      exact hR d h' tk (.inl ⟨rfl, rfl⟩) fun b o hbw _ e => hk' b o hbw e
    · show wpAny _ A.in1 (updateSeq T (fun _ => #[]) >>= _) _ _ _
      refine wpAny_bind ?_
      refine wpAny_updateSeq hS' rfl (wpAny_bind (wpAny_letGo (wpAny_pure ?_)))
      exact hR vb _ tk (.inr ⟨by omega, hP⟩) fun b o hbw hbT e => (Heap.get?_update_other _ _ (Ne.symm hbT)).trans (hk' b o hbw e)
  | succ k ih =>
    intro j s its c hk hj hst hb hS hR
    have hlt : j < n := by omega
    refine codeAny_builtin PySem.F.entry_max_loop ?_
    rw [Around.under_plainId PySem.F.plain_max_loop _]
    show wpAny _ A.in1 (seqItems? (.ref T) >>= _) _ _ s
    refine wpAny_bind (wpAny_seqItems hS rfl ?_)
    show wpAny _ A.in1 (tryCatch (pyNext (.ref J)) _ >>= _) _ _ s
    refine wpAny_bind (wpAny_tryCatch (W.item j s _ _ hlt hst fun v h' tk hP hst' hk' => ?_))
    have hS' := hk' T _ hTw hS
    have fr : ∀ (its' : Array Value), St (j + 1) (h'.update T (Obj.mapSeq fun _ => its')) := fun its' => W.frame _ _ _ hst' fun b hbf o e => (Heap.get?_update_other _ _ (fun h : T = b => hT (by rw [h]; exact hbf))).trans e
    have kp : ∀ (its' : Array Value) (h2 : Heap), (∀ b o, b ∉ wr → b ≠ T → (h'.update T (Obj.mapSeq fun _ => its')).get? b = some o → h2.get? b = some o) → ∀ b o, b ∉ wr → b ≠ T → s.heap.get? b = some o → h2.get? b = some o :=
      fun its' h2 hk2 b o hbw hbT e => hk2 b o hbw hbT ((Heap.get?_update_other _ _ (Ne.symm hbT)).trans (hk' b o hbw e))
    rcases hb with ⟨rfl, rfl⟩ | ⟨i, vb, rfl, hPb, rfl⟩
    · show wpAny _ A.in1 (updateSeq T (fun _ => #[v, v]) >>= _) _ _ _
      refine wpAny_bind ?_
      refine wpAny_updateSeq hS' rfl ?_
      rw [nm]
      refine wpAny_pure ⟨plainId_quiet PySem.F.plain_max_loop _, ih 1 _ #[v, v] _ (by omega) hlt (fr _) (.inr ⟨0, v, rfl, hP, rfl⟩) (Heap.get?_update_self _ hS' rfl) fun v' h2 tk2 hv hk2 => hR v' h2 tk2 hv (kp _ h2 hk2)⟩
    · show wpAny _ A.in1 (tryCatch (holding [v, v] (richCompare .Gt v vb >>= _)) _ >>= _) _ _ _
      refine wpAny_bind (wpAny_tryCatch (wpAny_holding (wpAny_bind (hcmp (i + 1) (argBest bt i) v vb _ _ _ hP hPb ?_))))
      refine wpAny_bind (wpAny_holding (wpAny_truthy_bool ?_))
      refine wpAny_bind (wpAny_letGo (wpAny_pure ?_))
      cases hb : bt (i + 1) (argBest bt i) with
      | true =>
        simp only [if_true]
        refine wpAny_bind ?_
        refine wpAny_updateSeq hS' rfl (wpAny_bind (wpAny_letGo ?_))
        rw [nm]
        refine wpAny_pure ⟨plainId_quiet PySem.F.plain_max_loop _, ih (i + 2) _ #[v, v] _ (by omega) hlt (fr _) (.inr ⟨i + 1, v, rfl, by simp only [argBest, hb, if_true]; exact hP, rfl⟩) (Heap.get?_update_self _ hS' rfl) fun v' h2 tk2 hv hk2 => hR v' h2 tk2 hv (kp _ h2 hk2)⟩
      | false =>
        simp only [Bool.false_eq_true, if_false]
        refine wpAny_bind (wpAny_letGo ?_)
        rw [nm]
        refine wpAny_pure ⟨plainId_quiet PySem.F.plain_max_loop _, ih (i + 2) _ #[vb, vb] c (by omega) hlt hst' (.inr ⟨i + 1, vb, rfl, by simp only [argBest, hb, Bool.false_eq_true, if_false]; exact hPb, rfl⟩) hS' fun v' h2 tk2 hv hk2 => ?_⟩
        exact hR v' h2 tk2 hv fun b o hbw hbT e => hk2 b o hbw hbT (hk' b o hbw e)
theorem max_dflt (a v : Value) : argsOk "max" ⟨[a], [(Str.ofString "default", v)]⟩ := by unfold argsOk; kernel_rfl
theorem maxD_call {x d : Value} {Q : Value → Shared → Prop}
    (h : wpAny (model prog w) A.in1 (pyIter x) (fun it s2 => ∃ J fp wr n P St bt, it = .ref J ∧ Walks prog w A.in1 J fp wr n P St ∧ St 0 s2.heap ∧ (∀ b ∈ fp, b < s2.heap.objs.size) ∧ CmpOf prog w A.in1 .Gt P bt ∧
      ∀ v h' tk, (n = 0 ∧ v = d ∨ 0 < n ∧ P (argBest bt (n - 1)) v) → (∀ b o, b ∉ wr → s2.heap.get? b = some o → h'.get? b = some o) → Q v { s2 with heap := h', toks := tk }) E s) :
    wpAny (model prog w) A (call (.builtin "max") [x] [(Str.ofString "default", d)]) Q E s := by
  have nm : (toString "max" ++ toString ".loop" : String) = "max.loop" := by decide
  refine kmb_tree PySem.F.kind_max PySem.F.plain_max PySem.F.entry_max (max_dflt _ _) ?_
  show wpAny _ A.in1 (Builtin.Builtins.bindParams "max" ["key", "default"] 0 ⟨[], [(Str.ofString "default", d)]⟩ >>= _) _ _ s
  refine wpAny_bind (wpAny_of_eq (show Builtin.Builtins.bindParams "max" ["key", "default"] 0 ⟨[], [(Str.ofString "default", d)]⟩ = pure [none, some d] from rfl) ?_)
  refine wpAny_bind (wpAny_pure ?_)
  refine wpAny_bind (wpAny_mono h (fun it s2 h2 => ?_) fun _ _ e => e)
  obtain ⟨J, fp, wr, n, P, St, bt, rfl, W, hst, hfp, hcmp, hQ⟩ := h2
  refine wpAny_bind (wpAny_newObj_type ?_)
  have hT : s2.heap.objs.size ∉ fp := fun hm => Nat.lt_irrefl _ (hfp _ hm)
  rw [nm]
  refine wpAny_pure ⟨plainId_quiet PySem.F.plain_max_loop _, maxD_loop W bt hcmp s2.heap.objs.size hT d _ 0 _ #[] _ rfl (Nat.zero_le _) (W.frame _ _ _ hst fun b _ o e => Heap.get?_push_of_some _ e) (.inl ⟨rfl, rfl⟩) (Heap.get?_push_size _ rfl) fun v h' tk hv hk => ?_⟩
  exact hQ v h' tk hv fun b o hbw e => hk b o hbw (Nat.ne_of_lt (Heap.lt_size e)) (Heap.get?_push_of_some _ e)
theorem maxD_ints {l : Addr} {its : List Value} {ns : List Int} {d : Value} {Q : Value → Shared → Prop} (hh : A.handled = none) (hl : s.heap.IsList l its.toArray) (hi : IntsAre its ns)
    (h : ∀ h' tk v, (∀ b o, s.heap.get? b = some o → h'.get? b = some o) → (ns = [] ∧ v = d ∨ ∃ m t', v = .int m t' ∧ m ∈ ns ∧ ∀ a, a ∈ ns → a ≤ m) → Q v { s with heap := h', toks := tk }) : wpAny (model prog w) A (call (.builtin "max") [.ref l] [(Str.ofString "default", d)]) Q E s := by
  obtain ⟨xs, e⟩ := hi.allInts.items
  have hn : numsOf (intItems xs).toList = ns := by rw [← e]; exact hi.numsOf
  rw [nums_intItems] at hn
  subst hn
  rw [e] at hl
  refine maxD_call (iter_intList hl fun s2 e2 st hfp hlI => ?_)
  subst e2
  refine ⟨_, _, _, _, _, _, _, rfl, Walks.list (A := A.in1) hh _ l hlI (intItems xs), st, hfp, CmpOf.ints_gt (numAt xs) (fun _ _ => intItems_at), fun v h' tk hP hk => ?_⟩
  refine h h' tk v (old_kept hk) ?_
  have hsz : (intItems xs).size = xs.size := by simp [intItems]
  rcases hP with ⟨h0, rfl⟩ | ⟨h0, hP⟩
  · refine .inl ⟨?_, rfl⟩
    have : xs.size = 0 := by omega
    rw [Array.size_eq_zero_iff.mp this]
    rfl
  · rw [hsz] at h0 hP
    obtain ⟨t, rfl⟩ := intItems_at hP
    obtain ⟨h1, h2⟩ := argBest_gt (numAt xs) (xs.size - 1)
    refine .inr ⟨_, t, rfl, ?_, fun a ha => ?_⟩
    · rw [numAt_eq]; exact PySem.getD_mem (by rw [List.length_map, Array.length_toList]; omega)
    · obtain ⟨j, hj, rfl⟩ := mem_getD ha
      rw [List.length_map, Array.length_toList] at hj
      rw [← numAt_eq]
      exact h2 j (by omega)
end
section
variable {ι : Type} {Xs : ι → Cx} {mg : Gm} {Wx : WX} {pos : Pos}
noncomputable def tMaxD (K : PySem.W.Frag) (ta td : TE) : TE := fun σ H Q => ta σ H fun x H1 => td σ H1 fun y H2 => ∃ (a : Addr) (ns : List Int), x = V.ref a ∧ SqL K H2 a (ns.map V.int) ∧ (ns = [] → Q y H2) ∧ ∀ m, m ∈ ns → (∀ z, z ∈ ns → z ≤ m) → Q (.int m) H2
theorem pe_maxD {X : Cx} {e e2 : Expr} {ta td : TE} {p kp : Pos} (ha : PE X e ta) (hd : PE X e2 td) (hc : X.calm = true) (hg : Gl X "max") (hm : X.mg "max" = none) (hv : bootBuiltins "max" = some (.builtin "max"))
    (he : starEach [e] X.env = [(false, eval e X.env)]) : PE X (.Call (.Name "max" p) [e] [⟨some "default", e2, kp⟩] pos) (tMaxD X.K ta td) := by
  refine ⟨fun pins s σ H Q I h => ?_⟩
  refine wpAny_Call_Name_kw (ld_blt I hg hm hv ?_ (by decide) (by decide))
  refine PyProof.Rows.callWith_kw ?_ (by rw [he]; rfl) (by rw [he]; rfl)
  have hA : PA X [e] (tCons ta tNil) := pa_cons ha pa_nil he
  refine thn (hA.run pos pins s σ H (fun vs H1 => match vs with
    | [x] => td σ H1 fun y H2 => ∃ (a : Addr) (ns : List Int), x = V.ref a ∧ SqL X.K H2 a (ns.map V.int) ∧ (ns = [] → Q y H2) ∧ ∀ m, m ∈ ns → (∀ z, z ∈ ns → z ≤ m) → Q (.int m) H2
    | _ => False) I h) ?_
  rintro us s1 ⟨vs, H1, I1, r1, q1⟩
  match vs, us, r1, q1 with
  | [x], [u], r1, q1 =>
    refine PyProof.Rows.kws_cons ?_
    refine thn (hd.run pins s1 σ H1 _ I1 q1) ?_
    rintro u2 s2 ⟨y, H2, I2, r2, a, ns, rfl, hs, q0, qm⟩
    refine PyProof.Rows.kws_nil ?_
    have hu := Vals.ref1 r1
    rw [hu]
    obtain ⟨its, rv, hl, _⟩ := I2.list hs
    refine maxD_ints (I2.ok.hd hc) hl.isList rv.ints fun h' tk v hk hv => ?_
    rcases hv with ⟨rfl, rfl⟩ | ⟨m, t', rfl, h1, h2⟩
    · exact ⟨y, H2, I2.kept hk, r2, q0 rfl⟩
    · exact ⟨.int m, H2, I2.kept hk, ⟨_, rfl⟩, qm m h1 h2⟩
noncomputable abbrev dMaxD (f g : DTE) : DTE := fun ρ Q E => f ρ (fun x => g ρ (fun y => match x with
  | .lst xs => ∃ ns, intsD xs = some ns ∧ (ns = [] → Q y) ∧ ∀ m, m ∈ ns → (∀ z, z ∈ ns → z ≤ m) → Q (.int m)
  | _ => False) E) E
theorem de_maxD {e e2 : Expr} {f g : DTE} {p kp : Pos} (h : DE Xs mg Wx e f) (h' : DE Xs mg Wx e2 g) (hm : mg.mg "max" = none) (hv : bootBuiltins "max" = some (.builtin "max")) (hK : ∀ j, (Xs j).K = mg.K := by intro _; rfl) (hM : ∀ j, (Xs j).mg = mg.mg := by intro _; rfl)
    (hc : ∀ j, (Xs j).calm = true := by intro _; rfl) (hg : ∀ j, Gl (Xs j) "max" := by intro _; rfl) (hs : ∀ j, starEach [e] (Xs j).env = [(false, eval e (Xs j).env)] := by intro _; rfl) : DE Xs mg Wx (.Call (.Name "max" p) [e] [⟨some "default", e2, kp⟩] pos) (dMaxD f g) := by
  obtain ⟨t, h1, h2⟩ := h
  obtain ⟨u, g1, g2⟩ := h'
  refine ⟨tMaxD mg.K t u, fun j => by rw [← hK j]; exact pe_maxD (h1 j) (g1 j) (hc j) (hg j) (by rw [hM j]; exact hm) hv (hs j), fun B ρ Q E hf W σ H Q' hh e x q => ?_⟩
  refine h2 B ρ _ E hf W σ H _ hh e x fun W1 H1 v1 d1 s1 r1 k1 => ?_
  refine g2 B ρ _ E k1 W1 σ H1 _ s1.holds (e.step s1) (x.step s1) fun W2 H2 v2 d2 s2 r2 k2 => ?_
  have r3 := r1.mono s2.le
  obtain ⟨_, rfl, k2⟩ := lstOf k2
  obtain ⟨_, _, rfl, ha, ra⟩ := r3.lstI
  obtain ⟨ns, e1, q0, qm⟩ := k2
  refine ⟨_, ns, rfl, ?_, fun h0 => q W2 H2 _ _ (s1.trans s2) r2 (q0 h0), fun m h1 h2 => q W2 H2 _ _ (s1.trans s2) (.int m) (qm m h1 h2)⟩
  rw [← intsD_v ra e1]
  exact SqL.of (s2.holds.same _ _ ha)
end
end FP
/-! FP33: binary operators of own objects. -/
namespace FP
open PySem PyProof.Rows L2
end FP
/-! FP34: dicts walked (keys, values, items), d.get(k, x), dict(rows of pairs). -/
namespace FP
open PySem L2
variable [Tabl]
section
variable {ι : Type} {Xs : ι → Cx} {mg : Gm} {Wx : WX} {pos : Pos}
/-- a key as a datum -/
noncomputable def kD : Key → D
  | .inl i => .int i
  | .inr x => .str x
theorem kD_rep {W : Wd} : ∀ k : Key, Rep mg W (kV k) (kD k)
  | .inl i => .int i
  | .inr x => .str x
theorem pair_get {kvs : List (Key × V)} {ds : List (Key × D)} {W : Wd} (hk : kvs.map (·.1) = ds.map (·.1)) (rs : Reps mg W (kvs.map (·.2)) (ds.map (·.2))) {i : Nat} {k : Key} {v : V} (h : kvs[i]? = some (k, v)) : ∃ d, ds[i]? = some (k, d) ∧ Rep mg W v d := by
  have h2 : (kvs.map (·.2))[i]? = some v := by rw [List.getElem?_map, h]; rfl
  obtain ⟨d, h3, r⟩ := rs.getV h2
  rw [List.getElem?_map] at h3
  have h1 : (kvs.map (·.1))[i]? = some k := by rw [List.getElem?_map, h]; rfl
  rw [hk, List.getElem?_map] at h1
  cases q : ds[i]? with
  | none =>
    rw [q] at h3
    cases h3
  | some p =>
    rw [q] at h1 h3
    obtain ⟨k', d'⟩ := p
    cases h1
    cases h3
    exact ⟨_, rfl, r⟩
noncomputable abbrev dIKeys (f : DTE) : DTI := fun ρ Q E => f ρ (fun x => match x with
  | .dct kvs => Q (kvs.map fun kv => kD kv.1)
  | _ => False) E
theorem di_keys {tg e : Expr} {f : DTE} (h : DE Xs mg Wx e f) : DI Xs mg Wx tg e (dIKeys f) := by
  obtain ⟨t, h1, h2⟩ := h
  refine ⟨_, fun j => pi_keys (h1 j), fun B ρ Q E hf W σ H Q' hh e x q => h2 B ρ _ E hf W σ H _ hh e x fun W1 H1 v d s1 r1 k1 => ?_⟩
  obtain ⟨ds, rfl, k1⟩ := dctOf k1
  obtain ⟨a, o, kvs, rfl, ha, hk, rs⟩ := r1.dctI
  refine ⟨a, o, rfl, .inl ⟨kvs, s1.holds.same _ _ ha, q W1 H1 _ _ s1 ?_ k1⟩⟩
  have hl := len_keys hk
  intro W2 H2 le hh2
  have hd := hh2.same _ _ (le.h _ _ ha)
  refine ⟨fun i hi => ⟨hd, by rw [List.length_map] at hi; omega⟩, ⟨hd, by rw [List.length_map]; omega⟩, fun i x H3 hi y => ?_⟩
  obtain ⟨rfl, k, v, hkv, rfl⟩ := y
  obtain ⟨d, hd2, _⟩ := pair_get hk rs hkv
  exact ⟨W2, kD k, Step.refl hh2, by rw [List.getElem?_map, hd2]; rfl, kD_rep k⟩
noncomputable abbrev dIVals (f : DTE) : DTI := fun ρ Q E => f ρ (fun x => match x with
  | .dct kvs => Q (kvs.map (·.2))
  | _ => False) E
theorem di_vals {tg e : Expr} {f : DTE} {apos cpos : Pos} (h : DE Xs mg Wx e f) (hb : ∀ j, attributeBase e "values" (Xs j).env (eval e (Xs j).env) = eval e (Xs j).env := by intro _; rfl) (hl : (apos.endLine == cpos.line) = true := by rfl) : DI Xs mg Wx tg (.Call (.Attribute e "values" apos) [] [] cpos) (dIVals f) := by
  obtain ⟨t, h1, h2⟩ := h
  refine ⟨_, fun j => pi_values (h1 j) (hb j) hl, fun B ρ Q E hf W σ H Q' hh e x q => h2 B ρ _ E hf W σ H _ hh e x fun W1 H1 v d s1 r1 k1 => ?_⟩
  obtain ⟨ds, rfl, k1⟩ := dctOf k1
  obtain ⟨a, o, kvs, rfl, ha, hk, rs⟩ := r1.dctI
  refine ⟨a, o, kvs, rfl, s1.holds.same _ _ ha, q W1 H1 _ _ s1 ?_ k1⟩
  have hl := len_keys hk
  intro W2 H2 le hh2
  have hd := hh2.same _ _ (le.h _ _ ha)
  refine ⟨fun i hi => ⟨hd, by rw [List.length_map] at hi; omega⟩, ⟨hd, by rw [List.length_map]; omega⟩, fun i x H3 hi y => ?_⟩
  obtain ⟨rfl, k, hkv⟩ := y
  obtain ⟨d, hd2, r⟩ := pair_get hk rs hkv
  exact ⟨W2, d, Step.refl hh2, by rw [List.getElem?_map, hd2]; rfl, r.mono le⟩
noncomputable abbrev dIItems (f : DTE) : DTI := fun ρ Q E => f ρ (fun x => match x with
  | .dct kvs => Q (kvs.map fun kv => .tup [kD kv.1, kv.2])
  | _ => False) E
theorem di_items {e : Expr} {f : DTE} {apos cpos tpos : Pos} {elts : List Expr} {kk : Nat} (h : DE Xs mg Wx e f) (hb : ∀ j, attributeBase e "items" (Xs j).env (eval e (Xs j).env) = eval e (Xs j).env := by intro _; rfl) (hl : (apos.endLine == cpos.line) = true := by rfl) : DI Xs mg Wx (.Tuple elts kk tpos) (.Call (.Attribute e "items" apos) [] [] cpos) (dIItems f) := by
  obtain ⟨t, h1, h2⟩ := h
  refine ⟨_, fun j => pi_items (h1 j) (hb j) hl, fun B ρ Q E hf W σ H Q' hh e x q => h2 B ρ _ E hf W σ H _ hh e x fun W1 H1 v d s1 r1 k1 => ?_⟩
  obtain ⟨ds, rfl, k1⟩ := dctOf k1
  obtain ⟨a, o, kvs, rfl, ha, hk, rs⟩ := r1.dctI
  refine ⟨a, o, kvs, rfl, s1.holds.same _ _ ha, q W1 H1 _ _ s1 ?_ k1⟩
  have hl := len_keys hk
  intro W2 H2 le hh2
  have hd := hh2.same _ _ (le.h _ _ ha)
  refine ⟨fun i hi => ⟨hd, by rw [List.length_map] at hi; omega⟩, ⟨hd, by rw [List.length_map]; omega⟩, fun i x H3 hi y => ?_⟩
  obtain ⟨T, k, v, hkv, rfl, hT, rfl⟩ := y
  obtain ⟨d, hd2, r⟩ := pair_get hk rs hkv
  refine ⟨W2.put T (.tup [kV k, v]), .tup [kD k, d], Step.alloc hh2 hT, by rw [List.getElem?_map, hd2]; rfl, Rep.newTup (.cons (kD_rep k) (.cons (r.mono le) .nil)) (hh2.same.free hT)⟩
/-! ### d.get(k, x) -/
end
end FP
/-! FP35: a list comprehension whose element raises. -/
namespace FP
open PySem L2
/-! ### the comprehension: what is wanted of an error, with the frame known -/
/-! ### the block's context, with a wish about errors -/
end FP
/-! FP36: the list comprehension whose element raises, by data. -/
namespace FP
open PySem L2
end FP
/-! FP37: a lambda without parameters is made: the heap behind it, told exactly. -/
namespace FP
open PySem L2 LamX
variable [Tabl]
/-- the heap behind the making: the same, or with one entry more in the table and a new code object -/
noncomputable def Made (H : Hp) (P : Addr) (q : Str) (H1 : Hp) : Prop := H1 = H ∨ ∃ ps more c, H P = some (.tbl ps) ∧ H c = none ∧ H1 = upd (upd H P (.tbl (ps ++ more))) c (CodeO c q)
/-- the world is borne behind the making -/
theorem Made.step {W : Wd} {H H1 : Hp} {P : Addr} {q : Str} (hh : Holds W H) (mem : (P, q) ∈ Tabl.B) (m : Made H P q H1) (tabs : Tabs Tabl.B H1) : Step W H W H1 := by
  rcases m with rfl | ⟨ps, more, c, hP, nC, rfl⟩
  · exact Step.refl hh
  have tP : W.T P := (hh.tab _ mem).1
  have at' : ∀ b, b ≠ P → b ≠ c → upd (upd H P (.tbl (ps ++ more))) c (CodeO c q) b = H b := fun b h1 h2 => by rw [upd_ne h2, upd_ne h1]
  have atP : upd (upd H P (.tbl (ps ++ more))) c (CodeO c q) P = some (.tbl (ps ++ more)) := by rw [upd_ne (ne_of_none hP nC), upd_same]
  have nc : ∀ {b u}, H b = some u → b ≠ c := fun e => ne_of_none e nC
  have live : ∀ b o, H b = some o → ∃ o', upd (upd H P (.tbl (ps ++ more))) c (CodeO c q) b = some o' := fun b o e => by
    by_cases hb : b = P
    · rw [hb, atP]
      exact ⟨_, rfl⟩
    · rw [at' b hb (nc e)]
      exact ⟨o, e⟩
  have nP : ∀ b o, W.H b = some o → b ≠ P := fun b o e k => by
    rw [k, (hh.exm P tP).1] at e
    cases e
  refine ⟨Le.refl W, ⟨fun b o e => ?_, fun a t => ?_, fun a t => ?_, fun p hp => ⟨(hh.tab p hp).1, tabs p hp⟩, fun b qs e => ?_⟩, fun b o e nt => ?_, fun _ _ _ => rfl, fun _ t => .inl t, live⟩
  · rw [at' b (nP b o e) (nc (hh.same b o e))]
    exact hh.same b o e
  · obtain ⟨h1, o, h2⟩ := hh.exm a t
    exact ⟨h1, live a o h2⟩
  · obtain ⟨h1, x, y, z, h2⟩ := hh.tok a t
    have ne : a ≠ P := fun k => by
      rw [k, hP] at h2
      cases h2
    exact ⟨h1, x, y, z, by rw [at' a ne (nc h2)]; exact h2⟩
  · by_cases hb : b = P
    · exact ⟨q, by rw [hb]; exact mem⟩
    · by_cases hc : b = c
      · rw [hc, upd_same] at e
        exact absurd (Option.some.inj e) (codeO_ne _)
      · rw [at' b hb hc] at e
        exact hh.all b qs e
  · have ne : b ≠ P := fun k => nt (by rw [k]; exact tP)
    rw [at' b ne (nc e)]
    exact e
end FP
/-! FP38: x(lambda: e), where x calls what it got. -/
namespace FP
open PySem L2 LamX
variable [Tabl]
/-- the data of an environment alone -/
noncomputable def Sl.only : Sl → Sl
  | .d x => .d x
  | _ => .no
noncomputable abbrev dataE (ρ : Env) : Env := ρ.map Sl.only
theorem EnvR.data {mg : Gm} {B B' : Hp} {W W' : Wd} {H H' : Hp} {σ : St} {ρ : Env} (e : EnvR mg B W H σ ρ) (l : Le W W') : EnvR mg B' W' H' σ (dataE ρ) := by
  refine ⟨by simpa using e.len, fun i s h => ?_, fun i j xs ys o1 o2 a _ h1 _ _ _ m1 _ => ?_⟩
  · rw [List.getElem?_map] at h
    cases q : ρ[i]? with
    | none =>
      rw [q] at h
      cases h
    | some s0 =>
      rw [q] at h
      cases h
      obtain ⟨o, h1, h2⟩ := e.sl _ _ q
      refine ⟨o, h1, ?_⟩
      cases s0 with
      | d x =>
        obtain ⟨v, h3, h4⟩ := h2
        exact ⟨v, h3, h4.mono l⟩
      | _ => exact True.intro
  · rw [List.getElem?_map] at h1
    cases q : ρ[i]? with
    | none =>
      rw [q] at h1
      cases h1
    | some s0 =>
      rw [q] at h1
      cases h1
      cases s0 <;> cases m1
/-! ### what was got is called -/
/-! ### a def that calls what it got -/
end FP
/-! FP39: the end of a law whose defs make lambdas. -/
namespace FP
open PySem PySem.Spec PyProof.Rows L2 LamX
end FP
/-! FP40: dict(list of pairs); facts of operators and of exceptions. -/
namespace FP
open PySem L2
variable [Tabl]
section
variable {ι : Type} {Xs : ι → Cx} {mg : Gm} {Wx : WX} {pos : Pos}
noncomputable def pairsD : List D → Option (List (Key × D))
  | [] => some []
  | .tup [k, v] :: xs => match keyD k, pairsD xs with
    | some k, some r => some ((k, v) :: r)
    | _, _ => none
  | _ => none
noncomputable def mergeD (kvs more : List (Key × D)) : List (Key × D) := more.foldl (fun acc kv => putKD acc kv.1 kv.2) kvs
noncomputable def rdDictP : RDL := fun ds Q => match ds with
  | [.lst xs] => ∃ kvs, pairsD xs = some kvs ∧ Q (.dct (mergeD [] kvs))
  | _ => False
theorem pairsD_inv {d : D} {ds : List D} {kvs : List (Key × D)} (h : pairsD (d :: ds) = some kvs) : ∃ k v kk kr, d = .tup [k, v] ∧ keyD k = some kk ∧ pairsD ds = some kr ∧ kvs = (kk, v) :: kr := by
  cases d with
  | tup l =>
    cases l with
    | nil => cases h
    | cons k l =>
      cases l with
      | nil => cases h
      | cons v l =>
        cases l with
        | cons => cases h
        | nil =>
          have h : (match keyD k, pairsD ds with | some k, some r => some ((k, v) :: r) | _, _ => none) = some kvs := h
          cases hk : keyD k with
          | none => rw [hk] at h; cases h
          | some kk =>
            cases hp : pairsD ds with
            | none => rw [hk, hp] at h; cases h
            | some kr =>
              rw [hk, hp] at h
              exact ⟨k, v, kk, kr, rfl, hk, rfl, (Option.some.inj h).symm⟩
  | _ => cases h
theorem pairs_v {W : Wd} {H : Hp} (hh : Holds W H) : ∀ {xs : List D} {vs : List V} {kvs : List (Key × D)}, Reps mg W vs xs → pairsD xs = some kvs → ∃ (ps : List Addr) (us : List (Key × V)), vs = ps.map V.ref ∧ Paired (fun p kv => SqT mg.K H p [kV kv.1, kv.2]) ps us ∧ us.map (·.1) = kvs.map (·.1) ∧ Reps mg W (us.map (·.2)) (kvs.map (·.2)) := by
  intro xs
  induction xs with
  | nil =>
    intro vs kvs r e
    cases e
    cases r
    exact ⟨[], [], rfl, .nil, rfl, .nil⟩
  | cons d ds ih =>
    intro vs kvs r e
    obtain ⟨k, v, kk, kr, rfl, hk, hp, rfl⟩ := pairsD_inv e
    cases r with
    | cons r t =>
      obtain ⟨a, us, rfl, ha, rs⟩ := r.tupI
      cases rs with
      | @cons x _ _ _ rk rs =>
        cases rs with
        | @cons y _ _ _ rv rs =>
          cases rs
          obtain ⟨ps, us, h1, h2, h3, h4⟩ := ih t hp
          have ek := keyD_v rk hk
          subst ek
          exact ⟨a :: ps, (kk, y) :: us, by rw [h1]; rfl, .cons (SqT.of (hh.same _ _ ha)) h2, by rw [List.map_cons, List.map_cons, h3], .cons rv h4⟩
theorem merge_v {W : Wd} : ∀ {us : List (Key × V)} {kvs : List (Key × D)} {us0 : List (Key × V)} {kvs0 : List (Key × D)}, us.map (·.1) = kvs.map (·.1) → Reps mg W (us.map (·.2)) (kvs.map (·.2)) → us0.map (·.1) = kvs0.map (·.1) → Reps mg W (us0.map (·.2)) (kvs0.map (·.2)) →
    (mergeK us0 us).map (·.1) = (mergeD kvs0 kvs).map (·.1) ∧ Reps mg W ((mergeK us0 us).map (·.2)) ((mergeD kvs0 kvs).map (·.2))
  | [], [], _, _, _, _, h3, h4 => ⟨h3, h4⟩
  | (k, v) :: us, (k', d) :: kvs, _, _, h1, h2, h3, h4 => by
    rw [List.map_cons, List.map_cons] at h1
    injection h1 with e1 e2
    have e1 : k = k' := e1
    subst e1
    cases h2 with
    | cons r t =>
      obtain ⟨g1, g2⟩ := put_rep (k := k) h3 h4 r
      exact merge_v (us := us) (kvs := kvs) (us0 := putK _ k v) (kvs0 := putKD _ k d) e2 t g1 g2
  | [], _ :: _, _, _, h1, _, _, _ => by cases h1
  | _ :: _, [], _, _, h1, _, _, _ => by cases h1
theorem cr_dictP {X : Cx} {K : PySem.W.Frag} (h : X.K = K) (hc : X.calm = true) : CallR X (.type "dict") (fun xs H Q => ∃ (a : Addr) (ps : List Addr) (kvs : List (Key × V)), xs = [.ref a] ∧ SqL K H a (ps.map V.ref) ∧ Paired (fun p kv => SqT K H p [kV kv.1, kv.2]) ps kvs ∧
    ∀ p, H p = none → Q (.ref p) (upd H p (.dK (mergeK [] kvs)))) := by
  subst h
  exact call_dictP hc
theorem de_dictP {p : Pos} {e : Expr} {f : DTE} (h : DE Xs mg Wx e f) (hm : mg.mg "dict" = none) (hv : bootBuiltins "dict" = some (.type "dict")) (hK : ∀ j, (Xs j).K = mg.K := by intro _; rfl) (hM : ∀ j, (Xs j).mg = mg.mg := by intro _; rfl) (hc : ∀ j, (Xs j).calm = true := by intro _; rfl) (hg : ∀ j, Gl (Xs j) "dict" := by intro _; rfl)
    (he : ∀ i, starEach [e] (Xs i).env = (false, eval e (Xs i).env) :: starEach [] (Xs i).env := by intro _; rfl) : DE Xs mg Wx (.Call (.Name "dict" p) [e] [] pos) (dCB rdDictP (dCons f dNil)) := by
  obtain ⟨t, h1, h2⟩ := da_cons h da_nil he
  refine ⟨_, fun i => pe_lk (pe_callTy (cr_dictP (hK i) (hc i)) (hg i) (by rw [hM i]; exact hm) hv (h1 i) (by decide) (by decide) (he i) rfl), ?_⟩
  intro B ρ Q E hf W σ H Q' hh en x q
  refine h2 B ρ _ E hf W σ H _ hh en x fun W1 H1 vs ds s1 r1 k1 => ?_
  cases r1 with
  | nil => exact False.elim k1
  | cons r rs0 =>
    cases r with
    | @lst a us _ ha rs =>
     cases rs0 with
     | cons => exact False.elim k1
     | nil =>
      obtain ⟨kvs, hk, k2⟩ := k1
      obtain ⟨ps, ws, g1, g2, g3, g4⟩ := pairs_v s1.holds rs hk
      refine ⟨a, ps, ws, rfl, by rw [← g1]; exact SqL.of (s1.holds.same _ _ ha), g2, fun p n => ⟨p, _, rfl, upd_same, True.intro, fun od => ?_⟩⟩
      rw [upd_upd]
      obtain ⟨m1, m2⟩ := merge_v (us0 := []) (kvs0 := []) g3 g4 rfl .nil
      exact q _ _ _ _ (s1.trans (Step.alloc s1.holds n)) (Rep.newDct m1 m2 (s1.holds.same.free n)) k2
    | _ => exact False.elim k1
/-- one of two readings of an operator -/
theorem OpOk.or {f : Value → Value → Sem Value} {rd rd' : RD2} (a : OpOk Xs mg f rd) (b : OpOk Xs mg f rd') : OpOk Xs mg f (fun x y Q => rd x y Q ∨ rd' x y Q) := by
  obtain ⟨r, a1, a2⟩ := a
  obtain ⟨r', b1, b2⟩ := b
  refine ⟨fun x y H Q => r x y H Q ∨ r' x y H Q, fun i pins s σ H x y v u Q I rx ry h => ?_, fun W H x y dx dy Q Q' hh rx ry h q => ?_⟩
  · rcases h with h | h
    · exact a1 i pins s σ H x y v u Q I rx ry h
    · exact b1 i pins s σ H x y v u Q I rx ry h
  · rcases h with h | h
    · exact .inl (a2 W H x y dx dy Q Q' hh rx ry h q)
    · exact .inr (b2 W H x y dx dy Q Q' hh rx ry h q)
/-! ### facts of operators -/
end
/-! ### facts of exceptions -/
theorem veB : ExcBaseFacts "ValueError" "ValueError.__new__" "ValueError.__init__" veBm := PySem.F.excBase_ValueError
theorem InitOk.imp {P : Program} {w : World} {mg : Gm} {base : Heap} {k n : Nat} {c : Str} {C : Addr} {f f' : List D → ((List (Str × D)) → Prop) → (XD → Prop) → Prop} (G : InitOk P w mg base k c C n f) (h : ∀ ds Q E, f' ds Q E → f ds Q E) : InitOk P w mg base k c C n f' := by
  obtain ⟨fa, fd, ps, h1, h2, h3, F⟩ := G.ex
  refine ⟨fa, fd, ps, h1, h2, h3, F.imp ?_⟩
  rintro vs H Q E ⟨W, ds, us, H1, x, dx, Qd, Ed, g1, g2, g3, g4, g5, g6, g7, g8, g9, g10⟩
  exact ⟨W, ds, us, H1, x, dx, Qd, Ed, g1, g2, g3, g4, g5, g6, g7, g8, h _ _ _ g9, g10⟩
end FP
/-! FP41: displays of dicts. -/
namespace FP
open PySem L2
variable [Tabl]
section
variable {ι : Type} {Xs : ι → Cx} {mg : Gm} {Wx : WX} {pos : Pos}
noncomputable abbrev DTP := Env → M (List (Key × D))
noncomputable def CpPs (mg : Gm) (Wx : WX) (trs : List (TE × TE)) (f : DTP) : Prop := ∀ B ρ Q E, f ρ Q E → ∀ W σ H Q', Holds W H → EnvR mg B W H σ ρ → ExR mg Wx W H σ E →
  (∀ W' H' (kvs : List (Key × V)) (ds : List (Key × D)), Step W H W' H' → kvs.map (·.1) = ds.map (·.1) → Reps mg W' (kvs.map (·.2)) (ds.map (·.2)) → Q ds → Q' (kvs.map fun kv => (kV kv.1, kv.2)) H') → tPairs trs σ H Q'
noncomputable def DPs (Xs : ι → Cx) (mg : Gm) (Wx : WX) (pos : Pos) (ks : List (Option Expr)) (vs : List Expr) (f : DTP) : Prop := ∃ trs, (∀ i, PPs (Xs i) pos ks vs trs) ∧ CpPs mg Wx trs f
noncomputable abbrev dPn : DTP := fun _ Q _ => Q []
noncomputable abbrev dPc (fk fv : DTE) (g : DTP) : DTP := fun ρ Q E => fk ρ (fun x => fv ρ (fun y => ∃ k, keyD x = some k ∧ g ρ (fun r => Q ((k, y) :: r)) E) E) E
theorem dps_nil : DPs Xs mg Wx pos [] [] dPn := ⟨[], fun _ => pps_nil, fun B ρ Q E h W σ H Q' hh _ _ q => q W H [] [] (Step.refl hh) rfl .nil h⟩
theorem dps_cons {k v : Expr} {ks : List (Option Expr)} {vs : List Expr} {fk fv : DTE} {g : DTP} (hk : DE Xs mg Wx k fk) (hv : DE Xs mg Wx v fv) (hr : DPs Xs mg Wx pos ks vs g) : DPs Xs mg Wx pos (some k :: ks) (v :: vs) (dPc fk fv g) := by
  obtain ⟨tk, a1, a2⟩ := hk
  obtain ⟨tv, b1, b2⟩ := hv
  obtain ⟨trs, c1, c2⟩ := hr
  refine ⟨_, fun i => pps_cons (a1 i) (b1 i) (c1 i), fun B ρ Q E hf W σ H Q' hh e x q => ?_⟩
  refine a2 B ρ _ E hf W σ H _ hh e x fun W1 H1 v1 d1 s1 r1 k1 => ?_
  refine b2 B ρ _ E k1 W1 σ H1 _ s1.holds (e.step s1) (x.step s1) fun W2 H2 v2 d2 s2 r2 k2 => ?_
  obtain ⟨kk, hkk, k3⟩ := k2
  have s12 := s1.trans s2
  refine c2 B ρ _ E k3 W2 σ H2 _ s2.holds (e.step s12) (x.step s12) fun W3 H3 kvs ds s3 h1 h2 k4 => ?_
  have ek := keyD_v r1 hkk
  subst ek
  exact q W3 H3 ((kk, v2) :: kvs) ((kk, d2) :: ds) (s12.trans s3) (by rw [List.map_cons, List.map_cons, h1]) (.cons (r2.mono s3.le) h2) k4
noncomputable abbrev dDisp (g : DTP) : DTE := fun ρ Q E => g ρ (fun kvs => kvs.length ≤ 15 ∧ Q (.dct (mergeD [] kvs))) E
theorem de_disp {ks : List (Option Expr)} {vs : List Expr} {g : DTP} (h : DPs Xs mg Wx pos ks vs g) (hall : ks.all (·.isSome) = true := by rfl) (hl : ks.length = vs.length := by rfl) (h0 : ks ≠ [] := by intro h; cases h) (h15 : ks.length ≤ 15 := by decide) : DE Xs mg Wx (.Dict ks vs pos) (dDisp g) := by
  obtain ⟨trs, h1, h2⟩ := h
  refine ⟨_, fun i => pe_lk (pe_disp (h1 i) hall hl h0 h15), ?_⟩
  intro B ρ Q E hf W σ H Q' hh e x q p hp
  have s0 := Step.lay hh hp (o := .dK [])
  refine h2 B ρ _ E hf W σ (upd H p (.dK [])) _ s0.holds (e.step s0) (x.step s0) fun W' H' kvs ds s1 hk hr ⟨hn, k2⟩ => ?_
  obtain ⟨c1, c2, c3⟩ := s1.mine (a := p) upd_same (hh.same.free hp) (hh.nT hp)
  refine ⟨c1, kvs, rfl, by rw [len_keys hk]; exact hn, p, _, rfl, upd_same, True.intro, fun od => ?_⟩
  rw [upd_upd]
  obtain ⟨m1, m2⟩ := merge_v (us0 := []) (kvs0 := []) hk hr rfl .nil
  exact q _ _ _ _ (((s0.trans s1).own hp c1 c2 c3).taken hp upd_same c2 c3) (Rep.newDct m1 m2 c2) k2
end
end FP
/-! FP42: own exceptions with one field: made and raised; several except clauses, with and without a name; the field read. -/
namespace PySem
end PySem
namespace FP
open PySem L2
end FP
/-! FP43: try with several except clauses, with and without a name; the field of the error read. -/
namespace FP
open PySem PySem.Spec PyProof.Rows L2
/-- a clause: its class, its name's place, its suite's reading -/
structure Cl where
  c : Value
  i : Option Nat
  ts : Addr → Value → Option Addr → TS
noncomputable def Cl.slots (k : Cl) (a : Addr) (σ : L2.St) : L2.St := match k.i with
  | none => σ
  | some i => σ.set i (some (.ref a))
variable [Tabl]
/-! ### by data -/
end FP
/-! FP44: zip of lists and tuples, in any mixture. -/
namespace FP
open PySem PySem.Spec PyProof.Rows L2
/-- a list or a tuple -/
inductive Sd where
  | l | t
noncomputable def Sd.sq (K : PySem.W.Frag) (H : Hp) (a : Addr) (xs : List V) : Sd → Prop
  | .l => SqL K H a xs
  | .t => SqT K H a xs
noncomputable def Sd.is (h : Heap) (a : Addr) (its : Array Value) : Sd → Prop
  | .l => h.IsList a its
  | .t => h.IsTuple a its
noncomputable def Sd.ob (a : Addr) : Sd → Obj
  | .l => { cls := .type "list_iterator", data := .fields #[.ref a, .int 0 0] }
  | .t => { cls := .type "tuple_iterator", data := .fields #[.ref a, .int 0 0] }
theorem Sd.look {X : Cx} {pins : List (Addr × Obj)} {σ : L2.St} {H : Hp} {z : Shared} {a : Addr} {xs : List V} {s : Sd} (I : Inv X pins σ H z) (q : s.sq X.K H a xs) : ∃ its : List Value, Vals xs its ∧ s.is z.heap a its.toArray := by
  cases s with
  | l =>
    obtain ⟨its, rv, p, _⟩ := I.list q
    exact ⟨its, rv, p.isList⟩
  | t =>
    obtain ⟨its, rv, p, _⟩ := I.tuple q
    exact ⟨its, rv, p⟩
theorem Sd.inj {X : Cx} {pins : List (Addr × Obj)} {σ : L2.St} {H : Hp} {z : Shared} {a : Addr} {xs ys : List V} {s : Sd} (I : Inv X pins σ H z) (p : s.sq X.K H a xs) (q : s.sq X.K H a ys) : xs = ys := by
  cases s with
  | l => exact I.list_inj p q
  | t => exact I.tuple_inj p q
variable [Tabl]
end FP
/-! FP45: list(zip(a, b)), a and b lists or tuples. -/
namespace PySem.ZipL
open PySem PySem.W PySem.Calls PyProof.Rows
end PySem.ZipL
/-! FP46: list(zip(a, b)) by data. -/
namespace FP
open PySem PySem.Spec PyProof.Rows L2
end FP
/-! FP47: facts of own exceptions, by their built-in bases. -/
namespace FP
open PySem L2
variable [Tabl]
/-! ### the end of a law: facts by the written part -/
theorem cat_of {K : PySem.W.Frag} {mg : Str → Option Value} {x : Str} {C : Addr} (h1 : mg x = some (.ref C)) (h2 : PySem.W.isClsIn K C = true) (h3 : PySem.W.typeIn K (.ref C) = some (.type "type")) (h4 : PySem.W.subIn K (.ref C) (.type "BaseException") = some true) (h5 : PySem.W.subIn K (.ref C) (.ref C) = some true) : CatF ⟨mg, K⟩ (.ref C) [x] (fun _ => true) := ⟨fun y hy => by
  rw [List.mem_singleton] at hy
  subst hy
  refine ⟨C, h1, ?_⟩
  show PySem.W.exmOne K (.ref C) (.ref C) = some true
  unfold PySem.W.exmOne PySem.W.kitCls
  unfold PySem.W.isClsIn at h2
  simp [h2, h3, h4, h5]⟩
theorem CatF.none {mg : Gm} {c : Value} {yes : Str → Bool} : CatF mg c [] yes := ⟨fun _ h => absurd h List.not_mem_nil⟩
theorem CatF.cons {mg : Gm} {c : Value} {cs : List Str} {yes : Str → Bool} {x : Str} {C : Addr} {b : Bool} (h1 : mg.mg x = some (.ref C)) (h2 : PySem.W.exmOne mg.K (.ref C) c = some b) (h3 : yes x = b) (r : CatF mg c cs yes) : CatF mg c (x :: cs) yes := ⟨fun y hy => by
  rcases List.mem_cons.mp hy with e | hy
  · subst e
    exact ⟨C, h1, by rw [h2, h3]⟩
  · exact r.cl y hy⟩
end FP
/-! FP48: list(d.items()). -/
namespace FP
open PySem PySem.Spec PyProof.Rows L2
/-- several new objects -/
noncomputable def updL (H : Hp) : List (Addr × HO) → Hp
  | [] => H
  | p :: r => updL (upd H p.1 p.2) r
theorem updL_out : ∀ {ps : List (Addr × HO)} {H : Hp} {b : Addr}, b ∉ ps.map (·.1) → updL H ps b = H b
  | [], _, _, _ => rfl
  | p :: r, H, b, h => by
    rw [List.map_cons, List.mem_cons, not_or] at h
    rw [updL, updL_out h.2, upd_ne h.1]
theorem updL_in : ∀ {ps : List (Addr × HO)} {H : Hp} {p : Addr × HO}, (ps.map (·.1)).Nodup → p ∈ ps → updL H ps p.1 = some p.2
  | q :: r, H, p, nd, h => by
    rw [List.map_cons, List.nodup_cons] at nd
    rw [updL]
    rcases List.mem_cons.mp h with e | h
    · rw [e, updL_out nd.1, upd_same]
    · exact updL_in nd.2 h
theorem inv_laids {X : Cx} {pins : List (Addr × Obj)} {σ : L2.St} {H : Hp} {s : Shared} {h' : Heap} {t' : Nat} {ps : List (Addr × HO)} (I : Inv X pins σ H s) (k : ∀ b u, s.heap.get? b = some u → h'.get? b = some u) (hp : ∀ p ∈ ps, s.heap.objs.size ≤ p.1) (nd : (ps.map (·.1)).Nodup)
    (new : ∀ p ∈ ps, ObjOk X.prog X.w (updL H ps) h' p.1 p.2) : Inv X pins σ (updL H ps) { s with heap := h', toks := t' } := by
  have old : ∀ b, b < s.heap.objs.size → b ∉ ps.map (·.1) := fun b lt hm => by
    obtain ⟨p, hpm, rfl⟩ := List.mem_map.mp hm
    exact Nat.lt_irrefl _ (Nat.lt_of_lt_of_le lt (hp p hpm))
  have inH : ∀ {b u}, H b = some u → b ∉ ps.map (·.1) := fun {b u} e hm => by
    obtain ⟨p, hpm, rfl⟩ := List.mem_map.mp hm
    rw [I.hok.fresh (hp p hpm)] at e
    cases e
  have same : ∀ {b u}, H b = some u → updL H ps b = some u := fun {b u} e => (updL_out (inH e)).trans e
  refine I.un (t' := t') {
    keep := fun b u q _ _ _ => k b u q
    slot := fun b u q _ _ _ => ⟨u.slots, k b u q⟩
    free := fun b u q n _ => (updL_out (old b (Heap.lt_size q))).trans n
    there := fun b u q _ => ⟨u, k b u q⟩
    tups := fun b xs q => same q
    frzs := fun b u xs q => same q
    tbls := fun b ps q => ⟨#[], by rw [same q]; simp⟩ } fun b u e => ?_
  by_cases hb : b ∈ ps.map (·.1)
  · obtain ⟨p, hpm, rfl⟩ := List.mem_map.mp hb
    rw [updL_in nd hpm] at e
    cases e
    exact new p hpm
  · rw [updL_out hb] at e
    exact (I.hok b u e).stay (fun c v _ q => k c v q) (fun c q => same q) fun c xs q => same q
/-- what is asked of the new pairs and the list of them -/
noncomputable def LiW (kvs : List (Key × V)) (H : Hp) (Q : VK) : Prop :=
  ∀ (as : List Addr) (S : Addr), as.length = kvs.length → as.Nodup → S ∉ as → (∀ a ∈ as, H a = none) → H S = none → Q (.ref S) (updL H (List.zipWith (fun a (p : Key × V) => (a, HO.tup [kV p.1, p.2])) as kvs ++ [(S, .lst (as.map V.ref))]))
noncomputable def tLi (td : TE) : TE := fun σ H Q => td σ H fun x H1 => ∃ d o kvs, x = .ref d ∧ H1 d = some (.frz o (.dK kvs)) ∧ kvs.length ≤ sizeLine ∧ LiW kvs H1 Q
theorem zw_keys {as : List Addr} : ∀ {kvs : List (Key × V)}, as.length = kvs.length → (List.zipWith (fun a (p : Key × V) => (a, HO.tup [kV p.1, p.2])) as kvs).map (·.1) = as := by
  induction as with
  | nil => intro kvs _; rfl
  | cons a as ih =>
    intro kvs h
    cases kvs with
    | nil => cases h
    | cons p kvs => rw [List.zipWith_cons_cons, List.map_cons, ih (Nat.succ.inj h)]
theorem vals_refs : ∀ as : List Addr, Vals (as.map V.ref) (as.map Value.ref)
  | [] => .nil
  | a :: as => .cons (show L2.RelV (.ref a) (.ref a) from rfl) (vals_refs as)
theorem pe_li {X : Cx} {e : Expr} {td : TE} {p apos cpos pos : Pos} (hc : X.calm = true) (hg : Gl X "list") (hm : X.mg "list" = none) (he : PE X e td) (hbase : attributeBase e "items" X.env (eval e X.env) = eval e X.env) (hline : (apos.endLine == cpos.line) = true) :
    PE X (.Call (.Name "list" p) [.Call (.Attribute e "items" apos) [] [] cpos] [] pos) (tLi td) := by
  constructor
  intro pins s σ H Q I h
  refine Call_ (ld_blt I hg hm (by decide +kernel : bootBuiltins "list" = some (.type "list")) ?_)
  refine PyProof.Rows.callWith_type1 (PyProof.Rows.args_cons ?_ rfl) rfl rfl
  refine wpAny_Call_method (T := "dict") (id := "dict.items") hbase rfl hline F.plainAttrs_dict F.slot_dict_items F.type_dict_items (thn (he.run pins _ σ H _ (I.tok _) h) fun u s1 ⟨x, H1, I1, rx, d, o, kvs, ex, hd, hn, q⟩ => ?_)
  subst ex
  obtain rfl : u = Value.ref d := rx
  obtain ⟨hs, hgd, hx, es, ep, vs, hdt, hsz, kv, hma⟩ := I1.frzK hd
  have hl : kvs.length = vs.length := Paired.length kv
  refine ⟨hma.dictOf.typeIs, hma.dictOf.mapOf.noDict, ?_⟩
  have I2 : Inv X pins σ H1 { s1 with heap := s1.heap.push { cls := .type "dict_items", data := .fields #[.ref d] } } := I1.kept (t' := s1.toks) fun b ob q => Heap.get?_push_of_some _ q
  show wpAny _ _ (callWith cpos (.builtin "dict.items") [.ref d] [] []) _ X.xe s1
  refine method_meetsIn F.slot_dict_items F.entry_dict_items rfl (PySem.evalArgs_none ⟨rfl, hma.dictOf.typeIs, F.args_dict_items_1 _, _, meets_dict_items (mixKind X.prog X.w) d hs, ⟨vs, hma.dictOf⟩, ?_⟩)
  refine PyProof.Rows.args_nil ?_
  refine PySem.W.kdx_call (knd := mixKind X.prog X.w) (d := d) (kvs := vs) (ep := ep) (I.ok.hd hc) ⟨_, Heap.get?_push_size _ rfl, rfl, rfl⟩ (hma.push _) (by rw [← hl]; exact hn) fun h' tk acc c as hk hS las G hacc => ?_
  have nd : as.Nodup := G.rise.imp fun h => Nat.ne_of_lt h
  have lal : as.length = kvs.length := las.trans hl.symm
  have above : ∀ a ∈ as, (s1.heap.push { cls := .type "dict_items", data := .fields #[.ref d] }).objs.size < a := G.above
  have nS : (s1.heap.push { cls := .type "dict_items", data := .fields #[.ref d] }).objs.size ∉ as := fun hm => Nat.lt_irrefl _ (above _ hm)
  have ek : (List.zipWith (fun a (p : Key × V) => (a, HO.tup [kV p.1, p.2])) as kvs ++ [((s1.heap.push { cls := .type "dict_items", data := .fields #[.ref d] }).objs.size, HO.lst (as.map V.ref))]).map (·.1) = as ++ [(s1.heap.push { cls := .type "dict_items", data := .fields #[.ref d] }).objs.size] := by
    rw [List.map_append, zw_keys lal]
    rfl
  have J := inv_laids I2 (t' := tk) (h' := h') (ps := List.zipWith (fun a (p : Key × V) => (a, HO.tup [kV p.1, p.2])) as kvs ++ [((s1.heap.push { cls := .type "dict_items", data := .fields #[.ref d] }).objs.size, HO.lst (as.map V.ref))]) hk (fun p hp => ?_) (by rw [ek]; exact List.nodup_append.mpr ⟨nd, by simp, fun a ha b hb e => by rw [List.mem_singleton] at hb; rw [hb] at e; exact nS (e ▸ ha)⟩) (fun p hp => ?_)
  · exact ⟨V.ref _, _, J, rfl, q as _ lal nd nS (fun a ha => I2.hok.fresh (Nat.le_of_lt (above a ha))) (I2.hok.fresh (Nat.le_refl _))⟩
  · rcases List.mem_append.mp hp with hp | hp
    · have hm2 : p.1 ∈ as := by
        rw [← zw_keys (as := as) (kvs := kvs) lal]
        exact List.mem_map.mpr ⟨p, hp, rfl⟩
      exact Nat.le_of_lt (above _ hm2)
    · rw [List.mem_singleton] at hp
      rw [hp]
      exact Nat.le_refl _
  · rcases List.mem_append.mp hp with hp | hp
    · obtain ⟨j, hj⟩ := List.mem_iff_getElem?.mp hp
      rw [List.getElem?_zipWith] at hj
      cases ha : as[j]? with
      | none =>
        rw [ha] at hj
        cases hj
      | some a =>
        cases hkv : kvs[j]? with
        | none =>
          rw [ha, hkv] at hj
          cases hj
        | some kx =>
          rw [ha, hkv] at hj
          cases hj
          obtain ⟨k, v⟩ := kx
          obtain ⟨key, k2, x, e1, e2, e3⟩ := G.pairs j a ha
          obtain ⟨u, hu, ru⟩ := kv_get kv hkv
          rw [hu] at e1
          cases e1
          exact ⟨by show 2 ≤ sizeLine; decide, [key, x], .cons (relV_key (show keyIs k key = true from e2)) (.cons ru .nil), ⟨_, e3, rfl, _, rfl⟩⟩
    · rw [List.mem_singleton] at hp
      rw [hp]
      refine ⟨by rw [List.length_map, lal]; exact hn, as.map Value.ref, c, vals_refs as, ?_⟩
      have ea : acc = (as.map Value.ref).toArray := by rw [← hacc]
      rw [ea] at hS
      exact hS
variable [Tabl]
section
variable {ι : Type} {Xs : ι → Cx} {mg : Gm} {Wx : WX} {pos : Pos}
noncomputable abbrev dLi (f : DTE) : DTE := fun ρ Q E => f ρ (fun x => match x with
  | .dct kvs => kvs.length ≤ sizeLine ∧ Q (.lst (kvs.map fun kv => .tup [kD kv.1, kv.2]))
  | _ => False) E
theorem laid_reps : ∀ (as : List Addr) {W : Wd} {H : Hp} (hh : Holds W H) {kvs : List (Key × V)} {ds : List (Key × D)}, as.length = kvs.length → as.Nodup → (∀ a ∈ as, H a = none) → kvs.map (·.1) = ds.map (·.1) → Reps mg W (kvs.map (·.2)) (ds.map (·.2)) →
    ∃ W', Step W H W' (updL H (List.zipWith (fun a (p : Key × V) => (a, HO.tup [kV p.1, p.2])) as kvs)) ∧ Reps mg W' (as.map V.ref) (ds.map fun kv => .tup [kD kv.1, kv.2]) := by
  intro as
  induction as with
  | nil =>
    intro W H hh kvs ds hl _ _ he _
    cases kvs with
    | cons => cases hl
    | nil =>
      cases ds with
      | cons => cases he
      | nil => exact ⟨W, Step.refl hh, .nil⟩
  | cons a as ih =>
    intro W H hh kvs ds hl nd fr he hr
    cases kvs with
    | nil => cases hl
    | cons p kvs =>
      cases ds with
      | nil => cases he
      | cons q ds =>
        obtain ⟨k, v⟩ := p
        obtain ⟨k', d⟩ := q
        rw [List.nodup_cons] at nd
        rw [List.map_cons, List.map_cons] at he hr
        obtain ⟨e1, he2⟩ := List.cons.inj he
        have e1 : k = k' := e1
        subst e1
        cases hr with
        | cons r1 rs =>
          have hA := fr a List.mem_cons_self
          have sA := Step.alloc (o := .tup [kV k, v]) hh hA
          have rT : Rep mg (W.put a (.tup [kV k, v])) (.ref a) (.tup [kD k, d]) := Rep.newTup (.cons (kD_rep k) (.cons r1 .nil)) (hh.same.free hA)
          obtain ⟨W', s', r'⟩ := ih sA.holds (Nat.succ.inj hl) nd.2 (fun b hb => by
            have ne : b ≠ a := fun e => nd.1 (by rw [← e]; exact hb)
            rw [upd_ne ne]
            exact fr b (List.mem_cons_of_mem _ hb)) he2 (rs.mono sA.le)
          exact ⟨W', sA.trans s', .cons (rT.mono s'.le) r'⟩
theorem updL_app (H : Hp) : ∀ (ps qs : List (Addr × HO)), updL H (ps ++ qs) = updL (updL H ps) qs
  | [], _ => rfl
  | p :: ps, qs => by rw [List.cons_append, updL, updL, updL_app _ ps qs]
theorem de_li {e : Expr} {f : DTE} {p apos cpos : Pos} (hm : mg.mg "list" = none) (h : DE Xs mg Wx e f) (hM : ∀ j, (Xs j).mg = mg.mg := by intro _; rfl) (hc : ∀ j, (Xs j).calm = true := by intro _; rfl) (hg : ∀ j, Gl (Xs j) "list" := by intro _; rfl)
    (hb : ∀ j, attributeBase e "items" (Xs j).env (eval e (Xs j).env) = eval e (Xs j).env := by intro _; rfl) (hl : (apos.endLine == cpos.line) = true := by rfl) : DE Xs mg Wx (.Call (.Name "list" p) [.Call (.Attribute e "items" apos) [] [] cpos] [] pos) (dLi f) := by
  obtain ⟨t, h1, h2⟩ := h
  refine ⟨_, fun j => pe_li (hc j) (hg j) (by rw [hM j]; exact hm) (h1 j) (hb j) hl, fun B ρ Q E hf W σ H Q' hh e x q => h2 B ρ _ E hf W σ H _ hh e x fun W1 H1 v d s1 r1 k1 => ?_⟩
  obtain ⟨ds, rfl, k1⟩ := dctOf k1
  obtain ⟨a, o, kvs, rfl, ha, hk, rs⟩ := r1.dctI
  have ln := len_keys hk
  refine ⟨a, o, kvs, rfl, s1.holds.same _ _ ha, by rw [ln]; exact k1.1, fun as S hl2 nd nS fr fS => ?_⟩
  obtain ⟨W2, s2, r2⟩ := laid_reps _ s1.holds hl2 nd fr hk rs
  rw [updL_app]
  have fS2 : updL H1 (List.zipWith (fun a (p : Key × V) => (a, HO.tup [kV p.1, p.2])) as kvs) S = none := by
    rw [updL_out (by rw [zw_keys hl2]; exact nS)]
    exact fS
  have sL := Step.alloc (o := .lst (as.map V.ref)) s2.holds fS2
  exact q _ _ _ _ ((s1.trans s2).trans sL) (Rep.newLst r2 (s2.holds.same.free fS2)) k1.2
end
end FP
/-! FP49: text.count(text). -/
namespace FP
open PySem PySem.Spec PyProof.Rows L2
end FP
/-! FP50: isinstance with a built-in class, of data that may be an object of the text. -/
namespace FP
open PySem PySem.Spec PyProof.Rows L2
variable [Tabl]
structure IsbF (mg : Gm) (T : String) (cs : List Str) : Prop where
  cl : ∀ c ∈ cs, ∃ C, ClsF mg c C ∧ PySem.W.kitOne mg.K (.ref C) (.type T) = some false
theorem isb_nil {mg : Gm} {T : String} : IsbF mg T [] := ⟨fun _ h => (List.not_mem_nil h).elim⟩
theorem isb_cons {mg : Gm} {T : String} {c : Str} {C : Addr} {cs : List Str} (F : ClsF mg c C) (km : PySem.W.kitMeta T = true) (h : PySem.W.subIn mg.K (.ref C) (.type T) = some false) (r : IsbF mg T cs) : IsbF mg T (c :: cs) := by
  refine ⟨fun x hx => ?_⟩
  rcases List.mem_cons.mp hx with rfl | q
  · refine ⟨C, F, ?_⟩
    unfold PySem.W.kitOne
    have e : ((Value.ref C) == (Value.type T)) = false := rfl
    rw [e, if_neg Bool.false_ne_true]
    show (if PySem.W.kitMeta T = true then PySem.W.subIn mg.K (.ref C) (.type T) else none) = _
    rw [if_pos km, h]
  · exact r.cl x q
noncomputable def isiC (n : String) (cs : List Str) (x : D) (Q : D → Prop) : Prop := match x with
  | .ins c _ => c ∈ cs ∧ Q (.bl false)
  | _ => match tyName x with
    | some m => ∃ b, kitB m n = some b ∧ Q (.bl b)
    | none => False
noncomputable abbrev dIsiC (n : String) (cs : List Str) (f : DTE) : DTE := fun ρ Q E => f ρ (fun x => isiC n cs x Q) E
section
variable {ι : Type} {Xs : ι → Cx} {mg : Gm} {Wx : WX} {pos : Pos}
theorem de_isiC {e : Expr} {f : DTE} {T : Str} {n : String} {cs : List Str} {p p2 : Pos} (h : DE Xs mg Wx e f) (hm : mg.mg "isinstance" = none) (hmT : mg.mg T = none) (K : IsbF mg n cs) (hT : bootBuiltins T = some (.type n)) (hv : bootBuiltins "isinstance" = some (.builtin "isinstance"))
    (hK : ∀ j, (Xs j).K = mg.K := by intro _; rfl) (hM : ∀ j, (Xs j).mg = mg.mg := by intro _; rfl) (hg : ∀ j, Gl (Xs j) "isinstance" := by intro _; rfl) (hgT : ∀ j, Gl (Xs j) T := by intro _; rfl) (hn : T ≠ "__name__" := by decide) (hd : (T == ("__debug__" : Str)) = false := by decide)
    (he : ∀ j, starEach [e, .Name T p2] (Xs j).env = (false, eval e (Xs j).env) :: starEach [.Name T p2] (Xs j).env := by intro _; rfl) (he2 : ∀ j, starEach [.Name T p2] (Xs j).env = [(false, eval (.Name T p2) (Xs j).env)] := by intro _; rfl)
    (hpl : ∀ j, (backTo pos (starEach [.Name T p2] (Xs j).env)).any (·.1) = false := by intro _; rfl) : DE Xs mg Wx (.Call (.Name "isinstance" p) [e, .Name T p2] [] pos) (dIsiC n cs f) := by
  obtain ⟨t, h1, h2⟩ := h
  refine ⟨tCB (rIsi mg.K) (tCons t (tCons (tC (.ty n)) tNil)), fun j => ?_, ?_⟩
  · exact pe_callB (call_isiK2 (hK j)) (hg j) (by rw [hM j]; exact hm) hv (pa_cons (h1 j) (pa_cons (pe_bltn (v := .ty n) (hgT j) (by rw [hM j]; exact hmT) hT rfl hn hd) pa_nil (he2 j)) (he j)) (by decide) (by decide) (he j) (hpl j)
  · intro B ρ Q E hf W σ H Q' hh e x q
    refine h2 B ρ _ E hf W σ H _ hh e x fun W1 H1 v d s1 r1 k1 => ?_
    have k2 : isiC n cs d Q := k1
    unfold isiC at k2
    split at k2
    · rename_i c fs
      obtain ⟨hc, hq⟩ := k2
      obtain ⟨C', F, hy⟩ := K.cl _ hc
      cases r1 with
      | @ins a C0 dx fs c ds hc ha hk rs =>
        have ec := F.eq hc
        subst ec
        exact ⟨_, .ty n, _, .type n, false, rfl, .ty n, .base (.ins (s1.holds.same _ _ ha) F.cl F.ha F.hn F.htk F.hm), hy, q W1 H1 _ _ s1 (.bl false) hq⟩
    · split at k2
      · rename_i m hm
        obtain ⟨b, hb, hq⟩ := k2
        exact ⟨v, .ty n, .type m, .type n, b, rfl, .ty n, tyName_v s1.holds r1 hm, kit_ty hb, q W1 H1 _ _ s1 (.bl b) hq⟩
      · exact k2.elim
end
end FP
/-! FP51: a text times a whole number. -/
namespace FP
open PySem PySem.Spec PyProof.Rows L2
end FP
/-! FP52: x != o, where x is no object of the text and o is one. -/
namespace FP
open PySem PySem.Spec PyProof.Rows PySem.W
end FP
/-! FP53: the operator != with a value on the left that is no object of the text. -/
namespace FP
open PySem PySem.Spec PyProof.Rows PySem.W
open L2
end FP
/-! FP54: operators of own objects with several kinds on the right. -/
namespace FP
open PySem PySem.Spec PyProof.Rows L2
end FP
/-! FP55: repr, of the empty dict too. -/
namespace FP
open PySem PySem.Spec PyProof.Rows L2
end FP
/-! FP56: dicts of one's own: made, changed, asked, handed on. -/
namespace FP
open PySem L2
variable [Tabl]
section
variable {mg : Gm} {B : Hp} {W W' : Wd} {H H' : Hp} {σ : St} {ρ : Env}
theorem EnvR.setOD (e : EnvR mg B W H σ ρ) (h : Holds W H) {i : Nat} {p : Addr} {vs : List (Key × V)} {kvs : List (Key × D)} (n : H p = none) (nb : B p = none) (hk : vs.map (·.1) = kvs.map (·.1)) (r : Reps mg W (vs.map (·.2)) (kvs.map (·.2))) : EnvR mg B W (upd H p (.dK vs)) (σ.set i (some (.ref p))) (ρ.set i (.od kvs)) :=
  e.news (Step.lay h n) (fun a ha => by obtain rfl := List.mem_singleton.mp ha; exact n) ⟨p, vs, rfl, upd_same, h.same.free n, h.nT n, nb, hk, r⟩
theorem EnvR.odTurn (e : EnvR mg B W H σ ρ) {i : Nat} {p : Addr} {vs : List (Key × V)} {xs ys : List (Key × D)} (hi : ρ[i]? = some (.od xs)) (hs : σ[i]? = some (some (.ref p))) (hk : vs.map (·.1) = ys.map (·.1)) (r : Reps mg W (vs.map (·.2)) (ys.map (·.2))) : EnvR mg B W (upd H p (.dK vs)) σ (ρ.set i (.od ys)) := by
  obtain ⟨o, h1, h2⟩ := e.sl i _ hi
  rw [hs] at h1
  cases h1
  obtain ⟨u, h4, h5, h6, h7⟩ := h2.at (a := p) (List.mem_singleton.mpr rfl)
  exact e.turn hi hs (List.mem_singleton.mpr rfl) (fun _ h => h) ⟨p, vs, rfl, upd_same, h5, h6, h7, hk, r⟩
/-- what is mine is handed to the world, and changed by it -/
theorem EnvR.give2 (e : EnvR mg B W H σ ρ) {i : Nat} {p : Addr} {u : HO} {s : Sl} {x : D} (hi : ρ[i]? = some s) (hs : σ[i]? = some (some (.ref p))) (m : p ∈ s.fp (some (.ref p))) (l : Le W (W.put p u)) (r : Rep mg (W.put p u) (.ref p) x) : EnvR mg B (W.put p u) (upd H p u) σ (ρ.set i (.d x)) := by
  refine ⟨by simpa using e.len, fun j sl hj => ?_, fun j k s1 s2 o1 o2 a hjk q1 q2 q3 q4 m1 m2 => ?_⟩
  · rcases get_set hj with ⟨rfl, rfl⟩ | ⟨nj, hj⟩
    · exact ⟨_, hs, _, rfl, r⟩
    · obtain ⟨o, g1, g2⟩ := e.sl j sl hj
      refine ⟨o, g1, g2.keep l fun a ha u' h5 h6 h7 => ?_⟩
      have ne : a ≠ p := fun q => e.dis i j s sl _ o p nj hi hj hs g1 m (by rw [← q]; exact ha)
      refine ⟨by rw [upd_ne ne]; exact h5, ?_, h7⟩
      show upd W.H p _ a = none
      rw [upd_ne ne]
      exact h6
  · rcases get_set q1 with ⟨_, z⟩ | ⟨n1, q1⟩
    · rw [← z] at m1
      cases m1
    · rcases get_set q2 with ⟨_, z⟩ | ⟨n2, q2⟩
      · rw [← z] at m2
        cases m2
      · exact e.dis j k s1 s2 o1 o2 a hjk q1 q2 q3 q4 m1 m2
end
noncomputable def dropKD (kvs : List (Key × D)) (k : Key) : List (Key × D) := kvs.filter fun kv => decide (kv.1 ≠ k)
theorem drop_rep {mg : Gm} {W : Wd} {k : Key} : ∀ {kvs : List (Key × V)} {ds : List (Key × D)}, kvs.map (·.1) = ds.map (·.1) → Reps mg W (kvs.map (·.2)) (ds.map (·.2)) →
    (dropK kvs k).map (·.1) = (dropKD ds k).map (·.1) ∧ Reps mg W ((dropK kvs k).map (·.2)) ((dropKD ds k).map (·.2))
  | [], [], _, _ => ⟨rfl, .nil⟩
  | p :: kvs, q :: ds, hk, hr => by
    obtain ⟨h1, h2⟩ := List.cons.inj hk
    have h1 : p.1 = q.1 := h1
    cases hr with
    | cons r rs =>
      obtain ⟨i1, i2⟩ := drop_rep (k := k) h2 rs
      unfold dropK dropKD at i1 i2 ⊢
      rw [List.filter_cons, List.filter_cons, h1]
      by_cases e : q.1 = k
      · have e2 : decide (q.1 ≠ k) = false := decide_eq_false fun n => n e
        rw [e2]
        exact ⟨i1, i2⟩
      · have e2 : decide (q.1 ≠ k) = true := decide_eq_true e
        rw [e2]
        exact ⟨by rw [if_pos rfl, if_pos rfl, List.map_cons, List.map_cons, i1, h1], .cons r i2⟩
  | [], _ :: _, hk, _ => by cases hk
  | _ :: _, [], hk, _ => by cases hk
section
variable {ι : Type} {Xs : ι → Cx} {mg : Gm} {Wx : WX} {pos : Pos}
/-! ### new dicts -/
noncomputable abbrev DTD := Env → M (List (Key × D))
noncomputable def CpOD (mg : Gm) (Wx : WX) (t : TE) (g : DTD) : Prop := ∀ B ρ Q E, g ρ Q E → ∀ W σ H Q', Holds W H → EnvR mg B W H σ ρ → ExR mg Wx W H σ E → (∀ W' H' p vs kvs, Step W H W' H' → H' p = none → vs.map (·.1) = kvs.map (·.1) → Reps mg W' (vs.map (·.2)) (kvs.map (·.2)) → Q kvs → Q' (.ref p) (upd H' p (.dK vs))) → t σ H Q'
/-- an expression that gives a new dict -/
noncomputable def DOD (Xs : ι → Cx) (mg : Gm) (Wx : WX) (e : Expr) (g : DTD) : Prop := ∃ t, (∀ i, PE (Xs i) e t) ∧ CpOD mg Wx t g
noncomputable abbrev dODn : DTD := fun _ Q _ => Q []
theorem dod_new : DOD Xs mg Wx (.Dict [] [] pos) dODn := ⟨_, fun _ => pe_dnewK, fun B ρ Q E hf W σ H Q' hh e x q p hp => q W H p [] [] (Step.refl hh) hp rfl .nil hf⟩
noncomputable abbrev dODp (f : DTE) : DTD := fun ρ Q E => f ρ (fun x => match x with
  | .lst xs => ∃ kvs, pairsD xs = some kvs ∧ Q (mergeD [] kvs)
  | _ => False) E
theorem dod_pairs {p : Pos} {e : Expr} {f : DTE} (h : DE Xs mg Wx e f) (hm : mg.mg "dict" = none) (hv : bootBuiltins "dict" = some (.type "dict")) (hK : ∀ j, (Xs j).K = mg.K := by intro _; rfl) (hM : ∀ j, (Xs j).mg = mg.mg := by intro _; rfl) (hc : ∀ j, (Xs j).calm = true := by intro _; rfl) (hg : ∀ j, Gl (Xs j) "dict" := by intro _; rfl)
    (he : ∀ i, starEach [e] (Xs i).env = (false, eval e (Xs i).env) :: starEach [] (Xs i).env := by intro _; rfl) : DOD Xs mg Wx (.Call (.Name "dict" p) [e] [] pos) (dODp f) := by
  obtain ⟨t, h1, h2⟩ := da_cons h da_nil he
  refine ⟨_, fun i => pe_callTy (cr_dictP (hK i) (hc i)) (hg i) (by rw [hM i]; exact hm) hv (h1 i) (by decide) (by decide) (he i) rfl, ?_⟩
  intro B ρ Q E hf W σ H Q' hh en x q
  refine h2 B ρ (fun ds => match ds with
    | [.lst xs] => ∃ kvs, pairsD xs = some kvs ∧ Q (mergeD [] kvs)
    | _ => False) E ?_ W σ H _ hh en x fun W1 H1 vs ds s1 r1 k1 => ?_
  · refine cast ?_ hf
    show f ρ _ E = f ρ _ E
    congr 1
    funext d
    cases d <;> rfl
  match ds, r1, k1 with
  | [.lst xs], .cons (v := v) r .nil, ⟨kvs, hk, k2⟩ =>
    cases r with
    | @lst a us _ ha rs =>
      obtain ⟨ps, ws, g1, g2, g3, g4⟩ := pairs_v s1.holds rs hk
      refine ⟨a, ps, ws, rfl, by rw [← g1]; exact SqL.of (s1.holds.same _ _ ha), g2, fun p n => ?_⟩
      obtain ⟨m1, m2⟩ := merge_v (us0 := []) (kvs0 := []) g3 g4 rfl .nil
      exact q W1 H1 p _ _ s1 n m1 m2 k2
noncomputable abbrev dSetOD (i : Nat) (g : DTD) : DTS := fun N ρ => g ρ (fun kvs => N.nx (ρ.set i (.od kvs))) (fun x => N.rs x ρ)
theorem ds_setOD {i : Nat} {x : Str} {e : Expr} {g : DTD} {pos' : Pos} (h : DOD Xs mg Wx e g) (hN : ∀ j, (Xs j).N.Nodup) (hi : ∀ j, (Xs j).N[i]? = some x := by intro _; rfl) (hx : ∀ j, Loc (Xs j).env.scope x := by intro _; first | exact Or.inl rfl | exact Or.inr rfl)
    (hs : ∀ j, swapsWith e (some (.Name x pos')) pos.line (Xs j).env = pure false := by intro _; rfl) (hf : ∀ j, (Xs j).fn x = true ∨ (Xs j).env.scope.names.lookup x = some .local := by intro _; first | exact .inl rfl | exact .inr rfl) : DS Xs mg Wx (.Assign [.Name x pos'] e pos) (dSetOD i g) := by
  obtain ⟨t, h1, h2⟩ := h
  refine ⟨_, fun j => ps_set (i := i) (hN j) (hi j) (hx j) (h1 j) (hs j) (hf j), fun W0 B N ρ hf W σ H Ds s e n => ?_⟩
  refine h2 B ρ _ _ hf W σ H _ s.holds e (n.ex s e) fun W1 H1 p vs kvs s1 hp hk r1 k1 => ?_
  have s01 := s.trans s1
  exact n.nx W1 _ _ _ (s01.trans (Step.lay s01.holds hp)) ((e.step s1).setOD s01.holds hp (s01.noB hp) hk r1) k1
/-- a, x = e, a new dict -/
noncomputable abbrev dParOD (i j : Nat) (f : DTE) (g : DTD) : DTS := fun N ρ => f ρ (fun d => g ρ (fun kvs => N.nx ((ρ.set i (.d d)).set j (.od kvs))) (fun x => N.rs x ρ)) (fun x => N.rs x ρ)
theorem ds_parOD {i j : Nat} {x y : Str} {a b : Expr} {f : DTE} {g : DTD} {px py pt : Pos} {kt k2 : Nat} {pt2 : Pos} (h : DE Xs mg Wx a f) (h' : DOD Xs mg Wx b g) (hN : ∀ l, (Xs l).N.Nodup)
    (hw : ∀ l, swappedStores [.Tuple [.Name x px, .Name y py] kt pt] (.Tuple [a, b] k2 pt2) (Xs l).env = pure (some [x, y]) := by intro _; rfl) (hij : i ≠ j := by decide) (hi : ∀ l, (Xs l).N[i]? = some x := by intro _; rfl) (hj : ∀ l, (Xs l).N[j]? = some y := by intro _; rfl)
    (hx : ∀ l, (Xs l).env.scope.names.lookup x = some .local := by intro _; rfl) (hy : ∀ l, (Xs l).env.scope.names.lookup y = some .local := by intro _; rfl) (hc : ∀ l, (Xs l).calm = true := by intro _; rfl)
    (hs : ∀ l, swapsWithSole [.Tuple [.Name x px, .Name y py] kt pt] (.Tuple [a, b] k2 pt2) pos.line (Xs l).env = pure false := by intro _; rfl)
    (he : ∀ i, starEach [a, b] (Xs i).env = (false, eval a (Xs i).env) :: starEach [b] (Xs i).env := by intro _; rfl) (he2 : ∀ i, starEach [b] (Xs i).env = [(false, eval b (Xs i).env)] := by intro _; rfl) : DS Xs mg Wx (.Assign [.Tuple [.Name x px, .Name y py] kt pt] (.Tuple [a, b] k2 pt2) pos) (dParOD i j f g) := by
  obtain ⟨t, h1, h2⟩ := h
  obtain ⟨u, g1, g2⟩ := h'
  refine ⟨_, fun l => ps_par (i := i) (j := j) (hc l) (hN l) (hi l) (hj l) hij (hx l) (hy l) (pa_cons (h1 l) (pa_cons (g1 l) pa_nil (he2 l)) (he l)) (hw l) (hs l), fun W0 B N ρ hf W σ H Ds s e n => ?_⟩
  refine h2 B ρ _ _ hf W σ H _ s.holds e (n.ex s e) fun W1 H1 v d s1 r1 k1 => ?_
  have e1 := e.step s1
  have s01 := s.trans s1
  refine g2 B ρ _ _ k1 W1 σ _ _ s1.holds e1 (n.ex s01 e1) fun W2 H2 p vs kvs s2 hp hk r2 k2 => ?_
  have s02 := s01.trans s2
  exact ⟨_, _, rfl, n.nx W2 _ _ _ (s02.trans (Step.lay s2.holds hp)) (((e1.step s2).set (r1.mono s2.le)).setOD s2.holds hp (s02.noB hp) hk r2) k2⟩
/-! ### changes -/
noncomputable abbrev dOdPut (i : Nat) (fk fv : DTE) : DTS := fun N ρ => match ρ[i]? with
  | some (.od kvs) => fv ρ (fun v => fk ρ (fun k => ∃ kk, keyD k = some kk ∧ kvs.length < sizeLine ∧ N.nx (ρ.set i (.od (putKD kvs kk v)))) (fun x => N.rs x ρ)) (fun x => N.rs x ρ)
  | _ => False
theorem ds_odPut (i : Nat) {x : Str} {k v : Expr} {fk fv : DTE} {p tpos : Pos} {m : Nat} (hr : ∀ j, RmG m (Xs j).A) (hk : DE Xs mg Wx k fk) (hv : DE Xs mg Wx v fv) (hN : ∀ j, (Xs j).N[i]? = some x := by intro _; rfl) (hvi : ∀ j, Vis (Xs j).env.scope x := by intro _; first | exact Or.inl rfl | exact Or.inr (Or.inl rfl) | exact Or.inr (Or.inr rfl))
    (hd : (x == ("__debug__" : Str)) = false := by decide) (hcd : (x == ("__classdict__" : Str)) = false := by decide) (hs : ∀ j, swapsWith v (some (.Subscript (.Name x p) k tpos)) pos.line (Xs j).env = pure false := by intro _; rfl) :
    DS Xs mg Wx (.Assign [.Subscript (.Name x p) k tpos] v pos) (dOdPut i fk fv) := by
  obtain ⟨tk, k1, k2⟩ := hk
  obtain ⟨tv, v1, v2⟩ := hv
  refine ⟨_, fun j => ps_dput (by have := (hr j).r.un; omega) (pe_var (hN j) (hvi j) hd hcd) (k1 j) (v1 j) (hs j), fun W0 B N ρ hf W σ H Ds s e n => ?_⟩
  unfold dOdPut at hf
  split at hf
  · rename_i kvs hx
    refine v2 B ρ _ _ hf W σ H _ s.holds e (n.ex s e) fun W1 H1 v1 d1 s1 r1 q1 => ?_
    have e1 := e.step s1
    obtain ⟨o, g1, p, vs, g2, _⟩ := e1.sl i _ hx
    subst g2
    refine ⟨.ref p, g1, ?_⟩
    refine k2 B ρ _ _ q1 W1 σ H1 _ s1.holds e1 (n.ex (s.trans s1) e1) fun W2 H2 v2 d2 s2 r2 q2 => ?_
    obtain ⟨kk, hkk, hl, hq⟩ := q2
    have e2 := e1.step s2
    obtain ⟨o', y1, p', vs', y2, y3, y4, y5, y6, hk2, rr⟩ := e2.sl i _ hx
    rw [g1] at y1
    cases y1
    cases y2
    have ek := keyD_v r2 hkk
    subst ek
    obtain ⟨u1, u2⟩ := put_rep (k := kk) hk2 rr (r1.mono s2.le)
    exact ⟨p, _, rfl, DPut.k y3 (by rw [len_keys hk2]; exact hl), n.nx W2 _ σ _ (((s.trans s1).trans s2).own y6 y3 y4 y5) (e2.odTurn hx g1 u1 u2) hq⟩
  · exact hf.elim
/-- x.pop(k, e), x one's own -/
noncomputable abbrev dOdPop (i : Nat) (fk fv : DTE) : DTS := fun N ρ => match ρ[i]? with
  | some (.od kvs) => fk ρ (fun k => fv ρ (fun _ => ∃ kk, keyD k = some kk ∧ N.nx (ρ.set i (.od (dropKD kvs kk)))) (fun x => N.rs x ρ)) (fun x => N.rs x ρ)
  | _ => False
theorem dropK_no' {κ : Type} [DecidableEq κ] {kvs : List (κ × V)} {k : κ} (h : valV kvs k = none) : dropK kvs k = kvs := by
  unfold dropK
  unfold valV at h
  rw [List.filter_eq_self]
  intro p hp
  have h1 : (kvs.find? fun kv => decide (kv.1 = k)) = none := by
    cases q : kvs.find? fun kv => decide (kv.1 = k) with
    | none => rfl
    | some y =>
      rw [q] at h
      cases h
  have h2 := List.find?_eq_none.mp h1 p hp
  exact decide_eq_true fun z => h2 (decide_eq_true z)
theorem ds_odPop (i : Nat) {x : Str} {k v : Expr} {fk fv : DTE} {p apos cpos : Pos} (hk : DE Xs mg Wx k fk) (hv : DE Xs mg Wx v fv) (hN : ∀ j, (Xs j).N[i]? = some x := by intro _; rfl) (hvi : ∀ j, Vis (Xs j).env.scope x := by intro _; first | exact Or.inl rfl | exact Or.inr (Or.inl rfl) | exact Or.inr (Or.inr rfl))
    (hd : (x == ("__debug__" : Str)) = false := by decide) (hcd : (x == ("__classdict__" : Str)) = false := by decide) (m : ∀ j, M2 (Xs j) (.Name x p) "pop" apos k v cpos := by intro _; exact ⟨rfl, rfl, rfl, rfl⟩)
    (hs : ∀ j, swapsWith (.Call (.Attribute (.Name x p) "pop" apos) [k, v] [] cpos) none pos.line (Xs j).env = pure false := by intro _; rfl) :
    DS Xs mg Wx (.Expr (.Call (.Attribute (.Name x p) "pop" apos) [k, v] [] cpos) pos) (dOdPop i fk fv) := by
  obtain ⟨tk, k1, k2⟩ := hk
  obtain ⟨tv, v1, v2⟩ := hv
  refine ⟨_, fun j => ps_expr (pe_dpop2 (pe_var (hN j) (hvi j) hd hcd) (k1 j) (v1 j) (m j)) (hs j), fun W0 B N ρ hf W σ H Ds s e n => ?_⟩
  unfold dOdPop at hf
  split at hf
  · rename_i kvs hx
    obtain ⟨o, g1, p, vs, g2, g3, _⟩ := e.sl i _ hx
    subst g2
    refine ⟨.ref p, g1, p, rfl, .inl ⟨_, .inl g3⟩, ?_⟩
    refine k2 B ρ _ _ hf W σ H _ s.holds e (n.ex s e) fun W1 H1 v1 d1 s1 r1 q1 => ?_
    have e1 := e.step s1
    refine v2 B ρ _ _ q1 W1 σ H1 _ s1.holds e1 (n.ex (s.trans s1) e1) fun W2 H2 v2 d2 s2 r2 q2 => ?_
    obtain ⟨kk, hkk, hq⟩ := q2
    have e2 := e1.step s2
    obtain ⟨o', y1, p', vs', y2, y3, y4, y5, y6, hk2, rr⟩ := e2.sl i _ hx
    rw [g1] at y1
    cases y1
    cases y2
    have ek := keyD_v r1 hkk
    subst ek
    obtain ⟨u1, u2⟩ := drop_rep (k := kk) hk2 rr
    have fin := n.nx W2 _ σ _ (((s.trans s1).trans s2).own y6 y3 y4 y5) (e2.odTurn hx g1 u1 u2) hq
    refine ⟨vs', kk, y3, rfl, fun v _ => fin, fun hn => ?_⟩
    rw [dropK_no' hn] at fin
    have e9 : upd H2 p (.dK vs') = H2 := by
      funext b
      by_cases hb : b = p
      · rw [hb, upd_same, y3]
      · rw [upd_ne hb]
    rw [e9] at fin
    exact fin
  · exact hf.elim
/-! ### asked -/
noncomputable abbrev dInOD (neg : Bool) (i : Nat) (fk : DTE) : DTE := fun ρ Q E => match ρ[i]? with
  | some (.od kvs) => fk ρ (fun k => ∃ kk, keyD k = some kk ∧ Q (.bl (if neg then !(valD kvs kk).isSome else (valD kvs kk).isSome))) E
  | _ => False
theorem cp_inOD (neg : Bool) (i : Nat) {tk : TE} {fk : DTE} (k2 : Cp mg Wx tk fk) : Cp mg Wx (if neg then tDNotIn tk (tVar i) else tDIn tk (tVar i)) (dInOD neg i fk) := by
  have key : ∀ B ρ Q E, dInOD neg i fk ρ Q E → ∀ W σ H Q', Holds W H → EnvR mg B W H σ ρ → ExR mg Wx W H σ E → ToV mg W H Q Q' → tk σ H fun y H1 => ∃ v, σ[i]? = some (some v) ∧ ∃ a o, v = .ref a ∧ DGet H1 a y o ∧ Q' (.bl (if neg then !o.isSome else o.isSome)) H1 := by
    intro B ρ Q E hf W σ H Q' hh e x q
    unfold dInOD at hf
    split at hf
    · rename_i kvs hx
      refine k2 B ρ _ E hf W σ H _ hh e x fun W1 H1 v1 d1 s1 r1 q1 => ?_
      obtain ⟨kk, hkk, hq⟩ := q1
      obtain ⟨o, g1, p, vs, g2, g3, _, _, _, hk, rr⟩ := (e.step s1).sl i _ hx
      subst g2
      have ek := keyD_v r1 hkk
      subst ek
      refine ⟨.ref p, g1, p, valV vs kk, rfl, DGet.k g3, ?_⟩
      have es : (valV vs kk).isSome = (valD kvs kk).isSome := by
        rcases val_rep (k := kk) hk rr with ⟨z1, z2⟩ | ⟨v, d', z1, z2, z3⟩ <;> rw [z1, z2] <;> rfl
      rw [es]
      exact q W1 H1 _ _ s1 (.bl _) hq
    · exact hf.elim
  cases neg with
  | true => exact fun B ρ Q E hf W σ H Q' hh e x q => key B ρ Q E hf W σ H Q' hh e x q
  | false => exact fun B ρ Q E hf W σ H Q' hh e x q => key B ρ Q E hf W σ H Q' hh e x q
theorem dt_inOD (i : Nat) {x : Str} {k : Expr} {fk : DTE} {p : Pos} {m : Nat} (hr : ∀ j, RmG m (Xs j).A) (hk : DE Xs mg Wx k fk) (hN : ∀ j, (Xs j).N[i]? = some x := by intro _; rfl) (hvi : ∀ j, Vis (Xs j).env.scope x := by intro _; first | exact Or.inl rfl | exact Or.inr (Or.inl rfl) | exact Or.inr (Or.inr rfl))
    (hd : (x == ("__debug__" : Str)) = false := by decide) (hcd : (x == ("__classdict__" : Str)) = false := by decide) : DT Xs mg Wx (.Compare k [.In] [.Name x p] pos) (dB (dInOD false i fk)) := by
  obtain ⟨tk, k1, k2⟩ := hk
  exact ⟨_, fun j => pt_cmp (pc_din (by have := (hr j).r.un; omega) (k1 j) (pe_var (hN j) (hvi j) hd hcd)), (cp_inOD false i k2).b⟩
theorem dt_notInOD (i : Nat) {x : Str} {k : Expr} {fk : DTE} {p : Pos} {m : Nat} (hr : ∀ j, RmG m (Xs j).A) (hk : DE Xs mg Wx k fk) (hN : ∀ j, (Xs j).N[i]? = some x := by intro _; rfl) (hvi : ∀ j, Vis (Xs j).env.scope x := by intro _; first | exact Or.inl rfl | exact Or.inr (Or.inl rfl) | exact Or.inr (Or.inr rfl))
    (hd : (x == ("__debug__" : Str)) = false := by decide) (hcd : (x == ("__classdict__" : Str)) = false := by decide) : DT Xs mg Wx (.Compare k [.NotIn] [.Name x p] pos) (dB (dInOD true i fk)) := by
  obtain ⟨tk, k1, k2⟩ := hk
  exact ⟨_, fun j => pt_cmp (pc_dnotin (by have := (hr j).r.un; omega) (k1 j) (pe_var (hN j) (hvi j) hd hcd)), (cp_inOD true i k2).b⟩
/-! ### handed on -/
noncomputable def tFrz0 (t : TS) : TS := fun D σ H => ∃ d u, H d = some u ∧ Mut (some u) ∧ ∀ od, t D σ (upd H d (.frz od u))
theorem ps_frz0 {X : Cx} {st : Stmt} {t : TS} (h : PS X st t) : PS X st (tFrz0 t) := by
  refine ⟨fun pins s σ H D I hw => ?_⟩
  obtain ⟨d, u, hd, mu, hw⟩ := hw
  obtain ⟨od, I1⟩ := I.lock hd mu
  exact h.run pins s σ _ D I1 (hw od)
/-- the own dict is handed on ahead of a statement -/
noncomputable abbrev dFrzD (i : Nat) (f : DTS) : DTS := fun N ρ => match ρ[i]? with
  | some (.od kvs) => f N (ρ.set i (.d (.dct kvs)))
  | _ => False
theorem ds_frzD (i : Nat) {st : Stmt} {f : DTS} (h : DS Xs mg Wx st f) : DS Xs mg Wx st (dFrzD i f) := by
  obtain ⟨t, h1, h2⟩ := h
  refine ⟨tFrz0 t, fun j => ps_frz0 (h1 j), fun W0 B N ρ hf W σ H Ds s e n => ?_⟩
  unfold dFrzD at hf
  split at hf
  · rename_i kvs hx
    obtain ⟨o, g1, p, vs, g2, g3, g4, g5, g6, hk, r⟩ := e.sl i _ hx
    subst g2
    refine ⟨p, _, g3, True.intro, fun od => ?_⟩
    have s1 : Step W0 B W (upd H p (.frz od (.dK vs))) := s.own g6 g3 g4 g5
    have s2 := s1.taken g6 upd_same g4 g5
    exact h2 W0 B N _ hf _ σ _ Ds s2 (e.give2 hx g1 (List.mem_singleton.mpr rfl) (Wd.put_le g4) (Rep.newDct hk r g4)) n
  · exact hf.elim
end
end FP
/-! FP57: one statement, then the others, by the values of the first one (small goals). -/
namespace FP
open PySem L2
variable [Tabl]
section
variable {f : DTE} {g : DTS} {N : Nd} {ρ : Env} {i : Nat}
/-- the expression comes to a datum with P -/
noncomputable abbrev EvP (f : DTE) (ρ : Env) (P : D → Prop) : Prop := ∀ (Q : D → Prop) (E : XD → Prop), (∀ d, P d → Q d) → f ρ Q E
/-- the expression comes to just this datum -/
noncomputable abbrev Ev (f : DTE) (ρ : Env) (d : D) : Prop := ∀ (Q : D → Prop) (E : XD → Prop), Q d → f ρ Q E
theorem Ev.p {d : D} (h : Ev f ρ d) : EvP f ρ (fun x => x = d) := fun Q E q => h Q E (q d rfl)
theorem seq_p (P : D → Prop) (hf : EvP f ρ P) (hg : ∀ d, P d → g N (ρ.set i (.d d))) : dSeq (dSet i f) g N ρ := hf _ _ hg
theorem seq_v (d : D) (hf : Ev f ρ d) (hg : g N (ρ.set i (.d d))) : dSeq (dSet i f) g N ρ := hf _ _ hg
theorem seq_app {xs : List D} (h : ρ[i]? = some (.own xs)) (d : D) (hs : xs.length < sizeLine) (hf : Ev f ρ d) (hg : g N (ρ.set i (.own (xs ++ [d])))) : dSeq (dApp i f) g N ρ := by
  show dApp i f _ ρ
  unfold dApp
  rw [h]
  exact hf _ _ ⟨hs, hg⟩
theorem ret_v (d : D) (hf : Ev f ρ d) (hq : N.rt d ρ) : dRet f N ρ := hf _ _ hq
/-- a test that comes to just this truth -/
noncomputable abbrev EvT (f : DTT) (ρ : Env) (b : Bool) : Prop := ∀ (Q : Bool → Prop) (E : XD → Prop), Q b → f ρ Q E
theorem seq_if {c : DTT} {f1 f2 : DTS} (b : Bool) (hc : EvT c ρ b) (h : bit b (dSeq f1 g N ρ) (dSeq f2 g N ρ)) : dSeq (dIfS c f1 f2) g N ρ := hc _ _ h
end
end FP
/-! FP58: list(d), dict(d), sorted(d); own objects in f-strings. -/
namespace FP
open PySem L2
variable [Tabl]
section
variable {ι : Type} {Xs : ι → Cx} {mg : Gm} {Wx : WX} {pos : Pos}
theorem kV_keys {kvs : List (Key × V)} {ds : List (Key × D)} {W : Wd} (h : kvs.map (·.1) = ds.map (·.1)) : Reps mg W (kvs.map fun kv => kV kv.1) (ds.map fun kv => kD kv.1) := by
  have e1 : (kvs.map fun kv => kV kv.1) = (ds.map (·.1)).map kV := by rw [← h, List.map_map]; rfl
  have e2 : (ds.map fun kv => kD kv.1) = (ds.map (·.1)).map kD := by rw [List.map_map]; rfl
  rw [e1, e2]
  generalize ds.map (·.1) = ks
  induction ks with
  | nil => exact .nil
  | cons k r ih => exact .cons (kD_rep k) ih
noncomputable def rdListD : RDL := fun ds Q => match ds with
  | [.dct kvs] => Q (.lst (kvs.map fun kv => kD kv.1))
  | _ => False
theorem ok_listD (hc : ∀ j, (Xs j).calm = true := by intro _; rfl) : CallOk Xs mg (.type "list") rdListD := by
  refine ⟨_, fun j => call_listD (hc j), ?_⟩
  intro W H vs ds Q Q' hh r h q
  cases r with
  | nil => exact False.elim h
  | cons r rs =>
    cases r with
    | dct ha hk ra =>
      cases rs with
      | nil =>
        delta rdListD at h
        dsimp only at h
        exact ⟨_, _, rfl, .inr ⟨_, hh.same _ _ ha⟩, to_lst q hh (kV_keys hk) h⟩
      | cons => exact False.elim h
    | _ => exact False.elim h
noncomputable def rdSortedD : RDL := fun ds Q => match ds with
  | [.dct kvs] => ∃ ks : List Str, kvs.map (·.1) = ks.map Sum.inr ∧ ks.length < 64 ∧ Q (.lst ((sortS ks).map .str))
  | _ => False
theorem ok_sortedD (hc : ∀ j, (Xs j).calm = true := by intro _; rfl) : CallOk Xs mg (.builtin "sorted") rdSortedD := by
  refine CallOk.mk (fun j => call_sortedD (hc j)) ?_
  intro W H vs ds Q Q' P hh r h q hP
  cases r with
  | nil => exact False.elim h
  | cons r rs =>
    cases r with
    | dct ha hk ra =>
      cases rs with
      | nil =>
        delta rdSortedD at h
        dsimp only at h
        obtain ⟨ks, h1, h2, h3⟩ := h
        refine hP _ (⟨_, _, ks, rfl, .inr ⟨_, hh.same _ _ ha⟩, hk.trans h1, h2, fun ys p hp hs n => ?_⟩)
        have e := sortS_eq hp hs
        subst e
        exact to_lst q hh (Reps.strs _) h3 p n
      | cons => exact False.elim h
    | _ => exact False.elim h
noncomputable abbrev dDictD (f : DTE) : DTE := fun ρ Q E => f ρ (fun x => match x with
  | .dct kvs => Q (.dct kvs)
  | _ => False) E
theorem de_dictD {p : Pos} {e : Expr} {f : DTE} (h : DE Xs mg Wx e f) (hm : mg.mg "dict" = none) (hv : bootBuiltins "dict" = some (.type "dict")) (hM : ∀ j, (Xs j).mg = mg.mg := by intro _; rfl) (hg : ∀ j, Gl (Xs j) "dict" := by intro _; rfl)
    (he : ∀ i, starEach [e] (Xs i).env = (false, eval e (Xs i).env) :: starEach [] (Xs i).env := by intro _; rfl) : DE Xs mg Wx (.Call (.Name "dict" p) [e] [] pos) (dDictD f) := by
  obtain ⟨t, h1, h2⟩ := da_cons h da_nil he
  refine ⟨_, fun i => pe_lk (pe_callTy call_dictD (hg i) (by rw [hM i]; exact hm) hv (h1 i) (by decide) (by decide) (he i) rfl), ?_⟩
  intro B ρ Q E hf W σ H Q' hh en x q
  refine h2 B ρ (fun ds => match ds with
    | [.dct kvs] => Q (.dct kvs)
    | _ => False) E ?_ W σ H _ hh en x fun W1 H1 vs ds s1 r1 k1 => ?_
  · refine cast ?_ hf
    show f ρ _ E = f ρ _ E
    congr 1
    funext d
    cases d <;> rfl
  match ds, r1, k1 with
  | [.dct kvs], .cons (v := v) r .nil, k2 =>
    cases r with
    | @dct a o us _ ha hk rs =>
      refine ⟨a, us, rfl, .inr ⟨_, s1.holds.same _ _ ha⟩, fun p n => ⟨p, _, rfl, upd_same, True.intro, fun od => ?_⟩⟩
      rw [upd_upd]
      exact q _ _ _ _ (s1.trans (Step.alloc s1.holds n)) (Rep.newDct hk rs (s1.holds.same.free n)) k2
/-! ### {x} of an own object -/
noncomputable abbrev dFmtM (c : Str) (f : List D → M D) (fe : DTE) : DTE := fun ρ Q E => fe ρ (fun x => match x with
  | .ins c' fs => c' = c ∧ f [.ins c' fs] (fun d => match d with
    | .str y => Q (.str y)
    | _ => False) F0
  | _ => False) E
theorem de_fmtM {P : Program} {w : World} {base : Heap} {k : Nat} {c : Str} {C : Addr} {f : List D → M D} {e : Expr} {fe : DTE} (Fc : ClsF mg c C) (S : SpecOk P w mg base k C "__str__" 1 f) (fm : PySem.W.findIn mg.K (.ref C) "__format__" = some (some (.builtin "object.__format__"))) (hr : ∀ j, RmG (k + 2) (Xs j).A) (h : DE Xs mg Wx e fe)
    (hP : HPs Xs P w mg base := by intro _; exact ⟨rfl, rfl, rfl, rfl, rfl⟩) : DE Xs mg Wx (.FormattedValue e (-1) none pos) (dFmtM c f fe) := by
  obtain ⟨fa, fd, ps, h1, h2, h3, hb, hl, G⟩ := S.ex
  obtain ⟨t, g1, g2⟩ := h
  refine ⟨fun σ H Q => t σ H fun x H1 => ∃ a dx fs, x = .ref a ∧ H1 a = some (.ins C dx fs) ∧ spD mg 1 f [.ref a] H1 (fun v H' => ∃ n : Str, v = .str n ∧ Q (.str n) H') E0, fun j => ⟨fun pins s σ H Q I hq => ?_⟩, ?_⟩
  · obtain ⟨p1, p2, p3, p4, p5⟩ := hP j
    subst p1 p2 p5
    refine wpAny_FormattedValue_plain (thn ((g1 j).run pins s σ H _ I hq) fun v s1 hv => ?_)
    obtain ⟨x, H1, I1, rx, a, dx, fs, rfl, ea, hs⟩ := hv
    obtain rfl : v = Value.ref a := rx
    obtain ⟨mA, O, _⟩ := ins_get I1.hok ea
    obtain ⟨od, J, _⟩ := O.look
    have m2 : RmG k (Xs j).A.in1 := RmG.in1 (k := k) ((hr j).mono (by omega))
    have m3 : RmG k (Xs j).A.in1 := m2
    refine PySem.W.kfo_fieldS m2.r.units0 I1.kIn J (by rw [p3]; exact fm) (by rw [p3]; exact Fc.hm) (by rw [p3]; exact h1) (by rw [p3]; exact h2) ?_
    refine wpAny_mono (callAt0 (X := Xs j) (by rw [p3, p4]; exact G) m2 rfl (by rw [p3]; exact hb) (I1.tok _) (vs := [.ref a]) (.cons (show RelV (.ref _) (.ref _) from rfl) .nil) hs) (fun v z' hv => ?_) fun _ _ q => q
    obtain ⟨x, H', I', rx, n, rfl, hq⟩ := hv
    obtain ⟨t, rfl⟩ := (show ∃ t, v = Value.str n t from rx)
    exact ⟨.str n, H', I', ⟨_, rfl⟩, hq⟩
  · intro B ρ Q E hf W σ H Q' hh en x q
    refine g2 B ρ _ E hf W σ H _ hh en x fun W1 H1 v d s1 r1 k1 => ?_
    dsimp only at k1
    split at k1
    · cases r1 with
      | @ins a C' dx fs c' ds hc ha hk rs =>
        obtain ⟨rfl, k2⟩ := k1
        have ec := Fc.eq hc
        subst ec
        refine ⟨a, dx, fs, rfl, s1.holds.same _ _ ha, spD_of s1.holds (.cons (.ins hc ha hk rs) .nil) rfl k2 fun W' H' v d s' r' hd => ?_⟩
        cases r' with
        | str n => exact ⟨n, rfl, q W' H' _ _ (s1.trans s') (.str n) hd⟩
        | _ => exact hd.elim
    · exact k1.elim
end
end FP
/-! FP59: o[i] of an own class that may raise. -/
namespace FP
open PySem L2
end FP
/-! FP60: defs with a default; C() of a class whose __init__ has one. -/
namespace FP
open PySem L2
variable [Tabl]
/-- a def as it stands, whatever its defaults -/
structure FunA (K : PySem.W.Frag) (x qual : Str) (st : Stmt) (f : Addr) (fd : FuncData) : Prop where
  ex : ∃ (oc : Value) (od : Option Addr) (dV kV doc pm : Value) (an : Option Addr) (cdv ct : Value) (osl : Array (Option Value)),
    fd = PySem.W.fnOf x qual (defArgs st) (defBody st) (defScope st) dV kV doc pm an cdv ct ∧ K.lookup f = some ⟨oc, od, .func fd, osl⟩ ∧ PySem.W.codeIn K cdv qual = true
  kp : PySem.W.keepIn K (.ref f) = true
noncomputable abbrev FunDf (K : PySem.W.Frag) (x qual : Str) (st : Stmt) (dvs : List V) (f : Addr) (fd : FuncData) : Prop := FunD K x qual (defArgs st) (defBody st) (defScope st) dvs [] f fd
theorem FunDf.any {K : PySem.W.Frag} {x qual : Str} {st : Stmt} {dvs : List V} {f : Addr} {fd : FuncData} (F : FunDf K x qual st dvs f fd) : FunA K x qual st f fd := by
  obtain ⟨oc, od, dV, kV, doc, pm, an, cdv, ct, osl, h1, h2, h3, _, _⟩ := F.ex
  exact ⟨⟨oc, od, dV, kV, doc, pm, an, cdv, ct, osl, h1, h2, h3⟩, F.kp⟩
/-- one default: None -/
theorem funDN_mk {K : PySem.W.Frag} {x qual : Str} {st : Stmt} {f T : Addr} {oc tc : Value} {od an td : Option Addr} {osl tsl : Array (Option Value)} {kV doc pm cdv ct : Value} {tn : Nat} (l : K.lookup f = some ⟨oc, od, .func (PySem.W.fnOf x qual (defArgs st) (defBody st) (defScope st) (.ref T) kV doc pm an cdv ct), osl⟩)
    (c : PySem.W.codeIn K cdv qual = true) (k : PySem.W.keepIn K (.ref f) = true) (t : K.lookup T = some ⟨tc, td, .seq #[.none] tn, tsl⟩) : FunDf K x qual st [.non] f (PySem.W.fnOf x qual (defArgs st) (defBody st) (defScope st) (.ref T) kV doc pm an cdv ct) :=
  ⟨⟨oc, od, .ref T, kV, doc, pm, an, cdv, ct, osl, rfl, l, c, .inr ⟨List.cons_ne_nil _ _, T, _, [.none], tn, rfl, t, rfl, .cons rfl .nil⟩, .inl rfl⟩, k⟩
theorem fnG_ofA {P : Program} {w : World} {K : PySem.W.Frag} {mg : Str → Option Value} {base : Heap} {x qual : Str} {st : Stmt} {fa : Addr} {fd : FuncData} {N ps : List Str} {k : Nat} {sp : Sp} (F : FunA K x qual st fa fd) (S : FnScope N ps (defScope st)) (ln : ∀ vs H Q E, sp vs H Q E → vs.length = ps.length)
    (hb : ∀ (cdv : Value) (A : Around) (out : List PySem.Env) (z : Shared) (H : Hp) (vs : List V) (Q : VK) (E : XK), RmG k (A.deeper (PyProof.Rows.envOfC qual (defScope st) z.heap.objs.size fa cdv)) → sp vs H Q E →
      ∃ t, PSs (cxOf (L2.CX P w) P w K mg base N qual (defScope st) fa cdv A out z H E) (defBody st) t ∧ t { nx := fun _ H' => Q .non H', rt := Q } (L2.start N vs) H) : FnG P w K mg base (k + 1) fa fd ps sp := by
  obtain ⟨oc, od, dV, kV, doc, pm, an, cdv, ct, osl, rfl, lk, hcd⟩ := F.ex
  refine ⟨ln, fun A out z H ag us vs Q E m e0 bd rv hs => ?_⟩
  have inK : K.In z.heap := e0.mod.kin.keeps fun c u q => (e0.bs c u q).1
  have noL : z.heap.NoLimit := e0.mod.nolimit.keeps fun c u q => (e0.bs c u q).1
  have kinds : ∀ y ∈ ps.zip us, (defScope st).names.lookup y.1 = some .local ∨ ((defScope st).names.lookup y.1 = some .cell ∧ ((cellsFrom (z.heap.objs.size + 1) (defScope st).names []).lookup y.1).isSome = true) := by
    rintro ⟨n, v⟩ hy
    refine (S.par n (List.of_mem_zip hy).1).imp id ?_
    intro c
    exact ⟨c, PySem.W.cellsFrom_some _ _ _ (.inl c)⟩
  apply codeAny_call_function m.r.depth (inK _ _ lk) rfl S.co S.gen rfl (PySem.W.codeRec_of inK hcd)
  apply bd
  apply wpAny_newFunctionEnv_cells S.kind kinds
  intro env he z1 inC
  subst he
  obtain ⟨t, pt, tq⟩ := hb cdv A out z H vs Q E ⟨m.r.deeper _, m.g⟩ hs
  have I0 := inv_start (CX := L2.CX P w) (E := E) S m.r.hd e0 (ln _ _ _ _ hs) rv inC
  refine ⟨noL.keeps inC.toInCall.keep, codeAny_func (wpAny_mono (pt.run [] z1 _ H _ I0 tq) ?_ fun _ _ q => q)⟩
  intro fl z' hfl
  match fl, hfl with
  | .ret u, ⟨v, _, H', J, ru, q⟩ => exact ⟨v, H', J.os, J.bare, J.base, J.hok, ru, q⟩
  | .next, ⟨_, H', J, q⟩ => exact ⟨V.non, H', J.os, J.bare, J.base, J.hok, rfl, q⟩
  | .brk, ⟨_, _, _, q⟩ => exact q.elim
  | .cont, ⟨_, _, _, q⟩ => exact q.elim
/-- an __init__ whose last parameter has the default None -/
structure InitDf (P : Program) (w : World) (mg : Gm) (base : Heap) (k : Nat) (c : Str) (C : Addr) (n : Nat) (f : List D → ((List (Str × D)) → Prop) → (XD → Prop) → Prop) : Prop where
  one : InitOk P w mg base k c C n f
  ex : ∃ fa fd ps ds, Mk mg.K C fa ∧ Binds mg.K fd ps ds ∧ Vals [V.non] ds ∧ ps.length = n + 1 ∧ FnG P w mg.K mg.mg base k fa fd ps (spI mg c C n f)
section
variable {ι : Type} {Xs : ι → Cx} {mg : Gm} {Wx : WX} {pos : Pos}
theorem mkInitD {P : Program} {w : World} {base : Heap} {c : Str} {C : Addr} {qual : Str} {st : Stmt} {N ps : List Str} {k n : Nat} {f : List D → ((List (Str × D)) → Prop) → (XD → Prop) → Prop} (Fc : ClsF mg c C) (d : ∃ fa fd, Mk mg.K C fa ∧ FunDf mg.K "__init__" qual st [.non] fa fd) (S : FnScope N ps (defScope st)) (hn : ps.length = n + 1)
    (hb1 : ∀ (T : Addr) (kV doc pm : Value) (an : Option Addr) (cdv ct : Value) (us its : List Value), us.length = n + 1 → its.length = 1 →
      ∃ k, bindArgs (PySem.W.fnOf "__init__" qual (defArgs st) (defBody st) (defScope st) (.ref T) kV doc pm an cdv ct) ⟨us, []⟩ = seqItems? (.ref T) >>= k ∧ k (some its.toArray) = pure (ps.zip (us ++ its.drop 1)))
    (hb0 : ∀ (T : Addr) (kV doc pm : Value) (an : Option Addr) (cdv ct : Value) (us its : List Value), us.length = n → its.length = 1 →
      ∃ k, bindArgs (PySem.W.fnOf "__init__" qual (defArgs st) (defBody st) (defScope st) (.ref T) kV doc pm an cdv ct) ⟨us, []⟩ = seqItems? (.ref T) >>= k ∧ k (some its.toArray) = pure (ps.zip (us ++ its.drop 0)))
    (h : ∀ (fa : Addr) (cdv : Value) (A : Around) (outer : List PySem.Env) (s : Shared) (H : Hp) (E : XK), RmG k (A.deeper (PyProof.Rows.envOfC qual (defScope st) s.heap.objs.size fa cdv)) →
      ∃ g, DSs (fun _ : Unit => cxOf (L2.CX P w) P w mg.K mg.mg base N qual (defScope st) fa cdv A outer s H E) mg (fun cls d _ H' => E cls d H') (defBody st) g ∧
        ∀ x ds Q Ex, ds.length = n → f ds Q Ex → g ⟨fun ρ => ∃ fs r, ρ = .ob c x fs :: r ∧ Q fs, fun _ _ => False, fun _ => False, fun _ => False, fun x _ => Ex x⟩ (.ob c x [] :: startD (N.length - 1) ds)) :
    InitDf P w mg base (k + 1) c C n f := by
  obtain ⟨fa, fd, M, F⟩ := d
  have FA : FunA mg.K "__init__" qual st fa fd := F.any
  have key : FnG P w mg.K mg.mg base (k + 1) fa fd ps (spI mg c C n f) := by
   refine fnG_ofA FA S (fun vs H Q E hs => ?_) (fun cdv A outer s H vs Q E hr hs => ?_)
   · obtain ⟨W, ds, us, H1, x, dx, Qd, Ed, rfl, _, _, _, _, _, r, l, _⟩ := hs
     rw [List.length_cons, r.length, l, hn]
   · obtain ⟨W, ds, us, H1, x, dx, Qd, Ed, rfl, nx, ndx, ne, rfl, hh, r, l, hf, q, ex⟩ := hs
     obtain ⟨g, ⟨t, h1, h2⟩, h3⟩ := h fa cdv A outer s _ E hr
     have lu : us.length = n := by rw [r.length, l]
     have sd : Step W H1 W (upd H1 dx (.own x)) := Step.lay hh ndx
     have nx2 : (upd H1 dx (.own x)) x = none := by
       rw [upd_ne (Ne.symm ne)]
       exact nx
     have sx : Step W H1 W (upd (upd H1 dx (.own x)) x (.ins C dx [])) := sd.trans (Step.lay sd.holds nx2)
     refine ⟨t, h1 (), ?_⟩
     have hN : N.length = (N.length - 1) + 1 := by
       have q1 := congrArg List.length S.pre
       rw [List.length_take, hn] at q1
       omega
     have e0 : EnvR mg H1 W (upd (upd H1 dx (.own x)) x (.ins C dx [])) (L2.start N (.ref x :: us)) (.ob c x [] :: startD (N.length - 1) ds) := by
       have base0 := EnvR.start (N := N.tail) (mg := mg) (H := H1) r
       have lt : N.tail.length = N.length - 1 := List.length_tail
       have es : L2.start N (.ref x :: us) = some (.ref x) :: L2.start N.tail us := by
         unfold L2.start
         rw [List.map_cons, List.cons_append, List.length_cons, lt, Nat.sub_sub, Nat.add_comm 1]
       rw [es, ← lt]
       refine ⟨congrArg (· + 1) base0.len, fun i sl hi => ?_, fun i j s1 s2 o1 o2 a hij q1 q2 q3 q4 m1 m2 => ?_⟩
       · cases i with
         | zero =>
           cases hi
           exact ⟨_, rfl, [], rfl, ⟨C, dx, Fc.nm, upd_same⟩, hh.same.free nx, hh.nT nx, nx, rfl, .nil⟩
         | succ i =>
           obtain ⟨o, g1, g2⟩ := base0.sl i sl hi
           refine ⟨o, g1, g2.keep (Le.refl W) fun a _ u h5 h6 h7 => sx.mine h5 h6 h7⟩
       · have none2 : ∀ (j : Nat) (s : Sl) (o : Option V), (startD N.tail.length ds)[j]? = some s → a ∉ s.fp o := fun j s o hj m => by
           unfold startD at hj
           rcases List.mem_append.mp (List.mem_of_getElem? hj) with z | z
           · obtain ⟨_, _, z⟩ := List.mem_map.mp z
             rw [← z] at m
             cases m
           · have z := List.eq_of_mem_replicate z
             rw [z] at m
             cases m
         cases i with
         | succ i => exact none2 i s1 o1 q1 m1
         | zero =>
           cases j with
           | zero => exact hij rfl
           | succ j => exact none2 j s2 o2 q2 m2
     refine h2 W H1 _ _ (h3 x ds Qd Ed l hf) W _ _ _ sx e0 ⟨fun W' H' σ' ρ' s' e' k => ?_, fun _ _ _ _ _ _ _ _ _ k => k.elim, fun _ _ _ _ _ _ k => k.elim, fun _ _ _ _ _ _ k => k.elim, fun W' H' σ' ρ' cls dd y s' e' r' k => ex W' H' cls dd y s' r' k⟩
     obtain ⟨fs, rr, rfl, hq⟩ := k
     obtain ⟨o, g1, vs, g2, ⟨C', dy, hc, g3⟩, g4, g5, g6, hk, rs⟩ := e'.sl 0 _ rfl
     have ec := Fc.eq hc
     subst ec
     exact q W' H' vs fs dy s' g3 g4 g5 hk rs hq
  obtain ⟨d1, v1, b1⟩ := F.binds1 (ps := ps) (n + 1) 1 (List.cons_ne_nil _ _) (by rw [hn]; rfl) hb1
  obtain ⟨d0, v0, b0⟩ := F.binds1 (ps := ps) n 0 (List.cons_ne_nil _ _) (by rw [hn]; rfl) hb0
  cases v1
  exact ⟨⟨fa, fd, ps, M, b1, hn, key⟩, ⟨fa, fd, ps, d0, M, b0, v0, hn, key⟩⟩
/-- the making, with defaults -/
theorem makeGd {X : Cx} {C f : Addr} {k : Nat} {fd : FuncData} {ps : List Str} {sp : Sp} {Ex : XK} {pins : List (Addr × Obj)} {σ : St} {H : Hp} {z : Shared} {Q : VK} {us ds : List Value} {vs dvs : List V} (M : Mk X.K C f) (F : FnG X.prog X.w X.K X.mg X.base k f fd ps sp) (m : RmG (k + 1) X.A) (hb : Binds X.K fd ps ds) (rd : Vals dvs ds)
    (hx : PassesAt (L2.CX X.prog X.w) X σ Ex) (I : Inv X pins σ H z) (rv : Vals vs us)
    (h : ∀ x dx, H x = none → H dx = none → dx ≠ x → sp (.ref x :: (vs ++ dvs)) (upd (upd H dx (.own x)) x (.ins C dx [])) (fun v H2 => v = .non ∧ Q (.ref x) H2) Ex) : wpAny (model X.prog X.w) X.A (call (.ref C) us) (EP X pins σ Q) X.xe z := by
  have fr0 := I.hok.fresh (Nat.le_refl z.heap.objs.size)
  have fr1 := I.hok.fresh (Nat.le_succ z.heap.objs.size)
  have want := h (z.heap.objs.size + 1) z.heap.objs.size fr1 fr0 (Nat.ne_of_lt (Nat.lt_succ_self _))
  have J := Inv.made (C := C) I
  have rv2 : Vals (V.ref (z.heap.objs.size + 1) :: (vs ++ dvs)) (Value.ref (z.heap.objs.size + 1) :: (us ++ ds)) := .cons rfl (rv.append rd)
  have ln : ((Value.ref (z.heap.objs.size + 1) :: us) ++ ds).length = ps.length := by
    rw [List.cons_append, ← rv2.length]
    exact F.ln _ _ _ _ want
  have bd := hb _ (Value.ref (z.heap.objs.size + 1) :: us) J.kIn ln
  rw [List.cons_append] at bd
  have gd : (X.A.under (.builtin "type.__call__" ⟨.ref C :: us, []⟩)).guards = some [] := by
    simp [Around.under, Code.guards, Code.isGuard, guardIds, pushGuards, m.g]
  have cd := F.go _ X.stack _ _ ⟨Value.ref (z.heap.objs.size + 1) :: us, []⟩ _ _ _ Ex ⟨m.r.make C us [], gd⟩ (J.env0.make C us []) bd rv2 want
  refine wpAny_call (make_map (f := f) I.kIn M.makes M.init (beq_iff_eq.mp M.fn) (codeAny_mono cd ?_))
  intro res z' hq
  match res, hq with
  | .error e, hq => exact hx pins _ _ e z' J hq
  | .ok .next, hq => exact hq.elim
  | .ok .brk, hq => exact hq.elim
  | .ok .cont, hq => exact hq.elim
  | .ok (.ret u), hq =>
    obtain ⟨v, H', I3, ru, ev, q3⟩ := J.after hq
    subst ev
    exact ⟨ru, ⟨V.ref (z.heap.objs.size + 1), H', I3, rfl, q3⟩⟩
noncomputable abbrev dMake0 (c : Str) (f : List D → ((List (Str × D)) → Prop) → (XD → Prop) → Prop) : DTE := fun _ Q E => f [.non] (fun fs => Q (.ins c fs)) E
theorem de_make0D {P : Program} {w : World} {base : Heap} {k : Nat} {c : Str} {C : Addr} {f : List D → ((List (Str × D)) → Prop) → (XD → Prop) → Prop} {p : Pos} (Fc : ClsF mg c C) (F : InitDf P w mg base k c C 1 f) (hr : ∀ i, RmG (k + 1) (Xs i).A) (tk : ∀ i, Pas (Xs i) Wx)
    (hP : ∀ j, (Xs j).prog = P ∧ (Xs j).w = w ∧ (Xs j).K = mg.K ∧ (Xs j).mg = mg.mg ∧ (Xs j).base = base := by intro _; exact ⟨rfl, rfl, rfl, rfl, rfl⟩) (hg : ∀ j, Gl (Xs j) c := by intro _; rfl) (hd : (c == ("__debug__" : Str)) = false := by decide) : DE Xs mg Wx (.Call (.Name c p) [] [] pos) (dMake0 c f) := by
  obtain ⟨fa, fd, ps, ds, M, hb, hv, hl, G⟩ := F.ex
  refine ⟨fun σ H Q => ∀ x dx, H x = none → H dx = none → dx ≠ x → spI mg c C 1 f [.ref x, .non] (upd (upd H dx (.own x)) x (.ins C dx [])) (fun v H2 => v = .non ∧ Q (.ref x) H2) (WE Wx σ), fun i => ?_, ?_⟩
  · obtain ⟨p1, p2, p3, p4, p5⟩ := hP i
    subst p1 p2 p5
    constructor
    intro pins z σ H Q I hw
    apply wpAny_Call_Name_kw
    apply ld_glob I (hg i) (by rw [p4]; exact Fc.nm) _ hd
    exact PySem.W.callWith_K0 I.kIn (by rw [p3]; exact M.kp) (makeGd (us := []) (vs := []) (by rw [p3]; exact M) (by rw [p3, p4]; exact G) (hr i) (by rw [p3]; exact hb) hv (tk i σ) I .nil hw)
  · intro B ρ Q E hf W σ H Q' hh e x q
    intro a dx na ndx ne
    refine ⟨W, [.non], [.non], H, a, dx, _, E, rfl, na, ndx, ne, rfl, hh, .cons .non .nil, rfl, hf, fun W' H' gs fs dy s' ha' nw nt hk rs hq => ⟨rfl, ?_⟩, fun W' H' cls dd y s' r h => x W' H' cls dd y s' r h⟩
    have st := s'.taken na ha' nw nt
    exact q _ _ _ _ st (.ins Fc.nm (show upd W'.H a _ a = _ from upd_same) hk (rs.mono (Wd.le_put nw))) hq
end
end FP
/-! FP61: displays with ** . -/
namespace FP
open PySem L2
section
variable {prog : Program} {w : World} {K : Type} [DecidableEq K] {knd : KeyKind prog w K} {A : Around} {E : Value → Shared → Prop} {s : Shared}
theorem wp_dictPut {d : Addr} {kvs : List (K × Value)} {k : K} {key v : Value} {Q : Unit → Shared → Prop} (hkey : knd.is k key = true) (hm : s.heap.DictOf knd d kvs)
    (hQ : ∀ h', h'.DictOf knd d (stored kvs k v) → Heap.SameBut d s.heap h' → Q () { s with heap := h' })
    (hsz : kvs.length ≤ sizeLine := by size_fits) :
    wpAny (model prog w) A (dictPut d (knd.hash k) key v) Q E s := by
  obtain ⟨o, es, ep, ho, hc, hd, hk, hp, hn⟩ := hm
  have hes : es.size ≤ sizeLine := by
    have e1 := hp.length
    have e2 : es.toList.length = es.size := by simp
    omega
  unfold dictPut
  refine wpAny_bind (wpAny_dictFind_of hkey ho hd hk ?_)
  have hidx : (es.findIdx? fun e => knd.is k e.key) = kvs.findIdx? fun kv => decide (kv.1 = k) := by
    rw [← hp.findIdx k]; obtain ⟨l⟩ := es; simp
  cases hi : es.findIdx? fun e => knd.is k e.key with
  | some i =>
    refine wpAny_updateDict ho hd (hQ _ ⟨_, _, ep, Heap.get?_update_self _ ho (Obj.isFreed_of_dict (Obj.data_mapDict hd _)),
      hc.mapDict _, Obj.data_mapDict hd _, hk.modify _ _, ?_, ?_⟩ (Heap.SameBut.update ..))
    · rw [stored, if_pos (any_of_findIdx_some (hidx ▸ hi))]
      have hl : (es.toList.findIdx? fun e => knd.is k e.key) = some i := by rw [← hi]; obtain ⟨l⟩ := es; simp
      have := hp.modify hn hl v
      obtain ⟨l⟩ := es
      simpa using this
    · rw [stored, if_pos (any_of_findIdx_some (hidx ▸ hi)), keys_map_store]; exact hn
  | none =>
    have hnot : k ∉ kvs.map (·.1) := not_mem_of_findIdx_none (hidx ▸ hi)
    have hany : ¬ (kvs.any fun kv => decide (kv.1 = k)) = true := by
      rw [List.any_eq_true]; rintro ⟨kv, hkv, he⟩
      exact hnot (List.mem_map.mpr ⟨kv, hkv, of_decide_eq_true he⟩)
    refine wpAny_updateDictKeys (hz := hes) ho hd (hQ _ ⟨_, _, ep + 1, Heap.get?_update_self _ ho (Obj.isFreed_of_dict (Obj.data_mapDictKeys hd _)),
      hc.mapDictKeys _, Obj.data_mapDictKeys hd _, hk.push hkey _, ?_, ?_⟩ (Heap.SameBut.update ..))
    · rw [stored, if_neg hany]
      have := hp.append hkey (knd.hash k) v
      obtain ⟨l⟩ := es
      simpa using this
    · rw [stored, if_neg hany, List.map_append, List.nodup_append]
      refine ⟨hn, by simp, ?_⟩
      intro a ha b hb
      simp only [List.map_cons, List.map_nil, List.mem_singleton] at hb
      subst hb
      exact fun e => hnot (e ▸ ha)
theorem wp_mergeMapping {d o : Addr} {kvs more : List (K × Value)} {Q : Unit → Shared → Prop} (hdo : d ≠ o) (hoS : (o == sysModules) = false) (hnr : ∀ k v, knd.is k v = true → ∀ a, v ≠ .ref a)
    (hd : s.heap.DictOf knd d kvs) (ho : s.heap.DictOf knd o more)
    (hQ : ∀ h', h'.DictOf knd d (merged kvs more) → h'.DictOf knd o more → Heap.SameBut d s.heap h' → Q () { s with heap := h' })
    (hsz : kvs.length + more.length ≤ sizeLine := by size_fits) :
    wpAny (model prog w) A (mergeMapping d (.ref o) false) Q E s := by
  obtain ⟨od, esd, epd, hod, hcd, hdd, hkd, hpd, hnd⟩ := id hd
  obtain ⟨oo, eso, epo, hoo, hco, hdo', hko, hpo, hno⟩ := id ho
  have hlen : more.length = eso.size := by rw [← hpo.length]; simp
  have loop : wpAny (model prog w) A (do
      let l ← dictEntries o
      let size := l.size
      let epoch ← dictEpoch o
      forIn (List.range size) PUnit.unit fun i (_ : PUnit) => (do
          let l' ← dictEntries o
          match l'[i]? with
            | some e => do
              holding [e.key, e.val] (dictPut d e.hash e.key e.val)
              let ep' ← dictEpoch o
              if (ep' != epoch) = true then do
                  (unsupported "dict.changed-during-merge" : Sem PUnit)
                  pure (ForInStep.yield PUnit.unit)
                else pure (ForInStep.yield PUnit.unit)
            | _ => do
              (unsupported "dict.changed-during-merge" : Sem PUnit)
              pure (ForInStep.yield PUnit.unit) : Sem (ForInStep PUnit))
      pure ()) Q E s := by
    refine wpAny_bind (wpAny_dictEntries hoo hdo' ?_)
    dsimp only
    refine wpAny_bind (wpAny_dictEpoch hoo hdo' ?_)
    refine wpAny_bind ?_
    rw [List.range_eq_range']
    refine wpAny_forIn_list _
      (fun rest _ s' => ∃ h' i, s' = { s with heap := h' } ∧ rest = List.range' i (eso.size - i) ∧ i ≤ eso.size ∧ h'.DictOf knd d (merged kvs (more.take i)) ∧ h'.get? o = some oo ∧ Heap.SameBut d s.heap h')
      _ ?_ ?_ _ _ ⟨s.heap, 0, rfl, by simp, Nat.zero_le _, by simpa [merged] using hd, hoo, Heap.SameBut.refl _ _⟩
    · rintro x rest b s' ⟨h', i, rfl, hr, hi, hd', hoo', hs'⟩
      have hlt : i < eso.size := by
        rcases Nat.lt_or_ge i eso.size with h | h
        · exact h
        · rw [Nat.sub_eq_zero_of_le h] at hr; simp at hr
      obtain ⟨rfl, hrest⟩ : x = i ∧ rest = List.range' (i + 1) (eso.size - (i + 1)) := by
        have e : eso.size - i = (eso.size - (i + 1)) + 1 := by omega
        rw [e, List.range'_succ] at hr
        injection hr with h1 h2
        exact ⟨h1, h2⟩
      refine wpAny_bind (wpAny_dictEntries hoo' hdo' ?_)
      rw [Array.getElem?_eq_getElem hlt]
      obtain ⟨kv, hkv⟩ : ∃ kv, more[x]? = some kv := ⟨more[x]'(by rw [hlen]; exact hlt), List.getElem?_eq_getElem _⟩
      obtain ⟨k, v⟩ := kv
      obtain ⟨hkey, hval⟩ := hpo.get? (e := eso[x]) (by simp [hlt]) hkv
      obtain ⟨k', hkey', hhash⟩ := hko eso[x] (Array.getElem_mem hlt)
      obtain rfl : k' = k := knd.inj _ _ _ hkey' hkey
      show wpAny _ _ (holding [eso[x].key, eso[x].val] (dictPut d eso[x].hash eso[x].key eso[x].val) >>= _) _ _ _
      rw [hhash, hval]
      have hmx : (merged kvs (more.take x)).length ≤ sizeLine := by
        have e1 := merged_length_le kvs (more.take x)
        have e2 : (more.take x).length ≤ more.length := by rw [List.length_take]; omega
        omega
      refine wpAny_bind (wpAny_holding (wp_dictPut (hsz := hmx) hkey hd' fun h'' hd'' hs'' => ?_))
      have hoo'' : h''.get? o = some oo := (hs''.2 o (Ne.symm hdo)).trans hoo'
      refine wpAny_bind (wpAny_dictEpoch hoo'' hdo' ?_)
      rw [if_neg (by simp)]
      exact wpAny_pure ⟨h'', x + 1, rfl, hrest, hlt, by rw [merged_take_succ kvs more x (k', v) hkv]; exact hd'', hoo'', hs'.trans hs''⟩
    · rintro b s' ⟨h', i, rfl, hr, hi, hd', hoo', hs'⟩
      have hin : i = eso.size := by
        rcases Nat.lt_or_ge i eso.size with h | h
        · have e : eso.size - i = (eso.size - (i + 1)) + 1 := by omega
          rw [e, List.range'_succ] at hr; exact nomatch hr
        · exact Nat.le_antisymm hi h
      refine wpAny_pure (hQ h' ?_ ⟨oo, eso, epo, hoo', hco, hdo', hko, hpo, hno⟩ hs')
      rw [hin, ← hlen, List.take_length] at hd'; exact hd'
  unfold mergeMapping
  refine wpAny_bind (wpAny_isInstance ho.typeIs isSubtype_dict_dict ?_)
  dsimp only
  rw [if_pos rfl]
  refine wpAny_bind (wpAny_specialOf ho.typeIs F.slot_dict_iter.lookup (wpAny_bind (wpAny_pure ?_)))
  have eb : (some (Value.builtin "dict.__iter__") == some (Value.builtin "dict.__iter__")) = true := by simp
  rw [eb]
  dsimp only
  rw [if_neg (by rw [hoS]; exact Bool.false_ne_true)]
  refine wpAny_bind (wpAny_dictEntries hod hdd ?_)
  split
  · refine wpAny_bind (wpAny_dictEntries hoo hdo' ?_)
    refine wpAny_bind ?_
    rw [← Array.forIn_toList]
    refine wpAny_forIn_list _ (fun rest _ s' => s' = s ∧ ∀ e ∈ rest, e ∈ eso.toList) _ ?_ ?_ _ _ ⟨rfl, fun _ h => h⟩
    · rintro e rest b s' ⟨rfl, hm⟩
      obtain ⟨k', hkey', _⟩ := hko e (by simpa using hm e List.mem_cons_self)
      split
      · rename_i a ha
        exact absurd ha (hnr _ _ hkey' a)
      · exact wpAny_pure ⟨rfl, fun x hx => hm x (List.mem_cons_of_mem _ hx)⟩
    · rintro b s' ⟨rfl, _⟩
      exact loop
  · exact loop
/-- a merging that raises nothing -/
theorem wp_star {d : Addr} {m : Value} {Q : Unit → Shared → Prop} {k1 k3 : Value → Sem Unit} {k2 : Value → Sem Unit} (h : ∀ E', wpAny (model prog w) A (mergeMapping d m false) Q E' s) :
    wpAny (model prog w) A ((((holding [Value.ref d, m] (mergeMapping d m false)).onRaise k1).tryCatch k2).onRaise k3) Q E s :=
  wpAny_onRaise (wpAny_tryCatch (wpAny_onRaise (wpAny_holding (h _))))
theorem wp_dispK {m1 mk mv : Sem Value} {Q : Value → Shared → Prop}
    (h : wpAny (model prog w) A m1 (fun v s1 => ∀ E', wpAny (model prog w) A (mergeMapping s.heap.objs.size v false) (fun _ s2 => wpAny (model prog w) A (subDict [(mk, mv)]) (fun u s3 => ∀ E', wpAny (model prog w) A (mergeMapping s.heap.objs.size (.ref u) false) (fun _ s4 => Q (.ref s.heap.objs.size) s4) E' s3) E s2) E' s1) E
      { s with heap := s.heap.push { cls := .type "dict", data := .dict #[] } }) : wpAny (model prog w) A (dictDisplay [(none, m1), (some mk, mv)]) Q E s := by
  unfold dictDisplay
  dsimp only
  rw [List.forIn_cons]
  refine wpAny_bind (wpAny_bind (wpAny_bind (wpAny_pure (wpAny_bind (wpAny_alloc (wpAny_bind (wpAny_holding (wpAny_mono h (fun v s1 h1 => wpAny_bind (wp_star fun E' => wpAny_mono (h1 E') (fun _ s2 h2 => wpAny_pure ?_) fun _ _ e => e)) fun _ _ e => e))))))))
  dsimp only
  rw [List.forIn_cons]
  refine wpAny_bind (wpAny_pure ?_)
  dsimp only
  rw [List.forIn_nil]
  refine wpAny_pure (wpAny_bind ?_)
  refine wpAny_bind (wpAny_holding (wpAny_mono h2 (fun u s3 h3 => wpAny_bind (wpAny_onRaise (wpAny_holding (wpAny_mono (h3 _) (fun _ s4 h4 => wpAny_pure ?_) fun _ _ e => e)))) fun _ _ e => e))
  exact wpAny_pure h4
end
end FP
/-! FP62: {**a, **b}, {**a, k: v}. -/
namespace FP
open PySem L2
section
variable {X : Cx} {pos : Pos}
theorem mix_nr {P : Program} {w : World} (k : Key) (v : Value) (h : (mixKind P w).is k v = true) (a : Addr) : v ≠ .ref a := by
  rcases keyIs_shape h with ⟨i, t, _, rfl⟩ | ⟨z, t, _, rfl⟩ <;> intro q <;> cases q
theorem merge_I {pins : List (Addr × Obj)} {σ : L2.St} {H : Hp} {s : Shared} {A : Around} {p a : Addr} {kvs ls : List (Key × V)} {E' : Value → Shared → Prop} {Q : Unit → Shared → Prop} (I : Inv X pins σ H s) (hp : H p = some (.dK kvs)) (ha : Rd H a (.dK ls)) (ne : p ≠ a) (hz : kvs.length + ls.length ≤ sizeLine)
    (h : ∀ s', Inv X pins σ (upd H p (.dK (mergeK kvs ls))) s' → Q () s') : wpAny (model X.prog X.w) A (mergeMapping p (.ref a) false) Q E' s := by
  obtain ⟨z1, d1, vs, r1, dd1⟩ := dk_of I.hok hp
  obtain ⟨z2, d2, us, r2, dd2⟩ := dk_rd I.hok ha
  refine wp_mergeMapping (knd := mixKind X.prog X.w) ne d2 mix_nr dd1 dd2 (fun h' dd' _ hs => h _ ?_) (by rw [← r1.length, ← r2.length]; exact hz)
  have he : ∃ q, h'.get? p = some q := let ⟨q, _, _, hq, _⟩ := dd'; ⟨q, hq⟩
  exact d_write (t' := s.toks) I (by rw [hp]; exact True.intro) hs he (dk_new (Nat.le_trans (length_mergeK ls kvs) hz) d1 (r2.merge r1) dd')
noncomputable def tDispK (ta tk tv : TE) : TE := fun σ H Q => ∀ p, H p = none → ta σ (upd H p (.dK [])) fun x H1 => H1 p = some (.dK []) ∧ ∃ a kvs, x = .ref a ∧ Rd H1 a (.dK kvs) ∧ p ≠ a ∧ kvs.length < sizeLine ∧
  ∀ r, upd H1 p (.dK (mergeK [] kvs)) r = none → tPairs [(tk, tv)] σ (upd (upd H1 p (.dK (mergeK [] kvs))) r (.dK [])) fun ps H3 => H3 p = some (.dK (mergeK [] kvs)) ∧ H3 r = some (.dK []) ∧ ∃ kk z, ps = [(kV kk, z)] ∧ Q (.ref p) (upd (upd H3 r (.dK [(kk, z)])) p (.dK (putK (mergeK [] kvs) kk z)))
theorem pe_dispK {a k v : Expr} {ta tk tv : TE} (ha : PE X a ta) (hk : PE X k tk) (hv : PE X v tv) : PE X (.Dict [none, some k] [a, v] pos) (tDispK ta tk tv) := by
  refine ⟨fun pins s σ H Q I q => ?_⟩
  have hn := I.hok.fresh (Nat.le_refl s.heap.objs.size)
  have I1 := I.laid (a := s.heap.objs.size) (o := .dK []) (h' := s.heap.push { cls := .type "dict", data := .dict #[] }) (t' := s.toks) (fun _ _ q => Heap.get?_push_of_some _ q) (Nat.le_refl _) (dk_empty s.heap I.big)
  rw [arm_eval_Dict]
  refine wpAny_bind (wpAny_standAt ?_)
  show wpAny _ _ (dictDisplay [(none, do let x ← eval a X.env; standAt pos; pure x), (some (eval k X.env), do let x ← eval v X.env; standAt pos; pure x)]) _ _ s
  refine wp_dispK (wpAny_bind (thn (ha.run pins _ σ _ _ I1 (q _ hn)) fun v1 s1 ⟨x, H1, I2, rx, e1, c, kvs, ex, hc, ne, hz, q1⟩ => wpAny_bind (wpAny_standAt (wpAny_pure fun E' => ?_))))
  subst ex
  obtain rfl : v1 = Value.ref c := rx
  refine merge_I I2 e1 hc ne (by rw [List.length_nil, Nat.zero_add]; exact Nat.le_of_lt hz) fun s2 I3 => ?_
  have hn2 := I3.hok.fresh (Nat.le_refl s2.heap.objs.size)
  have I4 := I3.laid (a := s2.heap.objs.size) (o := .dK []) (h' := s2.heap.push { cls := .type "dict", data := .dict #[] }) (t' := s2.toks) (fun _ _ q => Heap.get?_push_of_some _ q) (Nat.le_refl _) (dk_empty s2.heap I3.big)
  refine wpAny_subDict (knd := mixKind X.prog X.w) (by show 1 ≤ 15; decide) ?_
  have pp : PPs X pos [some k] [v] [(tk, tv)] := pps_cons hk hv pps_nil
  refine thn (pp.run pins _ σ _ _ I4 (q1 _ hn2)) fun ws s3 ⟨ps, H3, I5, rel, g1, g2, kk, z, ep, q3⟩ => ?_
  subst ep
  obtain ⟨rs, cr, rk⟩ := carries_of (P := X.prog) (w := X.w) (kvs := [(kk, z)]) rel
  obtain ⟨z5, hd5, vs0, r0, dd⟩ := dk_of I5.hok g2
  cases r0
  refine ⟨rs, cr, dd, fun h' dd' hs E'' => ?_⟩
  have he : ∃ q, h'.get? s2.heap.objs.size = some q := let ⟨q, _, _, hq, _⟩ := dd'; ⟨q, hq⟩
  have I6 := d_write (t' := s3.toks + ws.length) I5 (by rw [g2]; exact True.intro) hs he (dk_new (by show 1 ≤ sizeLine; decide) hd5 (show KV (mergeK [] [(kk, z)]) _ from rk.merge .nil) dd')
  have npr : s.heap.objs.size ≠ s2.heap.objs.size := fun e => by
    rw [← e, upd_same] at hn2
    cases hn2
  refine merge_I (kvs := mergeK [] kvs) (ls := [(kk, z)]) I6 (by rw [upd_ne npr]; exact g1) (.inl (by rw [upd_same]; rfl)) npr ?_ fun s7 I7 => ⟨.ref _, _, I7, rfl, q3⟩
  have h1 := length_mergeK kvs []
  rw [List.length_nil] at h1
  show (mergeK [] kvs).length + 1 ≤ sizeLine
  omega
end
variable [Tabl]
section
variable {ι : Type} {Xs : ι → Cx} {mg : Gm} {Wx : WX} {pos : Pos}
theorem rd_ne {W : Wd} {H : Hp} {a p : Addr} {o : Obj} {kvs : List (Key × V)} (hh : Holds W H) (ha : W.H a = some (.frz o (.dK kvs))) (nw : W.H p = none) : p ≠ a := fun e => by
  rw [e, ha] at nw
  cases nw
noncomputable abbrev dDispK (fa fk fv : DTE) : DTE := fun ρ Q E => fa ρ (fun x => match x with
  | .dct kvs => kvs.length < sizeLine ∧ fk ρ (fun y => fv ρ (fun z => ∃ kk, keyD y = some kk ∧ Q (.dct (putKD (mergeD [] kvs) kk z))) E) E
  | _ => False) E
theorem de_dispK {a k v : Expr} {fa fk fv : DTE} (ha : DE Xs mg Wx a fa) (hk : DE Xs mg Wx k fk) (hv : DE Xs mg Wx v fv) : DE Xs mg Wx (.Dict [none, some k] [a, v] pos) (dDispK fa fk fv) := by
  obtain ⟨ta, a1, a2⟩ := ha
  obtain ⟨tk, k1, k2⟩ := hk
  obtain ⟨tv, v1, v2⟩ := hv
  refine ⟨_, fun i => pe_lk (pe_dispK (a1 i) (k1 i) (v1 i)), ?_⟩
  intro B ρ Q E hf W σ H Q' hh e x q p hp
  have s0 := Step.lay hh hp (o := .dK [])
  refine a2 B ρ _ E hf W σ (upd H p (.dK [])) _ s0.holds (e.step s0) (x.step s0) fun W1 H1 v d s1 r1 q1 => ?_
  obtain ⟨c1, c2, c3⟩ := s1.mine (a := p) upd_same (hh.same.free hp) (hh.nT hp)
  obtain ⟨kvs, rfl, q1⟩ := dctOf q1
  obtain ⟨c, o, us, rfl, ha, hk, rs⟩ := r1.dctI
  obtain ⟨hz, q1⟩ := q1
  refine ⟨c1, c, us, rfl, .inr ⟨o, s1.holds.same _ _ ha⟩, rd_ne s1.holds ha c2, by rw [len_keys hk]; exact hz, fun r hr => ?_⟩
  have s01 := s0.trans s1
  have s2 : Step W H W1 (upd H1 p (.dK (mergeK [] us))) := s01.own hp c1 c2 c3
  have hr1 : H1 r = none := by
    by_cases e : r = p
    · rw [e, upd_same] at hr
      cases hr
    · rw [upd_ne e] at hr
      exact hr
  have hrH : H r = none := by
    cases z : H r with
    | none => rfl
    | some o =>
      obtain ⟨o', e'⟩ := s01.live r o z
      rw [e'] at hr1
      cases hr1
  have s3 := Step.lay s2.holds hr (o := .dK [])
  have s03 := s2.trans s3
  obtain ⟨m1, m2⟩ := merge_v (us0 := []) (kvs0 := []) hk rs rfl .nil
  refine k2 B ρ _ E q1 W1 σ _ _ s3.holds (e.step s03) (x.step s03) fun W4 H4 v4 d4 s4 r4 q4 => ?_
  have s04 := s03.trans s4
  refine v2 B ρ _ E q4 W4 σ H4 _ s4.holds (e.step s04) (x.step s04) fun W5 H5 v5 d5 s5 r5 q5 => ?_
  obtain ⟨kk, hkk, q6⟩ := q5
  have s45 := s4.trans s5
  have npr : p ≠ r := fun e => by rw [← e, upd_same] at hr; cases hr
  obtain ⟨g1, g2, g3⟩ := s45.mine (a := p) (by rw [upd_ne npr]; exact upd_same) c2 c3
  obtain ⟨t1, t2, t3⟩ := s45.mine (a := r) upd_same (s2.holds.same.free hr) (s2.holds.nT hr)
  have ek := keyD_v r4 hkk
  subst ek
  refine ⟨g1, t1, kk, v5, rfl, p, _, rfl, upd_same, True.intro, fun od => ?_⟩
  rw [upd_upd]
  obtain ⟨n1, n2⟩ := put_rep (k := kk) m1 (m2.mono s45.le) r5
  have s5a : Step W H W5 (upd H5 r (.dK [(kk, v5)])) := (s03.trans s45).own hrH t1 t2 t3
  exact q _ _ _ _ ((s5a.own hp (by rw [upd_ne npr]; exact g1) g2 g3).taken hp upd_same g2 g3) (Rep.newDct n1 n2 g2) q6
end
end FP
/-! FP63: dicts of plain data compared. -/
namespace FP
open PySem L2
end FP
/-! FP64: more small steps. -/
namespace FP
open PySem L2
variable [Tabl]
section
variable {f f2 : DTE} {g : DTS} {N : Nd} {ρ : Env} {i j : Nat}
theorem seq_setF {c fl : Str} {a : Addr} {fs : List (Str × D)} (h : ρ[i]? = some (.ob c a fs)) (d : D) (hl : fs.length < 1000) (hf : Ev f ρ d) (hg : g N (ρ.set i (.ob c a (putD fl d fs)))) : dSeq (dSetF i c fl f) g N ρ := by
  show dSetF i c fl f _ ρ
  unfold dSetF
  refine hf _ _ ?_
  rw [h]
  exact ⟨rfl, hl, hg⟩
theorem end_setF {c fl : Str} {a : Addr} {fs : List (Str × D)} (h : ρ[i]? = some (.ob c a fs)) (d : D) (hl : fs.length < 1000) (hf : Ev f ρ d) (hn : N.nx (ρ.set i (.ob c a (putD fl d fs)))) : dSetF i c fl f N ρ := by
  unfold dSetF
  refine hf _ _ ?_
  rw [h]
  exact ⟨rfl, hl, hn⟩
theorem seq_expr (hf : ∀ (Q : D → Prop) (E : XD → Prop), (∀ d, Q d) → f ρ Q E) (hg : g N ρ) : dSeq (dDrop f) g N ρ := hf _ _ fun _ => hg
theorem seq_setOD {gd : DTD} (kvs : List (Key × D)) (hf : ∀ (Q : List (Key × D) → Prop) (E : XD → Prop), Q kvs → gd ρ Q E) (hg : g N (ρ.set i (.od kvs))) : dSeq (dSetOD i gd) g N ρ := hf _ _ hg
theorem seq_setODP {gd : DTD} (P : List (Key × D) → Prop) (hf : ∀ (Q : List (Key × D) → Prop) (E : XD → Prop), (∀ kvs, P kvs → Q kvs) → gd ρ Q E) (hg : ∀ kvs, P kvs → g N (ρ.set i (.od kvs))) : dSeq (dSetOD i gd) g N ρ := hf _ _ hg
theorem seq_parOD (P : D → Prop) (hf : EvP f ρ P) (hg : ∀ d, P d → g N ((ρ.set i (.d d)).set j (.od []))) : dSeq (dParOD i j f dODn) g N ρ := hf _ _ hg
theorem seq_odPop {kvs : List (Key × D)} (h : ρ[i]? = some (.od kvs)) (kk : Key) (y z : D) (hy : keyD y = some kk) (hk : Ev f ρ y) (hz : Ev f2 ρ z) (hg : g N (ρ.set i (.od (dropKD kvs kk)))) : dSeq (dOdPop i f f2) g N ρ := by
  show dOdPop i f f2 _ ρ
  unfold dOdPop
  rw [h]
  exact hk _ _ (hz _ _ ⟨kk, hy, hg⟩)
theorem odPut {kvs : List (Key × D)} (h : ρ[i]? = some (.od kvs)) (kk : Key) (y v : D) (hy : keyD y = some kk) (hl : kvs.length < sizeLine) (hk : Ev f ρ y) (hv : Ev f2 ρ v) (hn : N.nx (ρ.set i (.od (putKD kvs kk v)))) : dOdPut i f f2 N ρ := by
  unfold dOdPut
  rw [h]
  exact hv _ _ (hk _ _ ⟨kk, hy, hl, hn⟩)
theorem odPutP {kvs : List (Key × D)} (h : ρ[i]? = some (.od kvs)) (kk : Key) (y : D) (P : D → Prop) (hy : keyD y = some kk) (hl : kvs.length < sizeLine) (hk : Ev f ρ y) (hv : EvP f2 ρ P) (hn : ∀ v, P v → N.nx (ρ.set i (.od (putKD kvs kk v)))) : dOdPut i f f2 N ρ := by
  unfold dOdPut
  rw [h]
  exact hv _ _ fun v pv => hk _ _ ⟨kk, hy, hl, hn v pv⟩
theorem frzD {kvs : List (Key × D)} {s : DTS} (h : ρ[i]? = some (.od kvs)) (hs : s N (ρ.set i (.d (.dct kvs)))) : dFrzD i s N ρ := by
  unfold dFrzD
  rw [h]
  exact hs
theorem seq_ifF {c : DTT} {f1 : DTS} (hc : EvT c ρ false) (h : g N ρ) : dSeq (dIfS c f1 dNext) g N ρ := hc _ _ h
theorem seq_ifT {c : DTT} {f1 f2 : DTS} (hc : EvT c ρ true) (h : dSeq f1 g N ρ) : dSeq (dIfS c f1 f2) g N ρ := hc _ _ h
theorem end_if {c : DTT} {f1 f2 : DTS} (b : Bool) (hc : EvT c ρ b) (h : bit b (f1 N ρ) (f2 N ρ)) : dIfS c f1 f2 N ρ := hc _ _ h
theorem seq_as {T : Tg} {ρ' : Env} (d : D) (hf : Ev f ρ d) (hp : T.put d ρ = some ρ') (hg : g N ρ') : dSeq (dAsg T f) g N ρ := hf _ _ ⟨ρ', hp, hg⟩
theorem seq_asP {T : Tg} (P : D → Prop) (hf : EvP f ρ P) (hg : ∀ d, P d → ∃ ρ', T.put d ρ = some ρ' ∧ g N ρ') : dSeq (dAsg T f) g N ρ := hf _ _ hg
theorem seq_for {w : DTI} {T : Tg} {b : DTS} (ds : List D) (hw : ∀ (Q : List D → Prop) (E : XD → Prop), Q ds → w ρ Q E) (h : forD T b { N with nx := g N } ds ρ) : dSeq (dFor w T b) g N ρ := hw _ _ h
/-! ### tests by their values -/
variable {c d : DTT} {b b2 : Bool}
theorem or_t (hc : EvT c ρ true) : EvT (dOr c d) ρ true := fun Q E q => hc _ _ q
theorem or_f (hc : EvT c ρ false) (hd : EvT d ρ b) : EvT (dOr c d) ρ b := fun Q E q => hc _ _ (hd _ _ q)
theorem and_v (hc : EvT c ρ b) (hd : b = true → EvT d ρ b2) : EvT (dAnd c d) ρ (b && b2) := fun Q E q => hc _ _ (by
  cases b with
  | true => exact hd rfl _ _ q
  | false => exact q)
theorem not_v (hc : EvT c ρ b) : EvT (dNot c) ρ (!b) := fun Q E q => hc _ _ q
theorem b_v (hf : Ev f ρ (.bl b)) : EvT (dB f) ρ b := fun Q E q => hf _ _ q
theorem Ev.eq {x y : D} (h : Ev f ρ x) (e : x = y) : Ev f ρ y := e ▸ h
theorem EvT.eq (h : EvT c ρ b) (e : b = b2) : EvT c ρ b2 := e ▸ h
end
end FP
/-! FP65: what expressions come to, put together by values. -/
namespace FP
open PySem L2
variable [Tabl]
section
variable {ρ : Env} {f g fa fb fk fv : DTE} {c d : D}
/-- the arguments come to just these data -/
noncomputable abbrev EvA (g : DTA) (ρ : Env) (ds : List D) : Prop := ∀ (Q : List D → Prop) (E : XD → Prop), Q ds → g ρ Q E
/-- what is gone through comes to just these data -/
noncomputable abbrev EvI (w : DTI) (ρ : Env) (ds : List D) : Prop := ∀ (Q : List D → Prop) (E : XD → Prop), Q ds → w ρ Q E
theorem a0 : EvA dNil ρ [] := fun Q E q => q
theorem a1 {ga : DTA} {ds : List D} (h : Ev f ρ d) (hg : EvA ga ρ ds) : EvA (dCons f ga) ρ (d :: ds) := fun Q E q => h _ _ (hg _ _ q)
theorem ev_fld {cl fl : Str} {fs : List (Str × D)} (h : Ev f ρ (.ins cl fs)) (e : fs.lookup fl = some d) : Ev (dFld cl fl f) ρ d := fun Q E q => h _ _ ⟨rfl, d, e, q⟩
theorem ev_op {rd : RD2} {x y : D} (ha : Ev fa ρ x) (hb : Ev fb ρ y) (h : ∀ Q : D → Prop, Q d → rd x y Q) : Ev (dOp rd fa fb) ρ d := fun Q E q => ha _ _ (hb _ _ (h _ q))
theorem ev_call {F : List D → M D} {n : Nat} {ga : DTA} {ds : List D} (ha : EvA ga ρ ds) (hn : ds.length = n) (h : ∀ (Q : D → Prop) (E : XD → Prop), Q d → F ds Q E) : Ev (dCall F n ga) ρ d := fun Q E q => ha _ _ ⟨hn, h _ _ q⟩
theorem ev_make {cl : Str} {F : List D → ((List (Str × D)) → Prop) → (XD → Prop) → Prop} {n : Nat} {ga : DTA} {ds : List D} {fs : List (Str × D)} (ha : EvA ga ρ ds) (hn : ds.length = n) (h : ∀ (Q : List (Str × D) → Prop) (E : XD → Prop), Q fs → F ds Q E) : Ev (dMake cl F n ga) ρ (.ins cl fs) := fun Q E q => ha _ _ ⟨hn, h _ _ q⟩
theorem ev_cb {rd : RDL} {ga : DTA} {ds : List D} (ha : EvA ga ρ ds) (h : ∀ Q : D → Prop, Q d → rd ds Q) : Ev (dCB rd ga) ρ d := fun Q E q => ha _ _ (h _ q)
theorem ev_meth {cl m : Str} {F : List D → M D} {n : Nat} {ga : DTA} {fs : List (Str × D)} {ds : List D} (ho : Ev f ρ (.ins cl fs)) (hm : fs.lookup m = none) (ha : EvA ga ρ ds) (hn : ds.length + 1 = n) (h : ∀ (Q : D → Prop) (E : XD → Prop), Q d → F (.ins cl fs :: ds) Q E) : Ev (dMeth cl F n m f ga) ρ d := fun Q E q => ho _ _ ⟨rfl, hm, ha _ _ ⟨hn, h _ _ q⟩⟩
theorem ev_andV {b1 b2 : Bool} (ha : Ev fa ρ (.bl b1)) (hb : b1 = true → Ev fb ρ (.bl b2)) : Ev (dAndV fa fb) ρ (.bl (b1 && b2)) := fun Q E q => ha _ _ (by
  cases b1 with
  | true => exact hb rfl _ _ q
  | false => exact q)
theorem lcD_F {α : Type} {body : D → (Option D → Prop) → Prop} (e g : α → D) (b : α → Bool) : ∀ (xs : List α) (Q : List D → Prop), (∀ x ∈ xs, ∀ k : Option D → Prop, k (if b x then some (g x) else none) → body (e x) k) → Q ((xs.filter b).map g) → lcD body (xs.map e) Q
  | [], Q, _, h => h
  | x :: xs, Q, hb, h => by
    refine hb x List.mem_cons_self _ ?_
    cases hx : b x with
    | true =>
      refine lcD_F e g b xs _ (fun y hy => hb y (List.mem_cons_of_mem _ hy)) ?_
      rw [List.filter_cons, hx] at h
      exact h
    | false =>
      refine lcD_F e g b xs _ (fun y hy => hb y (List.mem_cons_of_mem _ hy)) ?_
      rw [List.filter_cons, hx] at h
      exact h
theorem ev_lcF {α : Type} {w : DTI} {T : Tg} {ft : DTT} {vs : List Nat} {xs : List α} (e g : α → D) (b : α → Bool) (hw : EvI w ρ (xs.map e)) (hl : xs.length ≤ sizeLine) (hb : ∀ x ∈ xs, ∃ ρ2, T.put (e x) (wipeD ρ vs) = some ρ2 ∧ EvT ft ρ2 (b x) ∧ (b x = true → Ev f ρ2 (g x))) : Ev (dLc w T ft f vs) ρ (.lst ((xs.filter b).map g)) := fun Q E q => hw _ _ ⟨by rw [List.length_map]; exact hl, lcD_F e g b xs _ (fun x hx k hk => by
  obtain ⟨ρ2, h1, h2, h3⟩ := hb x hx
  refine ⟨ρ2, h1, h2 _ _ ?_⟩
  cases hc : b x with
  | true =>
    rw [hc] at hk
    exact h3 hc _ _ hk
  | false =>
    rw [hc] at hk
    exact hk) q⟩
theorem ev_lc {α : Type} {w : DTI} {T : Tg} {vs : List Nat} {xs : List α} (e g : α → D) (hw : EvI w ρ (xs.map e)) (hl : xs.length ≤ sizeLine) (hb : ∀ x ∈ xs, ∃ ρ2, T.put (e x) (wipeD ρ vs) = some ρ2 ∧ Ev f ρ2 (g x)) : Ev (dLc w T dYes f vs) ρ (.lst (xs.map g)) := by
  have h := ev_lcF (f := f) (ft := dYes) e g (fun _ => true) hw hl fun x hx => by
    obtain ⟨ρ2, h1, h2⟩ := hb x hx
    exact ⟨ρ2, h1, fun Q E q => q, fun _ => h2⟩
  rw [List.filter_eq_self.mpr fun _ _ => rfl] at h
  exact h
theorem ret_make {N : Nd} {cl : Str} {F : List D → ((List (Str × D)) → Prop) → (XD → Prop) → Prop} {n : Nat} {ga : DTA} {ds : List D} (ha : EvA ga ρ ds) (hn : ds.length = n) (h : F ds (fun fs => N.rt (.ins cl fs) ρ) (fun x => N.rs x ρ)) : dRet (dMake cl F n ga) N ρ := ha _ _ ⟨hn, h⟩
theorem ret_call {N : Nd} {F : List D → M D} {n : Nat} {ga : DTA} {ds : List D} (ha : EvA ga ρ ds) (hn : ds.length = n) (h : F ds (fun d => N.rt d ρ) (fun x => N.rs x ρ)) : dRet (dCall F n ga) N ρ := ha _ _ ⟨hn, h⟩
theorem seq_oN {N : Nd} {i : Nat} {ga : DTA} {gs : DTS} {ds : List D} (ha : EvA ga ρ ds) (hl : ds.length ≤ sizeLine) (hg : gs N (ρ.set i (.own ds))) : dSeq (dSetO i (dLen ga)) gs N ρ := ha _ _ ⟨hl, hg⟩
theorem ev_tup {ga : DTA} {ds : List D} (ha : EvA ga ρ ds) (hl : ds.length ≤ sizeLine) : Ev (dTup ga) ρ (.tup ds) := fun Q E q => ha _ _ ⟨hl, q⟩
theorem ev_lst {ga : DTA} {ds : List D} (ha : EvA ga ρ ds) (hl : ds.length ≤ sizeLine) : Ev (dLst ga) ρ (.lst ds) := fun Q E q => ha _ _ ⟨hl, q⟩
theorem ev_dictP {xs : List D} {kvs : List (Key × D)} (ha : Ev fa ρ (.lst xs)) (h : pairsD xs = some kvs) : Ev (dCB rdDictP (dCons fa dNil)) ρ (.dct (mergeD [] kvs)) := fun Q E q => ha _ _ ⟨kvs, h, q⟩
theorem seq_frz {N : Nd} {i : Nat} {xs : List D} {s : DTS} {gs : DTS} (h : ρ[i]? = some (.own xs)) (hs : dSeq s gs N (ρ.set i (.d (.lst xs)))) : dSeq (dFrz i s) gs N ρ := by
  show dFrz i s _ ρ
  unfold dFrz
  rw [h]
  exact hs
theorem seq_ret {N : Nd} {gs : DTS} (h : dRet f N ρ) : dSeq (dRet f) gs N ρ := h
theorem seq_odPut {N : Nd} {i : Nat} {gs : DTS} {kvs : List (Key × D)} (h : ρ[i]? = some (.od kvs)) (kk : Key) (y v : D) (hy : keyD y = some kk) (hl : kvs.length < sizeLine) (hk : Ev fk ρ y) (hv : Ev fv ρ v) (hn : gs N (ρ.set i (.od (putKD kvs kk v)))) : dSeq (dOdPut i fk fv) gs N ρ := odPut h kk y v hy hl hk hv hn
theorem seq_forP {w : DTI} {T : Tg} {b : DTS} {gs : DTS} {N : Nd} (P : List D → Prop) (hw : ∀ (Q : List D → Prop) (E : XD → Prop), (∀ ds, P ds → Q ds) → w ρ Q E) (h : ∀ ds, P ds → forD T b { N with nx := gs N } ds ρ) : dSeq (dFor w T b) gs N ρ := hw _ _ h
theorem ev_inOD {neg : Bool} {i : Nat} {kvs : List (Key × D)} {y : D} {kk : Key} (h : ρ[i]? = some (.od kvs)) (hk : Ev fk ρ y) (hy : keyD y = some kk) : Ev (dInOD neg i fk) ρ (.bl (if neg then !(valD kvs kk).isSome else (valD kvs kk).isSome)) := fun Q E q => by
  unfold dInOD
  rw [h]
  exact hk _ _ ⟨kk, hy, q⟩
noncomputable abbrev EvKV (g : DTP) (ρ : Env) (kvs : List (Key × D)) : Prop := ∀ (Q : List (Key × D) → Prop) (E : XD → Prop), Q kvs → g ρ Q E
theorem kv0 : EvKV dPn ρ [] := fun Q E q => q
theorem kv1 {ga : DTP} {kvs : List (Key × D)} {y v : D} {kk : Key} (hk : Ev fk ρ y) (hy : keyD y = some kk) (hv : Ev fv ρ v) (hr : EvKV ga ρ kvs) : EvKV (dPc fk fv ga) ρ ((kk, v) :: kvs) := fun Q E q => hk _ _ (hv _ _ ⟨kk, hy, hr _ _ q⟩)
theorem ev_disp {ga : DTP} {kvs : List (Key × D)} (h : EvKV ga ρ kvs) (hl : kvs.length ≤ 15) : Ev (dDisp ga) ρ (.dct (mergeD [] kvs)) := fun Q E q => h _ _ ⟨hl, q⟩
theorem seq_next {N : Nd} {gs : DTS} (h : gs N ρ) : dSeq dNext gs N ρ := h
end
end FP
/-! FP66: methods with a star parameter behind the first one. -/
namespace FP
open PySem L2
end FP
/-! FP67: list(d.values()). -/
namespace FP
open PySem PySem.Spec PyProof.Rows L2
end FP
/-! FP68: for i, x in enumerate(list or tuple). -/
namespace FP
open PySem PySem.Spec PyProof.Rows L2
end FP
/-! FP69: text.split(text). -/
namespace FP
open PySem PySem.Spec PyProof.Rows L2
end FP
/-! FP70: C.m(..) of a classmethod (cls, *lines). -/
namespace FP
open PySem L2
end FP
/-! FP71: C.m() of a classmethod (cls, *lines). -/
namespace FP
open PySem L2
end FP
/-! FP72: text.replace(written text, written text), behind a written text of the same display. -/
namespace FP
open PySem PySem.Spec PyProof.Rows L2
end FP
/-! FP73: a list times an integer. -/
namespace FP
open PySem L2
end FP
/-! FP103: a dict of the caller's own, read by a def or an __init__ that keeps no hold of it. -/
namespace FP
open PySem L2
variable [Tabl]
section
variable {mg : Gm} {B : Hp} {W W' : Wd} {H H' : Hp} {σ : St} {ρ : Env}
theorem Step.back {a : Addr} {u : HO} (s : Step W (offH H [a]) W' H') (h : H a = some u) (w : W.H a = none) (h' : H' a = some u) (w' : W'.H a = none) (t' : ¬ W'.T a) : Step W H W' H' where
  le := s.le
  holds := s.holds
  keep := fun b o e n => by
    by_cases q : b = a
    · subst q
      rw [h] at e
      rw [h', e]
    · exact s.keep b o (by rw [offH_out (by rw [List.mem_singleton]; exact q)]; exact e) n
  fresh := fun b o e => by
    by_cases q : b = a
    · subst q
      rw [w, w']
    · exact s.fresh b o (by rw [offH_out (by rw [List.mem_singleton]; exact q)]; exact e)
  freshT := fun b t => by
    by_cases q : b = a
    · subst q
      exact absurd t t'
    · rcases s.freshT b t with z | z
      · exact .inl z
      · rw [offH_out (by rw [List.mem_singleton]; exact q)] at z
        exact .inr z
  live := fun b o e => by
    by_cases q : b = a
    · subst q
      exact ⟨u, h'⟩
    · exact s.live b o (by rw [offH_out (by rw [List.mem_singleton]; exact q)]; exact e)
/-- one place more in front -/
theorem EnvR.front (e : EnvR mg B W H σ ρ) {o : Option V} {s : Sl} (r : SlR mg B W H o s) (n : ∀ (i : Nat) (t : Sl) (o' : Option V) (a : Addr), ρ[i]? = some t → σ[i]? = some o' → a ∈ s.fp o → a ∈ t.fp o' → False) : EnvR mg B W H (o :: σ) (s :: ρ) := by
  refine ⟨congrArg (· + 1) e.len, fun i t h => ?_, fun i j s1 s2 o1 o2 a hij q1 q2 q3 q4 m1 m2 => ?_⟩
  · cases i with
    | zero =>
      cases h
      exact ⟨o, rfl, r⟩
    | succ i => exact e.sl i t h
  · cases i with
    | zero =>
      cases j with
      | zero => exact hij rfl
      | succ j =>
        cases q1
        cases q3
        exact n j s2 o2 a q2 q4 m1 m2
    | succ i =>
      cases j with
      | zero =>
        cases q2
        cases q4
        exact n i s1 o1 a q1 q3 m2 m1
      | succ j => exact e.dis i j s1 s2 o1 o2 a (fun z => hij (by rw [z])) q1 q2 q3 q4 m1 m2
theorem EnvR.blank {n : Nat} : EnvR mg B W H (List.replicate n (none : Option V)) (List.replicate n Sl.no) := by
  have h := EnvR.noEnv (mg := mg) (B := B) (W := W) (H := H) (σ := List.replicate n (none : Option V)) (ρ := List.replicate n Sl.no) (by simp)
  unfold FP.noEnv at h
  rw [List.map_replicate] at h
  exact h
theorem blank_fp {n i : Nat} {t : Sl} {o' : Option V} {a : Addr} (h : (List.replicate n Sl.no)[i]? = some t) (m : a ∈ t.fp o') : False := by
  rw [List.eq_of_mem_replicate (List.mem_of_getElem? h)] at m
  cases m
end
/-! ### defs -/
noncomputable abbrev borS (a : Addr) (vs : List (Key × V)) (kvs : List (Key × D)) : Sl := .o2 [a] (.pd vs kvs)
noncomputable def spB (mg : Gm) (f : List (Key × D) → M D) : Sp := fun us H Q E => ∃ W a vs kvs Qd Ed, us = [.ref a] ∧ Holds W H ∧ SlR mg (offH H [a]) W H (some (.ref a)) (borS a vs kvs) ∧ f kvs Qd Ed ∧
  (∀ W' H' v d, Step W H W' H' → Rep mg W' v d → Qd d → Q v H') ∧ ∀ W' H' cls dd x, Step W H W' H' → RepX mg W' H' cls dd x → Ed x → E cls dd H'
structure DefB (P : Program) (w : World) (mg : Gm) (base : Heap) (k : Nat) (x : Str) (f : List (Key × D) → M D) : Prop where
  ex : ∃ fa fd ps, mg.mg x = some (.ref fa) ∧ PySem.W.keepIn mg.K (.ref fa) = true ∧ Binds mg.K fd ps [] ∧ ps.length = 1 ∧ FnG P w mg.K mg.mg base k fa fd ps (spB mg f)
theorem bor_of {mg : Gm} {W : Wd} {H : Hp} {B : Hp} {a : Addr} {vs : List (Key × V)} {kvs : List (Key × D)} (h : SlR mg B W H (some (.ref a)) (borS a vs kvs)) : H a = some (.dK vs) ∧ W.H a = none ∧ ¬ W.T a ∧ vs.map (·.1) = kvs.map (·.1) ∧ Reps mg W (vs.map (·.2)) (kvs.map (·.2)) := by
  obtain ⟨a2, Ls, e, ho, ⟨g1, g2, g3, g4⟩, nd, g5⟩ := h
  cases ho
  obtain ⟨_, g6, g7, _⟩ := g5 a List.mem_cons_self
  exact ⟨g2, g6, g7, g3, g4⟩
theorem bor_mk {mg : Gm} {W : Wd} {H : Hp} {B : Hp} {a : Addr} {vs : List (Key × V)} {kvs : List (Key × D)} (h : H a = some (.dK vs)) (w : W.H a = none) (t : ¬ W.T a) (k : vs.map (·.1) = kvs.map (·.1)) (r : Reps mg W (vs.map (·.2)) (kvs.map (·.2))) (b : B a = none) : SlR mg B W H (some (.ref a)) (borS a vs kvs) :=
  ⟨a, [], rfl, rfl, ⟨rfl, h, k, r⟩, List.nodup_cons.mpr ⟨List.not_mem_nil, List.nodup_nil⟩, fun c hc => by
    rw [List.mem_singleton.mp hc]
    exact ⟨⟨_, h⟩, w, t, b⟩⟩
/-- the dict stands somewhere at the end -/
noncomputable def Bor (a : Addr) (vs : List (Key × V)) (kvs : List (Key × D)) (ρ : Env) : Prop := ∃ i : Nat, ρ[i]? = some (borS a vs kvs)
theorem Bor.out {mg : Gm} {W W' : Wd} {H H' : Hp} {σ' : St} {ρ' : Env} {a : Addr} {vs : List (Key × V)} {kvs : List (Key × D)} {B : Hp} (b : Bor a vs kvs ρ') (e : EnvR mg B W' H' σ' ρ') : H' a = some (.dK vs) ∧ W'.H a = none ∧ ¬ W'.T a := by
  obtain ⟨i, hi⟩ := b
  obtain ⟨o, _, g⟩ := e.sl i _ hi
  obtain ⟨a2, Ls, e2, ho, h⟩ := id g
  cases e2
  subst ho
  obtain ⟨h1, h2, h3, _⟩ := bor_of g
  exact ⟨h1, h2, h3⟩
section
variable {ι : Type} {Xs : ι → Cx} {mg : Gm} {Wx : WX} {pos : Pos}
theorem mkDefB {P : Program} {w : World} {base : Heap} {x : Str} {st : Stmt} {N ps : List Str} {k : Nat} {f : List (Key × D) → M D} (d : ∃ fa fd, mg.mg x = some (.ref fa) ∧ Fun mg.K x x st fa fd) (S : FnScope N ps (defScope st)) (h1 : ps.length = 1)
    (hb : ∀ (kV doc pm : Value) (an : Option Addr) (cdv ct : Value) (us : List Value), us.length = ps.length → bindArgs (PySem.W.fnOf x x (defArgs st) (defBody st) (defScope st) .none kV doc pm an cdv ct) ⟨us, []⟩ = pure (ps.zip us))
    (h : ∀ (fa : Addr) (cdv : Value) (A : Around) (outer : List PySem.Env) (s : Shared) (H : Hp) (E : XK), RmG k (A.deeper (PyProof.Rows.envOfC x (defScope st) s.heap.objs.size fa cdv)) →
      ∃ g, DSs (fun _ : Unit => cxOf (L2.CX P w) P w mg.K mg.mg base N x (defScope st) fa cdv A outer s H E) mg (fun cls d _ H' => E cls d H') (defBody st) g ∧
        ∀ a vs kvs Q Ex, f kvs Q Ex → g ⟨fun ρ => Bor a vs kvs ρ ∧ Q .non, fun d ρ => Bor a vs kvs ρ ∧ Q d, fun _ => False, fun _ => False, fun x ρ => Bor a vs kvs ρ ∧ Ex x⟩ (borS a vs kvs :: List.replicate (N.length - 1) .no)) :
    DefB P w mg base (k + 1) x f := by
  obtain ⟨fa, fd, hm, F⟩ := d
  refine ⟨fa, fd, ps, hm, F.kp, F.binds hb, h1, ?_⟩
  refine fnG_of F S (fun vs H Q E hs => ?_) (fun cdv A outer s H vs Q E hr hs => ?_)
  · obtain ⟨W, a, ws, kvs, Qd, Ed, rfl, _⟩ := hs
    rw [h1]
    rfl
  · obtain ⟨W, a, ws, kvs, Qd, Ed, rfl, hh, r0, hf, q, ex⟩ := hs
    obtain ⟨g, ⟨t, p1, p2⟩, p3⟩ := h fa cdv A outer s H E hr
    refine ⟨t, p1 (), ?_⟩
    obtain ⟨ha, hw, ht, _⟩ := bor_of r0
    have es : L2.start N [.ref a] = some (.ref a) :: List.replicate (N.length - 1) none := rfl
    rw [es]
    have e0 := (EnvR.blank (mg := mg) (B := offH H [a]) (W := W) (H := H) (n := N.length - 1)).front r0 fun i t o' b hi _ _ m => blank_fp hi m
    refine p2 W (offH H [a]) _ _ (p3 a ws kvs Qd Ed hf) W _ H _ (Step.off hh) e0 ⟨fun W' H' σ' ρ' s' e' k => ?_, fun W' H' σ' ρ' v d s' e' rv k => ?_, fun _ _ _ _ _ _ k => k.elim, fun _ _ _ _ _ _ k => k.elim, fun W' H' σ' ρ' cls dd y s' e' ry k => ?_⟩
    · obtain ⟨g1, g2, g3⟩ := k.1.out (W := W) (H := H) e'
      exact q W' H' _ _ (s'.back ha hw g1 g2 g3) .non k.2
    · obtain ⟨g1, g2, g3⟩ := k.1.out (W := W) (H := H) e'
      exact q W' H' _ _ (s'.back ha hw g1 g2 g3) rv k.2
    · obtain ⟨g1, g2, g3⟩ := k.1.out (W := W) (H := H) e'
      exact ex W' H' _ _ _ (s'.back ha hw g1 g2 g3) ry k.2
/-- what a place lends -/
noncomputable abbrev dLent {α : Type} (i : Nat) (F : List (Key × D) → α → (XD → Prop) → Prop) : Env → α → (XD → Prop) → Prop := fun ρ Q E => match ρ[i]? with
  | some (.od kvs) => F kvs Q E
  | some (.o2 _ (.pd _ kvs)) => F kvs Q E
  | _ => False
theorem lent {B : Hp} {W : Wd} {H : Hp} {σ : St} {ρ : Env} {i : Nat} {α : Type} {F : List (Key × D) → α → (XD → Prop) → Prop} {Q : α} {E : XD → Prop} (h : dLent i F ρ Q E) (e : EnvR mg B W H σ ρ) : ∃ a vs kvs, σ[i]? = some (some (.ref a)) ∧ SlR mg (offH H [a]) W H (some (.ref a)) (borS a vs kvs) ∧ F kvs Q E := by
  unfold dLent at h
  split at h
  · rename_i kvs hi
    obtain ⟨o, g1, a, vs, rfl, h2, h3, h4, h5, h6, h7⟩ := e.sl i _ hi
    exact ⟨a, vs, kvs, g1, bor_mk h2 h3 h4 h6 h7 (offH_in List.mem_cons_self), h⟩
  · rename_i as vs kvs hi
    obtain ⟨o, g1, a, Ls, rfl, ho, ⟨g2, g3, g4, g5⟩, nd, g6⟩ := e.sl i _ hi
    subst ho
    obtain ⟨_, h3, h4, _⟩ := g6 a List.mem_cons_self
    exact ⟨a, vs, kvs, g1, bor_mk g3 h3 h4 g4 g5 (offH_in List.mem_cons_self), h⟩
  · exact h.elim
theorem de_callB1 (i : Nat) {P : Program} {w : World} {base : Heap} {k : Nat} {x y : Str} {f : List (Key × D) → M D} {p p2 : Pos} (F : DefB P w mg base k x f) (hr : ∀ i, RmG k (Xs i).A) (tk : ∀ i, Pas (Xs i) Wx)
    (hP : ∀ j, (Xs j).prog = P ∧ (Xs j).w = w ∧ (Xs j).K = mg.K ∧ (Xs j).mg = mg.mg ∧ (Xs j).base = base := by intro _; exact ⟨rfl, rfl, rfl, rfl, rfl⟩) (hg : ∀ j, Gl (Xs j) x := by intro _; rfl) (hd : (x == ("__debug__" : Str)) = false := by decide)
    (hN : ∀ j, (Xs j).N[i]? = some y := by intro _; rfl) (hv : ∀ j, Vis (Xs j).env.scope y := by intro _; first | exact Or.inl rfl | exact Or.inr (Or.inl rfl) | exact Or.inr (Or.inr rfl)) (hd2 : (y == ("__debug__" : Str)) = false := by decide) (hcd : (y == ("__classdict__" : Str)) = false := by decide)
    (he : ∀ i, starEach [.Name y p2] (Xs i).env = (false, eval (.Name y p2) (Xs i).env) :: starEach [] (Xs i).env := by intro _; rfl) (hpl : ∀ i, (backTo pos (starEach [] (Xs i).env)).any (·.1) = false := by intro _; rfl) : DE Xs mg Wx (.Call (.Name x p) [.Name y p2] [] pos) (dLent i f) := by
  obtain ⟨fa, fd, ps, hm, hk, hb, hl, G⟩ := F.ex
  refine ⟨tCallS (spB mg f) (WE Wx) (tCons (tVar i) tNil), fun j => ?_, fun B ρ Q E hf W σ H Q' hh e x q => ?_⟩
  · obtain ⟨p1, p2, p3, p4, p5⟩ := hP j
    subst p1 p2 p5
    exact pe_callG (by rw [p3, p4]; exact G) (hr j) (hg j) (by rw [p4]; exact hm) (by rw [p3]; exact hk) (by rw [p3]; exact hb) (fun σ => tk j σ) (pa_cons (pe_var (i := i) (hN j) (hv j) hd2 hcd) pa_nil (he j)) hd (he j) (hpl j)
  · obtain ⟨a, vs, kvs, g1, r0, hq⟩ := lent hf e
    exact ⟨_, g1, W, a, vs, kvs, Q, E, rfl, hh, r0, hq, fun W' H' v d s r h => q W' H' v d s r h, fun W' H' cls dd y s r h => x W' H' cls dd y s r h⟩
end
/-! ### __init__ -/
noncomputable abbrev FI := List (Key × D) → ((List (Str × D)) → Prop) → (XD → Prop) → Prop
noncomputable def spIB (mg : Gm) (c : Str) (C : Addr) (f : FI) : Sp := fun us H Q E => ∃ W H1 x dx a vs kvs Qd Ed, us = [.ref x, .ref a] ∧ H1 x = none ∧ H1 dx = none ∧ dx ≠ x ∧ H = upd (upd H1 dx (.own x)) x (.ins C dx []) ∧ Holds W H1 ∧ SlR mg (offH H1 [a]) W H1 (some (.ref a)) (borS a vs kvs) ∧ f kvs Qd Ed ∧
  (∀ W' H' gs fs dy, Step W H1 W' H' → H' x = some (.ins C dy gs) → W'.H x = none → ¬ W'.T x → gs.map (·.1) = fs.map (·.1) → Reps mg W' (gs.map (·.2)) (fs.map (·.2)) → Qd fs → Q .non H') ∧ ∀ W' H' cls dd y, Step W H1 W' H' → RepX mg W' H' cls dd y → Ed y → E cls dd H'
structure InitB (P : Program) (w : World) (mg : Gm) (base : Heap) (k : Nat) (c : Str) (C : Addr) (f : FI) : Prop where
  ex : ∃ fa fd ps, Mk mg.K C fa ∧ Binds mg.K fd ps [] ∧ ps.length = 2 ∧ FnG P w mg.K mg.mg base k fa fd ps (spIB mg c C f)
section
variable {ι : Type} {Xs : ι → Cx} {mg : Gm} {Wx : WX} {pos : Pos}
theorem mkInitB {P : Program} {w : World} {base : Heap} {c : Str} {C : Addr} {qual : Str} {st : Stmt} {N ps : List Str} {k : Nat} {f : FI} (Fc : ClsF mg c C) (d : ∃ fa fd, Mk mg.K C fa ∧ FunDf mg.K "__init__" qual st [.non] fa fd) (S : FnScope N ps (defScope st)) (hn : ps.length = 2)
    (hb1 : ∀ (T : Addr) (kV doc pm : Value) (an : Option Addr) (cdv ct : Value) (us its : List Value), us.length = 2 → its.length = 1 →
      ∃ k, bindArgs (PySem.W.fnOf "__init__" qual (defArgs st) (defBody st) (defScope st) (.ref T) kV doc pm an cdv ct) ⟨us, []⟩ = seqItems? (.ref T) >>= k ∧ k (some its.toArray) = pure (ps.zip (us ++ its.drop 1)))
    (h : ∀ (fa : Addr) (cdv : Value) (A : Around) (outer : List PySem.Env) (s : Shared) (H : Hp) (E : XK), RmG k (A.deeper (PyProof.Rows.envOfC qual (defScope st) s.heap.objs.size fa cdv)) →
      ∃ g, DSs (fun _ : Unit => cxOf (L2.CX P w) P w mg.K mg.mg base N qual (defScope st) fa cdv A outer s H E) mg (fun cls d _ H' => E cls d H') (defBody st) g ∧
        ∀ x a vs kvs Q Ex, f kvs Q Ex → g ⟨fun ρ => Bor a vs kvs ρ ∧ ∃ fs r, ρ = .ob c x fs :: r ∧ Q fs, fun _ _ => False, fun _ => False, fun _ => False, fun x ρ => Bor a vs kvs ρ ∧ Ex x⟩ (.ob c x [] :: borS a vs kvs :: List.replicate (N.length - 2) .no)) :
    InitB P w mg base (k + 1) c C f := by
  obtain ⟨fa, fd, M, F⟩ := d
  have FA : FunA mg.K "__init__" qual st fa fd := F.any
  have key : FnG P w mg.K mg.mg base (k + 1) fa fd ps (spIB mg c C f) := by
    refine fnG_ofA FA S (fun vs H Q E hs => ?_) (fun cdv A outer s H vs Q E hr hs => ?_)
    · obtain ⟨W, H1, x, dx, a, ws, kvs, Qd, Ed, rfl, _⟩ := hs
      rw [hn]
      rfl
    · obtain ⟨W, H1, x, dx, a, ws, kvs, Qd, Ed, rfl, nx, ndx, ne, rfl, hh, r0, hf, q, ex⟩ := hs
      obtain ⟨g, ⟨t, p1, p2⟩, p3⟩ := h fa cdv A outer s _ E hr
      obtain ⟨ha, hw, ht, hk, hrs⟩ := bor_of r0
      have sd : Step W H1 W (upd H1 dx (.own x)) := Step.lay hh ndx
      have nx2 : (upd H1 dx (.own x)) x = none := by
        rw [upd_ne (Ne.symm ne)]
        exact nx
      have sx : Step W H1 W (upd (upd H1 dx (.own x)) x (.ins C dx [])) := sd.trans (Step.lay sd.holds nx2)
      refine ⟨t, p1 (), ?_⟩
      have nax : a ≠ x := fun z => by rw [z, nx] at ha; cases ha
      have ox : offH H1 [a] x = none := by rw [offH_out (by rw [List.mem_singleton]; exact Ne.symm nax)]; exact nx
      have es : L2.start N [.ref x, .ref a] = some (.ref x) :: some (.ref a) :: List.replicate (N.length - 2) none := rfl
      rw [es]
      have ha2 := sx.mine ha hw ht
      have e1 := (EnvR.blank (mg := mg) (B := offH H1 [a]) (W := W) (H := upd (upd H1 dx (.own x)) x (.ins C dx [])) (n := N.length - 2)).front (bor_mk ha2.1 ha2.2.1 ha2.2.2 hk hrs (offH_in List.mem_cons_self)) fun i t o' b hi _ _ m => blank_fp hi m
      have e0 : EnvR mg (offH H1 [a]) W (upd (upd H1 dx (.own x)) x (.ins C dx [])) (some (.ref x) :: some (.ref a) :: List.replicate (N.length - 2) none) (.ob c x [] :: borS a ws kvs :: List.replicate (N.length - 2) .no) := e1.front ⟨[], rfl, ⟨C, dx, Fc.nm, upd_same⟩, hh.same.free nx, hh.nT nx, ox, rfl, .nil⟩ fun i t o' b hi _ m m2 => by
        have hb : b = x := List.mem_singleton.mp m
        cases i with
        | zero =>
          cases hi
          have : b = a := List.mem_singleton.mp m2
          exact nax (this.symm.trans hb)
        | succ i => exact blank_fp hi m2
      have s0 : Step W (offH H1 [a]) W (upd (upd H1 dx (.own x)) x (.ins C dx [])) := (Step.off hh).trans sx
      refine p2 W (offH H1 [a]) _ _ (p3 x a ws kvs Qd Ed hf) W _ _ _ s0 e0 ⟨fun W' H' σ' ρ' s' e' k => ?_, fun _ _ _ _ _ _ _ _ _ k => k.elim, fun _ _ _ _ _ _ k => k.elim, fun _ _ _ _ _ _ k => k.elim, fun W' H' σ' ρ' cls dd y s' e' r' k => ?_⟩
      · obtain ⟨g1, g2, g3⟩ := k.1.out (W := W) (H := H1) e'
        obtain ⟨_, fs, rr, rfl, hq⟩ := k
        obtain ⟨o, y1, vs, y2, ⟨C', dy, hc, y3⟩, y4, y5, y6, hk2, rs⟩ := e'.sl 0 _ rfl
        have ec := Fc.eq hc
        subst ec
        exact q W' H' vs fs dy (s'.back ha hw g1 g2 g3) y3 y4 y5 hk2 rs hq
      · obtain ⟨g1, g2, g3⟩ := k.1.out (W := W) (H := H1) e'
        exact ex W' H' cls dd y (s'.back ha hw g1 g2 g3) r' k.2
  obtain ⟨d1, v1, b1⟩ := F.binds1 (ps := ps) 2 1 (List.cons_ne_nil _ _) (by rw [hn]; rfl) hb1
  cases v1
  exact ⟨fa, fd, ps, M, b1, hn, key⟩
theorem de_makeB (i : Nat) {P : Program} {w : World} {base : Heap} {k : Nat} {c y : Str} {C : Addr} {f : FI} {p p2 : Pos} (Fc : ClsF mg c C) (F : InitB P w mg base k c C f) (hr : ∀ i, RmG (k + 1) (Xs i).A) (tk : ∀ i, Pas (Xs i) Wx)
    (hP : ∀ j, (Xs j).prog = P ∧ (Xs j).w = w ∧ (Xs j).K = mg.K ∧ (Xs j).mg = mg.mg ∧ (Xs j).base = base := by intro _; exact ⟨rfl, rfl, rfl, rfl, rfl⟩) (hg : ∀ j, Gl (Xs j) c := by intro _; rfl) (hd : (c == ("__debug__" : Str)) = false := by decide)
    (hN : ∀ j, (Xs j).N[i]? = some y := by intro _; rfl) (hv : ∀ j, Vis (Xs j).env.scope y := by intro _; first | exact Or.inl rfl | exact Or.inr (Or.inl rfl) | exact Or.inr (Or.inr rfl)) (hd2 : (y == ("__debug__" : Str)) = false := by decide) (hcd : (y == ("__classdict__" : Str)) = false := by decide)
    (he : ∀ i, starEach [.Name y p2] (Xs i).env = (false, eval (.Name y p2) (Xs i).env) :: starEach [] (Xs i).env := by intro _; rfl) (hpl : ∀ i, (backTo pos (starEach [] (Xs i).env)).any (·.1) = false := by intro _; rfl) : DE Xs mg Wx (.Call (.Name c p) [.Name y p2] [] pos) (dLent i fun kvs (Q : D → Prop) E => f kvs (fun fs => Q (.ins c fs)) E) := by
  obtain ⟨fa, fd, ps, M, hb, hl, G⟩ := F.ex
  refine ⟨fun σ H Q => tVar i σ H fun v H1 => ∀ x dx, H1 x = none → H1 dx = none → dx ≠ x → spIB mg c C f [.ref x, v] (upd (upd H1 dx (.own x)) x (.ins C dx [])) (fun v H2 => v = .non ∧ Q (.ref x) H2) (WE Wx σ), fun j => ?_, ?_⟩
  · obtain ⟨p1, p2, p3, p4, p5⟩ := hP j
    subst p1 p2 p5
    constructor
    intro pins z σ H Q I hw
    apply wpAny_Call_Name_kw
    apply ld_glob I (hg j) (by rw [p4]; exact Fc.nm) _ hd
    apply PySem.W.callWith_K (h₀ := (Xs j).base) I.ok.mod.kin (by rw [p3]; exact M.kp) _ (he j) (hpl j)
    refine thn ((pa_cons (pe_var (i := i) (hN j) (hv j) hd2 hcd) pa_nil (he j)).run pos pins z σ H (fun vs H1 => ∃ v, vs = [v] ∧ ∀ x dx, H1 x = none → H1 dx = none → dx ≠ x → spIB mg c C f [.ref x, v] (upd (upd H1 dx (.own x)) x (.ins C dx [])) (fun v H2 => v = .non ∧ Q (.ref x) H2) (WE Wx σ)) I (by
      obtain ⟨v, q1, q2⟩ := hw
      exact ⟨v, q1, v, rfl, q2⟩)) ?_
    rintro us z1 ⟨vs, H1, I1, rv, v, rfl, q⟩
    exact ⟨I1.kIn, makeG (by rw [p3]; exact M) (by rw [p3, p4]; exact G) (hr j) (by rw [p3]; exact hb) (tk j σ) I1 rv q⟩
  · intro B ρ Q E hf W σ H Q' hh e x q
    obtain ⟨a, vs, kvs, g1, r0, hq⟩ := lent hf e
    refine ⟨_, g1, fun y dx na ndx ne => ⟨W, H, y, dx, a, vs, kvs, _, E, rfl, na, ndx, ne, rfl, hh, r0, hq, fun W' H' gs fs dy s' ha' nw nt hk rs hq => ⟨rfl, ?_⟩, fun W' H' cls dd z s' r h => x W' H' cls dd z s' r h⟩⟩
    have st := s'.taken na ha' nw nt
    exact q _ _ _ _ (s'.trans (Step.refl s'.holds) |>.trans (Step.refl s'.holds) |> fun s0 => st) (.ins Fc.nm (show upd W'.H y _ y = _ from upd_same) hk (rs.mono (Wd.le_put nw))) hq
end
end FP
/-! FP104: a lent dict seen by an expression with a plain result; its items; x = {} if y is None else y; d.clear(). -/
namespace FP
open PySem L2
variable [Tabl]
noncomputable def tLockT (t : TT) : TT := fun σ H Q => ∃ d u, H d = some u ∧ Mut (some u) ∧ ∀ od, t σ (upd H d (.frz od u)) fun b H1 => H1 d = some (.frz od u) ∧ Q b (upd H1 d u)
theorem pt_lock {X : Cx} {e : Expr} {t : TT} (h : PT X e t) : PT X e (tLockT t) := by
  refine ⟨fun pins s σ H Q I hw => ?_⟩
  obtain ⟨d, u, hd, mu, hw⟩ := hw
  obtain ⟨od, I1⟩ := I.lock hd mu
  refine thn (h.run pins s σ _ _ I1 (hw od)) ?_
  rintro b s1 ⟨H1, I2, e, q⟩
  exact ⟨_, I2.unlock e (I.nofrz hd mu), q⟩
theorem Step.thaw {W W3 : Wd} {H H3 : Hp} {p : Addr} {o u : HO} (hh : Holds W H) (hp : H p = some o) (w : W.H p = none) (t : ¬ W.T p) (s : Step (W.put p u) (upd H p u) W3 H3) (nu : ∀ φ, u ≠ .ext φ) (no : ∀ ps, o ≠ .tbl ps) : Step W H (W3.cut [p]) (upd H3 p o) ∧ H3 p = some u := by
  have w3 : W3.H p = some u := s.le.h p u (show upd W.H p u p = _ from upd_same)
  have h3 : H3 p = some u := s.holds.same p u w3
  have t3 : ¬ W3.T p := fun z => by
    obtain ⟨q, _⟩ := s.holds.exm p z
    rw [w3] at q
    cases q
  have c3 : (W3.cut [p]).H p = none := if_pos List.mem_cons_self
  have cne : ∀ b, b ≠ p → (W3.cut [p]).H b = W3.H b := fun b q => if_neg (by rw [List.mem_singleton]; exact q)
  have hc : Holds (W3.cut [p]) H3 := ⟨fun b x e => by
    by_cases q : b = p
    · rw [q, c3] at e
      cases e
    · rw [cne b q] at e
      exact s.holds.same b x e, fun a z => by
    obtain ⟨q1, q2⟩ := s.holds.exm a z
    refine ⟨?_, q2⟩
    by_cases q : a = p
    · rw [q, c3]
    · rw [cne a q]
      exact q1, s.holds.tok, s.holds.tab, s.holds.all⟩
  refine ⟨⟨⟨fun b x e => ?_, s.le.t, s.le.dc⟩, hc.own h3 c3 t3 nu no, fun b x e n => ?_, fun b x e => ?_, fun b z => ?_, fun b x e => ?_⟩, h3⟩
  · have q : b ≠ p := fun q => by rw [q, w] at e; cases e
    rw [cne b q]
    exact s.le.h b x (by show upd W.H p u b = _; rw [upd_ne q]; exact e)
  · by_cases q : b = p
    · subst q
      rw [hp] at e
      rw [upd_same, e]
    · rw [upd_ne q]
      exact s.keep b x (by rw [upd_ne q]; exact e) n
  · by_cases q : b = p
    · rw [q, c3, w]
    · rw [cne b q, s.fresh b x (by rw [upd_ne q]; exact e)]
      exact upd_ne q
  · rcases s.freshT b z with q | q
    · exact .inl q
    · by_cases qb : b = p
      · subst qb
        rw [upd_same] at q
        cases q
      · rw [upd_ne qb] at q
        exact .inr q
  · by_cases q : b = p
    · rw [q]
      exact ⟨_, upd_same⟩
    · rw [upd_ne q]
      exact s.live b x (by rw [upd_ne q]; exact e)
section
variable {ι : Type} {Xs : ι → Cx} {mg : Gm} {Wx : WX} {pos : Pos}
noncomputable abbrev dViewTB (i : Nat) (f : DTT) : DTT := fun ρ Q _ => match ρ[i]? with
  | some (.o2 _ (.pd _ kvs)) => f (ρ.set i (.d (.dct kvs))) Q F0
  | _ => False
theorem lockD {B : Hp} {W : Wd} {H : Hp} {σ : St} {ρ : Env} {i : Nat} {as : List Addr} {vs : List (Key × V)} {kvs : List (Key × D)} (hh : Holds W H) (e : EnvR mg B W H σ ρ) (hi : ρ[i]? = some (.o2 as (.pd vs kvs))) : ∃ p, H p = some (.dK vs) ∧ W.H p = none ∧ ¬ W.T p ∧ ∀ od, Holds (W.put p (.frz od (.dK vs))) (upd H p (.frz od (.dK vs))) ∧ EnvR mg B (W.put p (.frz od (.dK vs))) (upd H p (.frz od (.dK vs))) σ (ρ.set i (.d (.dct kvs))) := by
  obtain ⟨o, g1, a, Ls, rfl, ho, ⟨g2, g3, g4, g5⟩, nd, g6⟩ := e.sl i _ hi
  subst ho
  obtain ⟨_, h3, h4, _⟩ := g6 a List.mem_cons_self
  refine ⟨a, g3, h3, h4, fun od => ?_⟩
  have h1 : Holds W (upd H a (.frz od (.dK vs))) := hh.own g3 h3 h4 (by intro _ h; cases h) (by intro _ h; cases h)
  exact ⟨(Step.take h1 upd_same h3 h4).2, e.give2 hi g1 List.mem_cons_self (Wd.put_le h3) (Rep.newDct g4 g5 h3)⟩
theorem dt_viewB (i : Nat) {e : Expr} {f : DTT} (h : DT Xs mg Wx e f) : DT Xs mg Wx e (dViewTB i f) := by
  obtain ⟨t, h1, h2⟩ := h
  refine ⟨tLockT t, fun j => pt_lock (h1 j), fun B ρ Q E hf W σ H Q' hh e x q => ?_⟩
  unfold dViewTB at hf
  split at hf
  · rename_i as vs kvs hi
    obtain ⟨p, hp, w, t0, k⟩ := lockD hh e hi
    refine ⟨p, _, hp, True.intro, fun od => ?_⟩
    obtain ⟨hh2, e2⟩ := k od
    refine h2 B _ _ _ hf _ σ _ _ hh2 e2 ExR.f0 fun W1 H1 b s1 k1 => ?_
    obtain ⟨s2, hp2⟩ := Step.thaw hh hp w t0 s1 (by intro _ h; cases h) (by intro _ h; cases h)
    exact ⟨hp2, q _ _ b s2 k1⟩
  · exact hf.elim
/-! ### its keys, its items -/
theorem de_listB (i : Nat) {y : Str} {p p2 : Pos} (hm : mg.mg "list" = none) (hb : bootBuiltins "list" = some (.type "list")) (hM : ∀ j, (Xs j).mg = mg.mg := by intro _; rfl) (hc : ∀ j, (Xs j).calm = true := by intro _; rfl) (hg : ∀ j, Gl (Xs j) "list" := by intro _; rfl)
    (hN : ∀ j, (Xs j).N[i]? = some y := by intro _; rfl) (hv : ∀ j, Vis (Xs j).env.scope y := by intro _; first | exact Or.inl rfl | exact Or.inr (Or.inl rfl) | exact Or.inr (Or.inr rfl)) (hd2 : (y == ("__debug__" : Str)) = false := by decide) (hcd : (y == ("__classdict__" : Str)) = false := by decide)
    (he : ∀ i, starEach [.Name y p2] (Xs i).env = (false, eval (.Name y p2) (Xs i).env) :: starEach [] (Xs i).env := by intro _; rfl) (hpl : ∀ i, (backTo pos (starEach [] (Xs i).env)).any (·.1) = false := by intro _; rfl) : DE Xs mg Wx (.Call (.Name "list" p) [.Name y p2] [] pos) (dLent i fun kvs (Q : D → Prop) _ => Q (.lst (kvs.map fun kv => kD kv.1))) := by
  refine ⟨_, fun j => pe_callTy (call_listD (hc j)) (hg j) (by rw [hM j]; exact hm) hb (pa_cons (pe_var (i := i) (hN j) (hv j) hd2 hcd) pa_nil (he j)) (by decide) (by decide) (he j) (hpl j), fun B ρ Q E hf W σ H Q' hh e x q => ?_⟩
  obtain ⟨a, vs, kvs, g1, r0, hq⟩ := lent hf e
  obtain ⟨ha, _, _, hk, hrs⟩ := bor_of r0
  exact ⟨_, g1, _, _, rfl, .inl ha, to_lst q hh (kV_keys hk) hq⟩
noncomputable abbrev dGetB (i : Nat) (fk : DTE) : DTE := fun ρ Q E => dLent i (fun kvs (Q : D → Prop) E => fk ρ (fun y => ∃ kk d, keyD y = some kk ∧ valD kvs kk = some d ∧ Q d) E) ρ Q E
theorem de_dgetB (i : Nat) {k : Nat} {y : Str} {b : Expr} {fb : DTE} {p2 : Pos} (hr : ∀ j, RmG k (Xs j).A) (hb : DE Xs mg Wx b fb) (hs : NoSl b := by exact fun _ _ => rfl)
    (hN : ∀ j, (Xs j).N[i]? = some y := by intro _; rfl) (hv : ∀ j, Vis (Xs j).env.scope y := by intro _; first | exact Or.inl rfl | exact Or.inr (Or.inl rfl) | exact Or.inr (Or.inr rfl)) (hd2 : (y == ("__debug__" : Str)) = false := by decide) (hcd : (y == ("__classdict__" : Str)) = false := by decide) : DE Xs mg Wx (.Subscript (.Name y p2) b pos) (dGetB i fb) := by
  obtain ⟨tb, b1, b2⟩ := hb
  refine ⟨tDGet (tVar i) tb, fun j => pe_dget (by have := (hr j).r.un; omega) (pe_var (i := i) (hN j) (hv j) hd2 hcd) (b1 j) hs, fun B ρ Q E hf W σ H Q' hh e x q => ?_⟩
  obtain ⟨a, vs, kvs, g1, r0, hq⟩ := lent hf e
  obtain ⟨ha, hw, ht, hk, hrs⟩ := bor_of r0
  refine ⟨_, g1, ?_⟩
  refine b2 B ρ _ E hq W σ H _ hh e x fun W1 H1 v d s1 r1 k1 => ?_
  obtain ⟨kk, d2, k2, k3, k4⟩ := k1
  have ey := keyD_v r1 k2
  subst ey
  have ha1 := (s1.mine ha hw ht).1
  rcases val_rep (k := kk) hk (hrs.mono s1.le) with ⟨z, _⟩ | ⟨v, d', z1, z2, z3⟩
  · rw [z] at k3
    cases k3
  · rw [z1] at k3
    cases k3
    refine ⟨a, v, rfl, ?_, q W1 H1 _ _ s1 z3 k4⟩
    rw [← z2]
    exact DGet.k ha1
/-! ### x = {} if y is None else y, with y lent -/
noncomputable abbrev dMoveB (i j : Nat) : DTS := fun N ρ => match ρ[i]? with
  | some (.o2 as (.pd vs kvs)) => N.nx ((ρ.set i .no).set j (.o2 as (.pd vs kvs)))
  | _ => False
theorem ds_moveB (i j : Nat) {x y : Str} {px py py2 pn pc pi pd : Pos} {k1 : Nat} (hN : ∀ l, (Xs l).N.Nodup) (hij : i ≠ j := by decide) (hi : ∀ l, (Xs l).N[i]? = some y := by intro _; rfl) (hj : ∀ l, (Xs l).N[j]? = some x := by intro _; rfl)
    (hv : ∀ j, Vis (Xs j).env.scope y := by intro _; first | exact Or.inl rfl | exact Or.inr (Or.inl rfl) | exact Or.inr (Or.inr rfl)) (hd2 : (y == ("__debug__" : Str)) = false := by decide) (hcd : (y == ("__classdict__" : Str)) = false := by decide)
    (hx : ∀ l, Loc (Xs l).env.scope x := by intro _; first | exact Or.inl rfl | exact Or.inr rfl) (hs : ∀ l, swapsWith (.IfExp (.Compare (.Name y py) [.Is] [.Constant .none k1 pn] pc) (.Dict [] [] pd) (.Name y py2) pi) (some (.Name x px)) pos.line (Xs l).env = pure false := by intro _; rfl)
    (hf : ∀ l, (Xs l).fn x = true ∨ (Xs l).env.scope.names.lookup x = some .local := by intro _; first | exact .inl rfl | exact .inr rfl) :
    DS Xs mg Wx (.Assign [.Name x px] (.IfExp (.Compare (.Name y py) [.Is] [.Constant .none k1 pn] pc) (.Dict [] [] pd) (.Name y py2) pi) pos) (dMoveB i j) := by
  refine ⟨_, fun l => ps_set (i := j) (hN l) (hj l) (hx l) (pe_ifExp (pt_cmpR op_isN (pe_var (i := i) (hi l) (hv l) hd2 hcd) pe_non rfl) pe_dnewK (pe_var (i := i) (hi l) (hv l) hd2 hcd)) (hs l) (hf l), fun W0 B N ρ hf W σ H Ds s e n => ?_⟩
  unfold dMoveB at hf
  split at hf
  · rename_i as vs kvs hi2
    obtain ⟨o, g1, a, Ls, ea, ho, g2, nd, g6⟩ := e.sl i _ hi2
    subst ho
    have r0 : SlR mg B W H (some (.ref a)) (.o2 as (.pd vs kvs)) := ⟨a, Ls, ea, rfl, g2, nd, g6⟩
    refine ⟨_, g1, rfl, _, rfl, ?_⟩
    show tVar i σ H _
    refine ⟨_, g1, ?_⟩
    have e1 := e.no (i := i) (o := some (.ref a))
    have es : σ.set i (some (.ref a)) = σ := by
      refine List.ext_getElem? fun m => ?_
      by_cases z : i = m
      · subst z
        rw [List.getElem?_set_self', g1]
        rfl
      · rw [List.getElem?_set_ne z]
    rw [es] at e1
    refine n.nx W H _ _ s (e1.move (fun m t o' b hm q1 q2 m1 m2 => ?_) r0) hf
    rcases get_set q1 with ⟨_, z⟩ | ⟨nm, q1⟩
    · rw [← z] at m1
      cases m1
    · exact e.dis i m _ t _ o' b nm hi2 q1 g1 q2 m2 m1
  · exact hf.elim
/-! ### d.clear() -/
noncomputable abbrev dOdClear (i : Nat) : DTS := fun N ρ => match ρ[i]? with
  | some (.od _) => N.nx (ρ.set i (.od []))
  | _ => False
theorem ds_odClear (i : Nat) {x : Str} {p apos cpos : Pos} (hN : ∀ j, (Xs j).N[i]? = some x := by intro _; rfl) (hvi : ∀ j, Vis (Xs j).env.scope x := by intro _; first | exact Or.inl rfl | exact Or.inr (Or.inl rfl) | exact Or.inr (Or.inr rfl))
    (hd : (x == ("__debug__" : Str)) = false := by decide) (hcd : (x == ("__classdict__" : Str)) = false := by decide) (hb : ∀ j, attributeBase (.Name x p) "clear" (Xs j).env (eval (.Name x p) (Xs j).env) = eval (.Name x p) (Xs j).env := by intro _; rfl) (hl : (apos.endLine == cpos.line) = true := by rfl)
    (hs : ∀ j, swapsWith (.Call (.Attribute (.Name x p) "clear" apos) [] [] cpos) none pos.line (Xs j).env = pure false := by intro _; rfl) (hK : ∀ j, (Xs j).K = mg.K := by intro _; rfl) :
    DS Xs mg Wx (.Expr (.Call (.Attribute (.Name x p) "clear" apos) [] [] cpos) pos) (dOdClear i) := by
  refine ⟨tDrop (tBM0 mg.K "dict" rDClear (tVar i)), fun j => by rw [← hK j]; exact ps_expr (pe_dclear (pe_var (i := i) (hN j) (hvi j) hd hcd) (hb j) hl) (hs j), fun W0 B N ρ hf W σ H Ds s e n => ?_⟩
  unfold dOdClear at hf
  split at hf
  · rename_i kvs hi
    obtain ⟨o, g1, p, vs, g2, g3, g4, g5, g6, _⟩ := e.sl i _ hi
    subst g2
    refine ⟨_, g1, ?_, p, vs, rfl, rfl, g3, ?_⟩
    · exact .inr (.inr (.inl ⟨rfl, .inl ⟨_, g3⟩⟩))
    · exact n.nx W _ σ _ (s.own g6 g3 g4 g5) (e.odTurn (vs := []) hi g1 rfl .nil) hf
  · exact hf.elim
end
end FP
/-! FP105: a property whose value is a new dict; x.m.clear(). -/
namespace FP
open PySem L2
variable [Tabl]
noncomputable def spN (mg : Gm) (f : List D → M (List (Key × D))) : Sp := fun us H Q E => ∃ W ds Qd, Holds W H ∧ Reps mg W us ds ∧ ds.length = 1 ∧ f ds Qd F0 ∧
  ∀ W' H' p vs kvs, Step W H W' H' → H' p = none → vs.map (·.1) = kvs.map (·.1) → Reps mg W' (vs.map (·.2)) (kvs.map (·.2)) → Qd kvs → Q (.ref p) (upd H' p (.dK vs))
structure PropN (P : Program) (w : World) (mg : Gm) (base : Heap) (k : Nat) (C : Addr) (m : Str) (f : List D → M (List (Key × D))) : Prop where
  ex : ∃ p fa fd ps, PropOf mg.K C m p fa ∧ Binds mg.K fd ps [] ∧ ps.length = 1 ∧ FnG P w mg.K mg.mg base k fa fd ps (spN mg f)
section
variable {ι : Type} {Xs : ι → Cx} {mg : Gm} {Wx : WX} {pos : Pos}
/-- dict(d): a new dict -/
theorem dod_dictD {p : Pos} {e : Expr} {f : DTE} (h : DE Xs mg Wx e f) (hm : mg.mg "dict" = none) (hv : bootBuiltins "dict" = some (.type "dict")) (hM : ∀ j, (Xs j).mg = mg.mg := by intro _; rfl) (hg : ∀ j, Gl (Xs j) "dict" := by intro _; rfl)
    (he : ∀ i, starEach [e] (Xs i).env = (false, eval e (Xs i).env) :: starEach [] (Xs i).env := by intro _; rfl) : DOD Xs mg Wx (.Call (.Name "dict" p) [e] [] pos) (fun ρ Q E => f ρ (fun x => match x with | .dct kvs => Q kvs | _ => False) E) := by
  obtain ⟨t, h1, h2⟩ := h
  refine ⟨_, fun i => pe_callTy call_dictD (hg i) (by rw [hM i]; exact hm) hv (pa_cons (h1 i) pa_nil (he i)) (by decide) (by decide) (he i) rfl, ?_⟩
  intro B ρ Q E hf W σ H Q' hh en x q
  refine h2 B ρ _ E hf W σ H _ hh en x fun W1 H1 v d s1 r1 k1 => ?_
  obtain ⟨kvs, rfl, k2⟩ := dctOf k1
  cases r1 with
  | @dct a o us _ ha hk rs => exact ⟨a, us, rfl, .inr ⟨_, s1.holds.same _ _ ha⟩, fun p n => q _ _ p us kvs s1 n hk rs k2⟩
theorem mkPropN {P : Program} {w : World} {base : Heap} {C : Addr} {m qual : Str} {st : Stmt} {N ps : List Str} {k : Nat} {f : List D → M (List (Key × D))} {e : Expr} {rp : Pos} (d : ∃ p fa fd, PropOf mg.K C m p fa ∧ Fun mg.K m qual st fa fd) (S : FnScope N ps (defScope st)) (h1 : ps.length = 1) (hbody : defBody st = [.Return (some e) rp])
    (hb : ∀ (kV doc pm : Value) (an : Option Addr) (cdv ct : Value) (us : List Value), us.length = ps.length → bindArgs (PySem.W.fnOf m qual (defArgs st) (defBody st) (defScope st) .none kV doc pm an cdv ct) ⟨us, []⟩ = pure (ps.zip us))
    (h : ∀ (fa : Addr) (cdv : Value) (A : Around) (outer : List PySem.Env) (s : Shared) (H : Hp) (E : XK), RmG k (A.deeper (PyProof.Rows.envOfC qual (defScope st) s.heap.objs.size fa cdv)) →
      ∃ g, DOD (fun _ : Unit => cxOf (L2.CX P w) P w mg.K mg.mg base N qual (defScope st) fa cdv A outer s H E) mg Wx0 e g ∧ ∀ ds Q, ds.length = ps.length → f ds Q F0 → g (startD N.length ds) Q F0) :
    PropN P w mg base (k + 1) C m f := by
  obtain ⟨p, fa, fd, hm, F⟩ := d
  refine ⟨p, fa, fd, ps, hm, F.binds hb, h1, ?_⟩
  refine fnG_of F S (fun vs H Q E hs => ?_) (fun cdv A outer s H vs Q E hr hs => ?_)
  · obtain ⟨W, ds, Qd, _, r, l, _⟩ := hs
    rw [r.length, l, h1]
  · obtain ⟨W, ds, Qd, hh, r, l, hf, q⟩ := hs
    obtain ⟨g, ⟨t, p1, p2⟩, p3⟩ := h fa cdv A outer s H E hr
    rw [hbody]
    refine ⟨tRet t, pss_one (ps_ret (p1 ())), ?_⟩
    exact p2 H _ _ _ (p3 ds Qd (by rw [l, h1]) hf) W _ H _ hh (EnvR.start r) ExR.f0 fun W' H' p' vs' kvs s' n' hk rs hq => q W' H' p' vs' kvs s' n' hk rs hq
/-- x.m.clear(): what the property made is cleared -/
noncomputable abbrev dPropClr (c : Str) (f : List D → M (List (Key × D))) (go : DTE) : DTS := fun N ρ => go ρ (fun x => match x with
  | .ins c' fs => c' = c ∧ f [.ins c' fs] (fun _ => N.nx ρ) F0
  | _ => False) (fun x => N.rs x ρ)
theorem ds_propClr {P : Program} {w : World} {base : Heap} {k : Nat} {c m : Str} {C : Addr} {f : List D → M (List (Key × D))} {o : Expr} {go : DTE} {p2 apos cpos : Pos} (Fc : ClsF mg c C) (F : PropN P w mg base k C m f) (hr : ∀ i, RmG (k + 1) (Xs i).A) (ho : DE Xs mg Wx o go)
    (hP : ∀ j, (Xs j).prog = P ∧ (Xs j).w = w ∧ (Xs j).K = mg.K ∧ (Xs j).mg = mg.mg ∧ (Xs j).base = base := by intro _; exact ⟨rfl, rfl, rfl, rfl, rfl⟩) (hab : ∀ j, attributeBase o m (Xs j).env (eval o (Xs j).env) = eval o (Xs j).env := by intro _; rfl)
    (hb : ∀ j, attributeBase (.Attribute o m p2) "clear" (Xs j).env (eval (.Attribute o m p2) (Xs j).env) = eval (.Attribute o m p2) (Xs j).env := by intro _; rfl) (hl : (apos.endLine == cpos.line) = true := by rfl)
    (hs : ∀ j, swapsWith (.Call (.Attribute (.Attribute o m p2) "clear" apos) [] [] cpos) none pos.line (Xs j).env = pure false := by intro _; rfl) : DS Xs mg Wx (.Expr (.Call (.Attribute (.Attribute o m p2) "clear" apos) [] [] cpos) pos) (dPropClr c f go) := by
  obtain ⟨p, fa, fd, ps, hm, hbn, hln, G⟩ := F.ex
  obtain ⟨to, o1, o2⟩ := ho
  refine ⟨tDrop (tBM0 mg.K "dict" rDClear fun σ H Q => to σ H fun x H1 => ∃ a dx fs, x = .ref a ∧ H1 a = some (.ins C dx fs) ∧ spN mg f [.ref a] H1 Q E0), fun i => ?_, fun W0 B N ρ hf W σ H Ds s e n => ?_⟩
  · obtain ⟨p1, p2', p3, p4, p5⟩ := hP i
    rw [← p3]
    refine ps_expr (pe_dclear ?_ (hb i) hl) (hs i)
    subst p1 p2' p5
    constructor
    intro pins z σ H Q I hw
    refine attr_of (hab i) (thn ((o1 i).run pins z σ H _ I hw) ?_)
    rintro u z1 ⟨x, H1, I1, rx, a, dx, fs, ex, ea, q⟩
    subst ex
    have eu : u = Value.ref a := rx
    subst eu
    exact getpropG I1 ea (by rw [p3]; exact Fc.cl) (by rw [p3]; exact hm) (by rw [p3, p4]; exact G) (hr i) (by rw [p3]; exact hbn) q
  · refine o2 B ρ _ _ hf W σ H _ s.holds e (n.ex s e) fun W1 H1 v d s1 r1 k1 => ?_
    obtain ⟨c', ds, rfl, k1⟩ := insOf k1
    obtain ⟨a, C', dx, fs, rfl, hc, ha, hk, rs⟩ := r1.insI
    obtain ⟨rfl, k2⟩ := k1
    have ec := Fc.eq hc
    subst ec
    refine ⟨a, dx, fs, rfl, s1.holds.same _ _ ha, W1, _, _, s1.holds, .cons (.ins hc ha hk rs) .nil, rfl, k2, fun W2 H2 p' vs kvs s2 n' hk2 rs2 hq => ?_⟩
    have s02 := (s.trans s1).trans s2
    refine ⟨.inr (.inr (.inl ⟨rfl, .inl ⟨_, upd_same⟩⟩)), p', vs, rfl, rfl, upd_same, ?_⟩
    rw [upd_upd]
    have sl := Step.lay s2.holds (o := .dK []) n'
    exact n.nx W2 _ σ _ (s02.trans sl) (((e.step s1).step s2).step sl) hq
end
end FP
/-! FP106: two lists that are equal, of plain data and empty dicts. -/
namespace FP
open PySem L2
section
/-- items that are equal -/
inductive EqXs (K : PySem.W.Frag) (H : Hp) : List V → List V → Prop where
  | nil : EqXs K H [] []
  | py {x y : V} {p q : PyData} {xs ys : List V} : Dp K H x p → Dp K H y q → SeqAt.shaped p = true → SeqAt.shaped q = true → PyData.eqv p q = true → EqXs K H xs ys → EqXs K H (x :: xs) (y :: ys)
  | dct {a b : Addr} {xs ys : List V} : Rd H a (.dK []) → Rd H b (.dK []) → EqXs K H xs ys → EqXs K H (.ref a :: xs) (.ref b :: ys)
variable {X : Cx} {pins : List (Addr × Obj)} {σ : L2.St} {H : Hp} {s : Shared}
theorem EqXs.len {K : PySem.W.Frag} {xs ys : List V} (h : EqXs K H xs ys) : xs.length = ys.length := by
  induction h with
  | nil => rfl
  | py _ _ _ _ _ _ ih => rw [List.length_cons, List.length_cons, ih]
  | dct _ _ _ ih => rw [List.length_cons, List.length_cons, ih]
theorem eqXs_run (I : Inv X pins σ H s) {A : Around} (hu1 : A.in1.units + 64 < cLine) {xs ys : List V} (hp : EqXs X.K H xs ys) :
    ∀ {us ws : List Value}, Vals xs us → Vals ys ws → ∀ j (h1 : j < us.length) (h2 : j < ws.length), SeqAt.EqP X.prog X.w A.in1 s us[j] ws[j] true := by
  induction hp with
  | nil =>
    intro us ws r1 r2 j h1 h2
    cases r1
    exact absurd h1 (Nat.not_lt_zero j)
  | py d1 d2 s1 s2 e _ k =>
    intro us ws r1 r2 j h1 h2
    cases r1 with
    | cons a1 b1 =>
      cases r2 with
      | cons a2 b2 =>
        cases j with
        | zero =>
          obtain ⟨as, ra⟩ := Dp.reads I _ _ _ d1 a1
          obtain ⟨bs, rb⟩ := Dp.reads I _ _ _ d2 a2
          have h := (PySem.W.keq_at ra rb s1 s2 hu1).eqP (prog := X.prog) (w := X.w)
          rw [e] at h
          exact h
        | succ j => exact k b1 b2 j (Nat.lt_of_succ_lt_succ h1) (Nat.lt_of_succ_lt_succ h2)
  | @dct a b _ _ ea eb _ k =>
    intro us ws r1 r2 j h1 h2
    cases r1 with
    | cons a1 b1 =>
      cases r2 with
      | cons a2 b2 =>
        cases j with
        | zero =>
          cases (show _ = Value.ref a from a1)
          cases (show _ = Value.ref b from a2)
          by_cases e : a = b
          · subst e
            exact (SeqAt.EqAt.same _).eqP
          · obtain ⟨_, ya, va, ra, da⟩ := dk_rd I.hok ea
            obtain ⟨_, yb, vb, rb, db⟩ := dk_rd I.hok eb
            cases ra
            cases rb
            exact SeqAt.eqP_refs e fun E Q q => PySem.W.rcP_dicts (knd := mixKind X.prog X.w) (r := true) ya yb da db (by omega) (fun _ => .nil) E Q q
        | succ j => exact k b1 b2 j (Nat.lt_of_succ_lt_succ h1) (Nat.lt_of_succ_lt_succ h2)
noncomputable def rEqXs (K : PySem.W.Frag) : R2 := fun x y H Q => ∃ a b xs ys, x = .ref a ∧ y = .ref b ∧ SqL K H a xs ∧ SqL K H b ys ∧ EqXs K H xs ys ∧ Q (.bl true) H
theorem op_eqXs (hu : X.A.units + 64 < cLine) (hu1 : X.A.in1.units + 64 < cLine) : OpR X (compareOp .Eq) (rEqXs X.K) := by
  intro pins s σ H x y v u Q I rx ry h
  obtain ⟨a, b, xs, ys, rfl, rfl, ha, hb, hp, q⟩ := h
  cases (show v = Value.ref a from rx)
  cases (show u = Value.ref b from ry)
  obtain ⟨us, r1, p1, _⟩ := I.list ha
  obtain ⟨ws, r2, p2, _⟩ := I.list hb
  have hsz : us.toArray.size = ws.toArray.size := by
    rw [List.size_toArray, List.size_toArray, ← r1.length, ← r2.length]
    exact hp.len
  refine SeqAt.rcP_lists (e := fun _ => true) p1.isList p2.isList hsz (by omega) (fun j h1 h2 => ?_) _ _ ?_
  · have k := eqXs_run I (A := X.A) hu1 hp r1 r2 j (by simpa using h1) (by simpa using h2)
    simpa using k
  · rw [show ((List.range us.toArray.size).all fun _ => true) = true from List.all_eq_true.mpr fun _ _ => rfl]
    exact ⟨.bl true, H, I, rfl, q⟩
end
variable [Tabl]
section
variable {ι : Type} {Xs : ι → Cx} {mg : Gm} {Wx : WX} {pos : Pos}
inductive EqDs : List D → List D → Prop where
  | nil : EqDs [] []
  | py {x y : D} {p q : PyData} {xs ys : List D} : toPy x = some p → toPy y = some q → SeqAt.shaped p = true → SeqAt.shaped q = true → PyData.eqv p q = true → EqDs xs ys → EqDs (x :: xs) (y :: ys)
  | dct {xs ys : List D} : EqDs xs ys → EqDs (.dct [] :: xs) (.dct [] :: ys)
theorem EqDs.v {W : Wd} {H : Hp} (hh : Holds W H) {xs ys : List D} (h : EqDs xs ys) : ∀ {us ws : List V}, Reps mg W us xs → Reps mg W ws ys → EqXs mg.K H us ws := by
  induction h with
  | nil =>
    intro us ws r1 r2
    cases r1
    cases r2
    exact .nil
  | py h1 h2 s1 s2 e _ ih =>
    intro us ws r1 r2
    cases r1 with
    | cons a1 b1 =>
      cases r2 with
      | cons a2 b2 => exact .py (a1.dp hh h1) (a2.dp hh h2) s1 s2 e (ih b1 b2)
  | dct _ ih =>
    intro us ws r1 r2
    cases r1 with
    | cons a1 b1 =>
      cases r2 with
      | cons a2 b2 =>
        cases a1 with
        | dct ha hk rs =>
          cases a2 with
          | dct ha' hk' rs' =>
            rw [List.map_nil] at hk hk'
            rw [List.map_eq_nil_iff.mp hk] at ha
            rw [List.map_eq_nil_iff.mp hk'] at ha'
            exact .dct (.inr ⟨_, hh.same _ _ ha⟩) (.inr ⟨_, hh.same _ _ ha'⟩) (ih b1 b2)
noncomputable def rdEqXs : RD2 := fun x y Q => match x, y with
  | .lst xs, .lst ys => EqDs xs ys ∧ Q (.bl true)
  | _, _ => False
theorem ok_eqXs {k : Nat} (hr : ∀ j, RmG (k + 1) (Xs j).A) (hK : ∀ j, (Xs j).K = mg.K := by intro _; rfl) : OpOk Xs mg (compareOp .Eq) rdEqXs := by
  refine ⟨rEqXs mg.K, fun j => by rw [← hK j]; exact op_eqXs (hr j).r.units (hr j).in1.r.units, ?_⟩
  intro W H x y dx dy Q Q' hh rx ry h q
  unfold rdEqXs at h
  split at h
  · obtain ⟨h1, h2⟩ := h
    cases rx with
    | lst ha rs =>
      cases ry with
      | lst ha' rs' => exact ⟨_, _, _, _, rfl, rfl, SqL.of (hh.same _ _ ha), SqL.of (hh.same _ _ ha'), h1.v hh rs rs', q W H _ _ (Step.refl hh) (.bl _) h2⟩
  · exact h.elim
end
end FP
/-! FP107: the end of a law over one kernel run of its top (FPH0). -/
namespace FP
open PySem L2
variable [Tabl]
theorem walkGH {l : PySem.W.OpenLaw} {k : Nat} {q : Program} {loose : List Str} {XP : (Str → Option Value) → Heap → Prop} {YP : World → Heap → Prop} {d : DefRec} {f : List D → M D}
    (hB : Tabl.B = []) (hn : l.most = some 63) (hdf : d.params.defaults = []) (hr : RmG k callerA)
    (F : ∀ (w : World) (mg : Str → Option Value) (h : Heap), YP w h → h.Ns mainGlobals mg → ∃ K : PySem.W.Frag, K.In h ∧ ∀ base : Heap, DefOk l.prog w ⟨mg, K⟩ base k d.name 1 f)
    (hf : ∀ ns : List Int, ns.length ≤ 63 → f [scriptD ns] (fun d => d = .bl true) F0) : PySem.W.WalkO q loose XP YP l.row.toRowW d [] (fun f vs => PySem.call f vs) := by
  refine Att.attach_call hn hdf fun w z₀ z₁ mg mb fa o pm cd doc a vs ns G Y ho hd hcd hmg hobj hints hlen hg => ?_
  obtain ⟨K, KX, F⟩ := F w mg _ Y G.T.g
  refine end_law (sp := spD ⟨mg, K⟩ 1 f) KX G.T.g G.T.b G.T.builtins G.T.nolimit hg hobj hints (Nat.le_trans hlen (by decide)) hr (fun base _ _ => ?_) (fun H only hS => ?_) fun H e z' c => ?_
  · obtain ⟨fa', fd, ps, h1, h2, h3, h4, h5⟩ := (F base).ex
    have e : fa' = fa := by
      have e' := h1.symm.trans hmg
      cases e'
      rfl
    subst e
    exact ⟨fd, ps, h3, h5⟩
  · refine ⟨⟨H, fun _ => False, fun _ => False⟩, [scriptD ns], _, _, ⟨Same.refl H, fun _ t => t.elim, fun _ t => t.elim, fun _ h => (by rw [hB] at h; cases h), fun b ps e => by rcases only b with z | ⟨_, _, z⟩ <;> rw [z] at e <;> cases e⟩, .cons (.fz hS (Reps.ints ns)) .nil, rfl, hf ns hlen, fun W' H' v d _ r e => ?_, fun _ _ _ _ _ _ _ h => h⟩
    subst e
    cases r
    rfl
  · obtain ⟨_, _, _, _, _, _, _, _, _, _, _, _, z⟩ := c
    exact z.elim
end FP
/-! KP: kinds, with no program in sight: text, places, order, parts, signed atoms; their data. -/
namespace KP
open PySem L2 FP
variable [FP.Tabl]
inductive Kd where
  | mk (as : List Kd) (a : Str)
noncomputable def Kd.as : Kd → List Kd
  | .mk as _ => as
noncomputable def Kd.a : Kd → Str
  | .mk _ a => a
mutual
noncomputable def text : Kd → Str
  | .mk as a => Txt.join " -> " (texts as ++ [a])
noncomputable def texts : List Kd → List Str
  | [] => []
  | k :: r => (if k.as.isEmpty then text k else "(" ++ text k ++ ")") :: texts r
end
noncomputable def intext (k : Kd) : Str := if k.as.isEmpty then text k else "(" ++ text k ++ ")"
theorem texts_map : ∀ ks, texts ks = ks.map intext
  | [] => rfl
  | k :: r => by
    rw [texts, texts_map r]
    rfl
mutual
noncomputable def places : Kd → List Str
  | .mk as a => placesL as ++ [a]
noncomputable def placesL : List Kd → List Str
  | [] => []
  | k :: r => places k ++ placesL r
end
theorem placesL_map : ∀ ks, placesL ks = (ks.map places).flatten
  | [] => rfl
  | k :: r => by
    rw [placesL, placesL_map r]
    rfl
mutual
noncomputable def ord : Kd → Nat
  | .mk as _ => ordL as
noncomputable def ordL : List Kd → Nat
  | [] => 0
  | k :: r => max (ord k + 1) (ordL r)
end
theorem ord_lt {k : Kd} : ∀ {ks : List Kd}, k ∈ ks → ord k < ordL ks
  | [], h => absurd h List.not_mem_nil
  | j :: r, h => by
    rw [ordL]
    rcases List.mem_cons.mp h with e | e
    · rw [e]; omega
    · have := ord_lt e
      omega
theorem ordL_le {n : Nat} : ∀ {ks : List Kd}, (∀ k ∈ ks, ord k < n) → ordL ks ≤ n
  | [], _ => Nat.zero_le _
  | j :: r, h => by
    rw [ordL]
    have h1 := h j List.mem_cons_self
    have h2 := ordL_le fun k hk => h k (List.mem_cons_of_mem _ hk)
    omega
theorem ordL_max {ks : List Kd} {m : Int} (hm : m ∈ ks.map fun k => (ord k : Int)) (hy : ∀ y ∈ ks.map (fun k => (ord k : Int)), y ≤ m) : 1 + m = (ordL ks : Int) := by
  obtain ⟨k, hk, rfl⟩ := List.mem_map.mp hm
  have h1 := ord_lt hk
  have h2 : ordL ks ≤ ord k + 1 := ordL_le fun j hj => by
    have := hy _ (List.mem_map.mpr ⟨j, hj, rfl⟩)
    omega
  omega
mutual
noncomputable def signed : Kd → Bool → List Str
  | .mk as a, b => (if b then [a] else []) ++ signedL as (!b)
noncomputable def signedL : List Kd → Bool → List Str
  | [], _ => []
  | k :: r, b => signed k b ++ signedL r b
end
theorem signedL_map (b : Bool) : ∀ ks, signedL ks b = (ks.map fun k => signed k b).flatten
  | [] => rfl
  | k :: r => by
    rw [signedL, signedL_map b r]
    rfl
/-! ### sizes -/
theorem places_pos (k : Kd) : 1 ≤ (places k).length := by
  cases k with
  | mk as a =>
    rw [places, List.length_append]
    show 1 ≤ _ + 1
    omega
theorem placesL_len {k : Kd} : ∀ {ks : List Kd}, k ∈ ks → (places k).length ≤ (placesL ks).length
  | [], h => absurd h List.not_mem_nil
  | j :: r, h => by
    rw [placesL, List.length_append]
    rcases List.mem_cons.mp h with e | e
    · rw [e]; omega
    · have := placesL_len e
      omega
theorem length_placesL : ∀ ks : List Kd, ks.length ≤ (placesL ks).length
  | [] => Nat.zero_le _
  | j :: r => by
    rw [placesL, List.length_append, List.length_cons]
    have h1 := places_pos j
    have h2 := length_placesL r
    omega
theorem placesL_mem {k : Kd} {z : Str} (hz : z ∈ places k) : ∀ {ks : List Kd}, k ∈ ks → z ∈ placesL ks
  | [], h => absurd h List.not_mem_nil
  | j :: r, h => by
    rw [placesL]
    rcases List.mem_cons.mp h with e | e
    · rw [← e]
      exact List.mem_append_left _ hz
    · exact List.mem_append_right _ (placesL_mem hz e)
mutual
theorem signed_len : ∀ k b, (signed k b).length ≤ (places k).length
  | .mk as a, b => by
    rw [signed, places, List.length_append, List.length_append]
    have := signedL_len as (!b)
    show _ ≤ _ + 1
    cases b
    · show 0 + _ ≤ _; omega
    · show 1 + _ ≤ _; omega
theorem signedL_len : ∀ ks b, (signedL ks b).length ≤ (placesL ks).length
  | [], _ => Nat.le_refl _
  | k :: r, b => by
    rw [signedL, placesL, List.length_append, List.length_append]
    have := signed_len k b
    have := signedL_len r b
    omega
end
/-! ### words -/
noncomputable def letters : List Nat := ("abcdefghijklmnopqrstuvwxyz" : Str).cps.toList
noncomputable def isWordS (z : Str) : Bool := decide (1 ≤ z.length) && decide (z.length ≤ 8) && z.cps.toList.all fun c => decide (c ∈ letters)
theorem word_len {z : Str} (h : isWordS z = true) : 1 ≤ z.length ∧ z.length ≤ 8 := by
  unfold isWordS at h
  simp only [Bool.and_eq_true, decide_eq_true_eq] at h
  exact h.1
theorem word_letters {z : Str} (h : isWordS z = true) : ∀ c ∈ z.cps.toList, c ∈ letters := by
  unfold isWordS at h
  simp only [Bool.and_eq_true, decide_eq_true_eq, List.all_eq_true] at h
  exact h.2
theorem letters_small : ∀ c ∈ letters, 97 ≤ c ∧ c < 123 := by decide +kernel
theorem word_ok {z : Str} (h : isWordS z = true) : okStr z := ⟨Nat.le_trans (word_len h).2 (by decide), fun c hc => by
  have := letters_small c (word_letters h c hc)
  omega⟩
/-- a whole kind -/
structure Good (k : Kd) : Prop where
  w : ∀ z ∈ places k, isWordS z = true
  p : (places k).length ≤ 15
  o : ord k ≤ 4
theorem Good.kid {as : List Kd} {a : Str} (g : Good (.mk as a)) {k : Kd} (h : k ∈ as) : Good k := by
  refine ⟨fun z hz => g.w z ?_, ?_, ?_⟩
  · rw [places]
    exact List.mem_append_left _ (placesL_mem hz h)
  · have h1 := g.p
    rw [places, List.length_append] at h1
    have := placesL_len h
    have h1 : (placesL as).length + 1 ≤ 15 := h1
    omega
  · have h1 := g.o
    rw [ord] at h1
    have := ord_lt h
    omega
theorem Good.atom {as : List Kd} {a : Str} (g : Good (.mk as a)) : isWordS a = true := g.w a (by rw [places]; simp)
theorem Good.few {as : List Kd} {a : Str} (g : Good (.mk as a)) : (placesL as).length ≤ 14 ∧ as.length ≤ 14 := by
  have h1 := g.p
  rw [places, List.length_append] at h1
  have h1 : (placesL as).length + 1 ≤ 15 := h1
  have := length_placesL as
  omega
/-! ### the size of a text -/
theorem len_app (a b : Str) : (a ++ b).length = a.length + b.length := by
  show (a.cps ++ b.cps).size = _
  rw [Array.size_append]
  rfl
theorem join_len (ys : List Str) : (Txt.join " -> " ys).length ≤ (ys.map (·.length)).sum + ys.length * 4 := by
  rw [TL.join_eq]
  exact StrLaws.join_length_le " -> " ys
mutual
theorem text_len : ∀ k, (∀ z ∈ places k, z.length ≤ 8) → (text k).length + 6 ≤ 18 * (places k).length
  | .mk as a, h => by
    rw [text, places, List.length_append]
    have h1 := join_len (texts as ++ [a])
    have h2 := texts_len as fun z hz => h z (by rw [places]; exact List.mem_append_left _ hz)
    have h3 := h a (by rw [places]; simp)
    rw [List.map_append, List.sum_append, List.length_append] at h1
    have e1 : ([a].map (·.length)).sum = a.length := by simp
    have e2 : [a].length = 1 := rfl
    rw [e1, e2] at h1
    rw [e2]
    omega
theorem texts_len : ∀ ks, (∀ z ∈ placesL ks, z.length ≤ 8) → ((texts ks).map (·.length)).sum + (texts ks).length * 4 + 0 ≤ 18 * (placesL ks).length
  | [], _ => Nat.le_refl _
  | k :: r, h => by
    rw [texts, placesL, List.map_cons, List.sum_cons, List.length_cons, List.length_append]
    have h1 := text_len k fun z hz => h z (by rw [placesL]; exact List.mem_append_left _ hz)
    have h2 := texts_len r fun z hz => h z (by rw [placesL]; exact List.mem_append_right _ hz)
    have h3 := places_pos k
    have h4 : (if k.as.isEmpty then text k else "(" ++ text k ++ ")").length ≤ (text k).length + 2 := by
      split
      · omega
      · rw [len_app, len_app]
        have e1 : ("(" : Str).length = 1 := rfl
        have e2 : (")" : Str).length = 1 := rfl
        rw [e1, e2]
        omega
    omega
end
end KP
/-! KP2: kinds as data; data beside themselves. -/
namespace KP
open PySem L2 FP
variable [FP.Tabl]
mutual
noncomputable def plain : Kd → D
  | .mk as a => .tup [.tup (plains as), .str a]
noncomputable def plains : List Kd → List D
  | [] => []
  | k :: r => plain k :: plains r
end
theorem plains_map : ∀ ks, plains ks = ks.map plain
  | [] => rfl
  | k :: r => by
    rw [plains, plains_map r]
    rfl
theorem plain_mk (as : List Kd) (a : Str) : plain (.mk as a) = .tup [.tup (as.map plain), .str a] := by
  rw [plain, plains_map]
theorem plain_eq (k : Kd) : plain k = .tup [.tup (k.as.map plain), .str k.a] := by
  cases k with
  | mk as a => exact plain_mk as a
mutual
noncomputable def typeD : Kd → D
  | .mk as a => .ins "Type" [("own_args", .tup (typeDs as)), ("own_atom", .str a), ("own_places", .tup ((places (.mk as a)).map .str)), ("own_order", .int (ord (.mk as a))), ("own_text", .str (text (.mk as a)))]
noncomputable def typeDs : List Kd → List D
  | [] => []
  | k :: r => typeD k :: typeDs r
end
theorem typeDs_map : ∀ ks, typeDs ks = ks.map typeD
  | [] => rfl
  | k :: r => by
    rw [typeDs, typeDs_map r]
    rfl
noncomputable def flds (k : Kd) : List (Str × D) := [("own_args", .tup (k.as.map typeD)), ("own_atom", .str k.a), ("own_places", .tup ((places k).map .str)), ("own_order", .int (ord k)), ("own_text", .str (text k))]
theorem typeD_eq (k : Kd) : typeD k = .ins "Type" (flds k) := by
  cases k with
  | mk as a =>
    rw [typeD, typeDs_map]
    rfl
theorem lk_args (k : Kd) : (flds k).lookup ("own_args" : Str) = some (.tup (k.as.map typeD)) := rfl
theorem lk_atom (k : Kd) : (flds k).lookup ("own_atom" : Str) = some (.str k.a) := rfl
theorem lk_places (k : Kd) : (flds k).lookup ("own_places" : Str) = some (.tup ((places k).map .str)) := rfl
theorem lk_order (k : Kd) : (flds k).lookup ("own_order" : Str) = some (.int (ord k)) := rfl
theorem lk_text (k : Kd) : (flds k).lookup ("own_text" : Str) = some (.str (text k)) := rfl
/-! ### readings of fields, of the class -/
section
variable {k : Kd} {Q : D → Prop}
/-- a field is read -/
theorem fld {f : Str} {d : D} {c : Str} (h : (flds k).lookup f = some d) (q : Q d) (hc : c = "Type" := by rfl) : (match typeD k with
  | .ins c' fs => c' = c ∧ ∃ d, fs.lookup f = some d ∧ Q d
  | _ => False) := by
  rw [typeD_eq]
  exact ⟨hc.symm, d, h, q⟩
theorem isT (q : Q (.bl true)) : (match isiD ["Type"] (fun _ => true) (typeD k) with
  | some b => Q (.bl b)
  | none => False) := by
  rw [typeD_eq]
  exact q
end
/-! ### data beside themselves -/
mutual
noncomputable def shD : Nat → D → Bool
  | _, .non => true
  | _, .bl _ => true
  | _, .int _ => true
  | _, .str x => PyData.strOk x
  | n + 1, .tup xs => shDs n xs
  | n + 1, .lst xs => shDs n xs
  | _, _ => false
noncomputable def shDs : Nat → List D → Bool
  | _, [] => true
  | n, x :: r => shD n x && shDs n r
end
mutual
theorem shD_py : ∀ (n : Nat) (d : D), shD n d = true → ∃ p, toPy d = some p ∧ p.canLay0 = true ∧ p.depth ≤ n
  | n, .non, _ => ⟨.none, rfl, rfl, Nat.zero_le _⟩
  | n, .bl b, _ => ⟨.bool b, rfl, rfl, Nat.zero_le _⟩
  | n, .int i, _ => ⟨.int i, rfl, rfl, Nat.zero_le _⟩
  | n, .str x, h => ⟨.str x, rfl, by rw [PyData.canLay0]; simpa [shD] using h, Nat.zero_le _⟩
  | n + 1, .tup xs, h => by
    rw [shD] at h
    obtain ⟨ps, h1, h2, h3⟩ := shDs_py n xs h
    exact ⟨.tuple ps, by rw [toPy, h1], h2, Nat.succ_le_succ h3⟩
  | n + 1, .lst xs, h => by
    rw [shD] at h
    obtain ⟨ps, h1, h2, h3⟩ := shDs_py n xs h
    exact ⟨.list ps, by rw [toPy, h1], h2, Nat.succ_le_succ h3⟩
  | 0, .tup xs, h => by simp [shD] at h
  | 0, .lst xs, h => by simp [shD] at h
  | n, .fz _, h => by simp [shD] at h
  | n, .dct _, h => by simp [shD] at h
  | n, .ins _ _, h => by simp [shD] at h
  | n, .tok, h => by simp [shD] at h
  | n, .cl _, h => by simp [shD] at h
  | n, .fn _ _, h => by simp [shD] at h
theorem shDs_py : ∀ (n : Nat) (ds : List D), shDs n ds = true → ∃ ps, toPys ds = some ps ∧ PyData.canLayAll0 ps = true ∧ PyData.depthAll ps ≤ n
  | n, [], _ => ⟨[], rfl, rfl, Nat.zero_le _⟩
  | n, x :: r, h => by
    rw [shDs, Bool.and_eq_true] at h
    obtain ⟨p, h1, h2, h3⟩ := shD_py n x h.1
    obtain ⟨ps, g1, g2, g3⟩ := shDs_py n r h.2
    refine ⟨p :: ps, by rw [toPys, h1, g1], ?_, ?_⟩
    · rw [PyData.canLayAll0, h2, g2]
      rfl
    · rw [PyData.depthAll]
      omega
end
mutual
theorem eqv_refl : ∀ p : PyData, p.canLay0 = true → PyData.eqv p p = true
  | .none, _ => by simp [PyData.eqv]
  | .bool _, _ => by simp [PyData.eqv]
  | .int _, _ => by simp [PyData.eqv]
  | .str _, _ => by simp [PyData.eqv]
  | .list xs, h => by
    rw [PyData.eqv]
    exact eqvAll_refl xs (by simpa [PyData.canLay0] using h)
  | .tuple xs, h => by
    rw [PyData.eqv]
    exact eqvAll_refl xs (by simpa [PyData.canLay0] using h)
  | .dict _, h => by simp [PyData.canLay0] at h
theorem eqvAll_refl : ∀ ps : List PyData, PyData.canLayAll0 ps = true → PyData.eqvAll ps ps = true
  | [], _ => by simp [PyData.eqvAll]
  | p :: r, h => by
    rw [PyData.canLayAll0, Bool.and_eq_true] at h
    rw [PyData.eqvAll, eqv_refl p h.1, eqvAll_refl r h.2]
    rfl
end
theorem sh_shaped {p : PyData} (h1 : p.canLay0 = true) (h2 : p.depth ≤ 64) : SeqAt.shaped p = true := by
  unfold SeqAt.shaped
  rw [h1, decide_eq_true h2]
  rfl
theorem ne_refl {x : D} {Q : D → Prop} (h : shD 64 x = true) (hn : eqS x x = none) (q : Q (.bl false)) : rdNe x x Q := by
  obtain ⟨p, h1, h2, h3⟩ := shD_py 64 x h
  exact ne_deep h1 h1 hn (sh_shaped h2 h3) (sh_shaped h2 h3) (eqv_refl p h2) q
theorem eq_refl {x : D} {Q : D → Prop} (h : shD 64 x = true) (hn : eqS x x = none) (q : Q (.bl true)) : rdEq x x Q := by
  obtain ⟨p, h1, h2, h3⟩ := shD_py 64 x h
  exact eq_deep h1 h1 hn (sh_shaped h2 h3) (sh_shaped h2 h3) (eqv_refl p h2) q
/-! ### signs of texts -/
theorem strOk_iff (z : Str) : PyData.strOk z = true ↔ ∀ c ∈ z.cps.toList, c < 1114112 := by
  unfold PyData.strOk
  rw [Array.all_eq_true']
  simp
theorem strOk_app {a b : Str} (h1 : PyData.strOk a = true) (h2 : PyData.strOk b = true) : PyData.strOk (a ++ b) = true := by
  rw [strOk_iff] at *
  intro c hc
  rw [str_app] at hc
  rcases List.mem_append.mp hc with q | q
  · exact h1 c q
  · exact h2 c q
theorem strOk_join {y : Str} (hy : PyData.strOk y = true) : ∀ {ts : List Str}, (∀ t ∈ ts, PyData.strOk t = true) → PyData.strOk (Str.join y ts) = true
  | [], _ => by show PyData.strOk Str.empty = true; decide +kernel
  | [t], h => h t List.mem_cons_self
  | t :: u :: r, h => by
    show PyData.strOk (t ++ y ++ Str.join y (u :: r)) = true
    exact strOk_app (strOk_app (h t List.mem_cons_self) hy) (strOk_join hy fun s hs => h s (List.mem_cons_of_mem _ hs))
mutual
theorem text_ok : ∀ k, (∀ z ∈ places k, PyData.strOk z = true) → PyData.strOk (text k) = true
  | .mk as a, h => by
    rw [text, TL.join_eq]
    refine strOk_join (by decide +kernel) fun t ht => ?_
    rcases List.mem_append.mp ht with q | q
    · exact texts_ok as (fun z hz => h z (by rw [places]; exact List.mem_append_left _ hz)) t q
    · rw [List.mem_singleton.mp q]
      exact h a (by rw [places]; simp)
theorem texts_ok : ∀ ks, (∀ z ∈ placesL ks, PyData.strOk z = true) → ∀ t ∈ texts ks, PyData.strOk t = true
  | [], _, t, ht => by
    rw [texts] at ht
    cases ht
  | k :: r, h, t, ht => by
    rw [texts] at ht
    have h1 := text_ok k fun z hz => h z (by rw [placesL]; exact List.mem_append_left _ hz)
    rcases List.mem_cons.mp ht with q | q
    · rw [q]
      split
      · exact h1
      · exact strOk_app (strOk_app (by decide +kernel) h1) (by decide +kernel)
    · exact texts_ok r (fun z hz => h z (by rw [placesL]; exact List.mem_append_right _ hz)) t q
end
theorem Good.chars {k : Kd} (g : Good k) : ∀ z ∈ places k, PyData.strOk z = true := fun z hz => (strOk_iff z).mpr (word_ok (g.w z hz)).2
theorem Good.text_ok {k : Kd} (g : Good k) : PyData.strOk (text k) = true := KP.text_ok k g.chars
theorem Good.text_len {k : Kd} (g : Good k) : (text k).length ≤ 300 := by
  have h1 := KP.text_len k fun z hz => (word_len (g.w z hz)).2
  have h2 := g.p
  omega
theorem app_empty (z : Str) : (Str.empty : Str) ++ z = z := by
  show (⟨#[] ++ z.cps⟩ : Str) = z
  simp
end KP
/-! KP3: what the defs about kinds promise, by data; lists walked. -/
namespace KP
open PySem L2 FP
variable [FP.Tabl]
/-- a comprehension over data told by things -/
theorem lc_of {α : Type} {body : D → (Option D → Prop) → Prop} (e g : α → D) : ∀ (xs : List α) (Q : List D → Prop), (∀ x ∈ xs, ∀ k : Option D → Prop, k (some (g x)) → body (e x) k) → Q (xs.map g) → lcD body (xs.map e) Q
  | [], Q, _, h => h
  | x :: xs, Q, hb, h => by
    refine hb x List.mem_cons_self _ ?_
    exact lc_of e g xs _ (fun y hy => hb y (List.mem_cons_of_mem _ hy)) h
/-- two clauses -/
theorem lcS_of {α : Type} {body : D → (List D → Prop) → Prop} (e : α → D) (g : α → List D) : ∀ (xs : List α) (Q : List D → Prop), (∀ x ∈ xs, ∀ k : List D → Prop, k (g x) → body (e x) k) → Q ((xs.map g).flatten) → lcS body (xs.map e) Q
  | [], Q, _, h => h
  | x :: xs, Q, hb, h => by
    refine hb x List.mem_cons_self _ ?_
    exact lcS_of e g xs _ (fun y hy => hb y (List.mem_cons_of_mem _ hy)) h
/-- a for loop over data told by things: what holds behind each -/
theorem for_of {α : Type} {T : Tg} {f : DTS} {N : Nd} (e : α → D) (I : List α → FP.Env → Prop) : ∀ (xs done : List α) (ρ : FP.Env), I done ρ →
    (∀ (x : α) (pre post : List α), done ++ xs = pre ++ x :: post → ∀ (ρ : FP.Env) (K : FP.Env → Prop), I pre ρ → (∀ ρ', I (pre ++ [x]) ρ' → K ρ') → ∃ ρ1, T.put (e x) ρ = some ρ1 ∧ f { N with nx := K, ct := K, bk := N.nx } ρ1) →
    (∀ ρ, I (done ++ xs) ρ → N.nx ρ) → forD T f N (xs.map e) ρ
  | [], done, ρ, h, _, he => he ρ (by rw [List.append_nil]; exact h)
  | x :: xs, done, ρ, h, hs, he => by
    refine hs x done xs rfl ρ _ h fun ρ' h' => ?_
    refine for_of e I xs (done ++ [x]) ρ' h' (fun y pre post eq ρ K => hs y pre post (by rw [← eq, List.append_assoc]; rfl) ρ K) fun ρ h2 => he ρ ?_
    rw [List.append_assoc] at h2
    exact h2
noncomputable def isWordD : D → Bool
  | .str z => isWordS z
  | _ => false
noncomputable def isIntD : D → Bool
  | .int i => decide (-(10 ^ 60) < i) && decide (i < 10 ^ 60)
  | _ => false
noncomputable def f_is_word : List D → M D := fun ds Q _ => match ds with
  | [d] => okV d ∧ Q (.bl (isWordD d))
  | _ => False
noncomputable def f_is_int : List D → M D := fun ds Q _ => match ds with
  | [d] => okV d ∧ Q (.bl (isIntD d))
  | _ => False
noncomputable def inRow (d : D) (a b : Int) : Bool := match d with
  | .int i => isIntD (.int i) && (decide (a ≤ i) && decide (i ≤ b))
  | _ => false
noncomputable def f_within : List D → M D := fun ds Q _ => match ds with
  | [d, .int a, .int b] => okV d ∧ Q (.bl (inRow d a b))
  | _ => False
noncomputable def f_order : List D → M D := fun ds Q _ => match ds with
  | [.tup xs] => ∃ ks : List Kd, xs = ks.map typeD ∧ ks.length ≤ 100 ∧ Q (.int (ordL ks))
  | _ => False
noncomputable def f_intext : List D → M D := fun ds Q _ => match ds with
  | [d] => ∃ k, d = typeD k ∧ (text k).length ≤ 1000 ∧ Q (.str (intext k))
  | _ => False
noncomputable def f_init : List D → ((List (Str × D)) → Prop) → (XD → Prop) → Prop := fun ds Q _ => match ds with
  | [.tup xs, .str a] => ∃ ks : List Kd, xs = ks.map typeD ∧ Good (.mk ks a) ∧ Q (flds (.mk ks a))
  | _ => False
noncomputable def f_signed (d : Nat) : List D → M D := fun ds Q _ => match ds with
  | [x, .bl b] => ∃ k, x = typeD k ∧ Good k ∧ ord k < d ∧ Q (.lst ((signed k b).map .str))
  | _ => False
/-- what is told of a kind -/
noncomputable def f_tell (g : Kd → D) : List D → M D := fun ds Q _ => match ds with
  | [x] => ∃ k, x = typeD k ∧ Good k ∧ Q (g k)
  | _ => False
noncomputable def d_text (k : Kd) : D := .str (text k)
noncomputable def d_order (k : Kd) : D := .int (ord k)
noncomputable def d_len (k : Kd) : D := .int (places k).length
noncomputable def d_atoms (k : Kd) : D := .tup ((sortU (signed k true ++ signed k false)).map .str)
noncomputable def noT (d : D) : Prop := isiD ["Type"] (fun _ => true) d = some false
noncomputable def f_plain : List D → M D := fun ds Q _ => match ds with
  | [.cl c, .str a] => c = "Type" ∧ isWordS a = true ∧ Q (typeD (.mk [] a))
  | _ => False
theorem Good.leaf {a : Str} (h : isWordS a = true) : Good (.mk [] a) := by
  refine ⟨fun z hz => ?_, ?_, ?_⟩
  · rw [places, placesL] at hz
    rw [List.mem_singleton.mp hz]
    exact h
  · rw [places, placesL]
    show 1 ≤ 15
    decide
  · rw [ord, ordL]
    decide
theorem kit_tt : kitB "tuple" "tuple" = some true := by decide +kernel
theorem size_small {n : Nat} (h : n ≤ 1000) : n ≤ sizeLine := Nat.le_trans h (by decide)
theorem signedL_app (b : Bool) (xs ys : List Kd) : signedL (xs ++ ys) b = signedL xs b ++ signedL ys b := by
  rw [signedL_map, signedL_map, signedL_map, List.map_append, List.flatten_append]
theorem signedL_one (b : Bool) (k : Kd) : signedL [k] b = signed k b := by
  rw [signedL, signedL, List.append_nil]
theorem placesL_app (xs ys : List Kd) : placesL (xs ++ ys) = placesL xs ++ placesL ys := by
  rw [placesL_map, placesL_map, placesL_map, List.map_append, List.flatten_append]
theorem placesL_one (k : Kd) : placesL [k] = places k := by
  rw [placesL, placesL, List.append_nil]
theorem mem_mid {α : Type} {x : α} {xs pre post : List α} (h : [] ++ xs = pre ++ x :: post) : x ∈ xs := by
  rw [List.nil_append] at h
  rw [h]
  simp
theorem nope_signed (ds : List D) (Q : D → Prop) (E : XD → Prop) (h : f_signed 0 ds Q E) : False := by
  unfold f_signed at h
  split at h
  · obtain ⟨_, _, _, h, _⟩ := h
    omega
  · exact h
end KP
/-! KP4: a dict from texts to kinds; its keys in order. -/
namespace KP
open PySem L2 FP
variable [FP.Tabl]
theorem dc_of {α : Type} {body : D → (Option (Key × D) → Prop) → Prop} (e : α → D) (g : α → Key × D) : ∀ (xs : List α) (acc : List (Key × D)) (Q : List (Key × D) → Prop), (∀ x ∈ xs, ∀ k : Option (Key × D) → Prop, k (some (g x)) → body (e x) k) → Q (xs.foldl (fun a x => putKD a (g x).1 (g x).2) acc) → dcD body (xs.map e) acc Q
  | [], acc, Q, _, h => h
  | x :: xs, acc, Q, hb, h => by
    refine hb x List.mem_cons_self _ ?_
    exact dc_of e g xs _ Q (fun y hy => hb y (List.mem_cons_of_mem _ hy)) h
structure DInv (done : List Kd) (acc : List (Key × D)) : Prop where
  el : ∀ kv ∈ acc, ∃ j ∈ done, kv = (.inr (text j), typeD j)
  nd : (acc.map (·.1)).Nodup
  all : ∀ j ∈ done, Sum.inr (text j) ∈ acc.map (·.1)
theorem DInv.put {done : List Kd} {acc : List (Key × D)} (h : DInv done acc) (j : Kd) : DInv (done ++ [j]) (putKD acc (.inr (text j)) (typeD j)) := by
  unfold putKD
  by_cases q : (acc.any fun kv => decide (kv.1 = .inr (text j))) = true
  · rw [if_pos q]
    have ek : (acc.map fun kv => if kv.1 = .inr (text j) then (kv.1, typeD j) else kv).map (·.1) = acc.map (·.1) := by
      rw [List.map_map]
      apply List.map_congr_left
      intro kv _
      show (if kv.1 = .inr (text j) then (kv.1, typeD j) else kv).1 = kv.1
      split <;> rfl
    refine ⟨fun kv hkv => ?_, by rw [ek]; exact h.nd, fun i hi => ?_⟩
    · obtain ⟨kv0, h0, e⟩ := List.mem_map.mp hkv
      by_cases z : kv0.1 = .inr (text j)
      · rw [if_pos z] at e
        exact ⟨j, by simp, by rw [← e, z]⟩
      · rw [if_neg z] at e
        obtain ⟨i, hi, ei⟩ := h.el kv0 h0
        exact ⟨i, List.mem_append_left _ hi, by rw [← e, ei]⟩
    · rw [ek]
      rcases List.mem_append.mp hi with z | z
      · exact h.all i z
      · rw [List.mem_singleton.mp z]
        obtain ⟨kv, h1, h2⟩ := List.any_eq_true.mp q
        exact List.mem_map.mpr ⟨kv, h1, of_decide_eq_true h2⟩
  · rw [if_neg q]
    have nk : Sum.inr (text j) ∉ acc.map (·.1) := fun z => by
      obtain ⟨kv, h1, h2⟩ := List.mem_map.mp z
      exact q (List.any_eq_true.mpr ⟨kv, h1, decide_eq_true h2⟩)
    refine ⟨fun kv hkv => ?_, ?_, fun i hi => ?_⟩
    · rcases List.mem_append.mp hkv with z | z
      · obtain ⟨i, hi, ei⟩ := h.el kv z
        exact ⟨i, List.mem_append_left _ hi, ei⟩
      · exact ⟨j, by simp, List.mem_singleton.mp z⟩
    · rw [List.map_append]
      refine List.nodup_append.mpr ⟨h.nd, by simp, fun a ha b hb e => ?_⟩
      have eb : b = Sum.inr (text j) := by simpa using hb
      rw [e, eb] at ha
      exact nk ha
    · rw [List.map_append]
      rcases List.mem_append.mp hi with z | z
      · exact List.mem_append_left _ (h.all i z)
      · rw [List.mem_singleton.mp z]
        exact List.mem_append_right _ (by simp)
theorem isi_T (k : Kd) : isiD ["Type"] (fun _ => true) (typeD k) = some true := by
  rw [typeD_eq]
  rfl
theorem vT {i : Nat} {ρ : FP.Env} {k : Kd} {Q : D → Prop} {E : XD → Prop} (h : ρ[i]? = some (.d (typeD k))) (q : Q (.bl true)) : dIsiO ["Type"] (fun _ => true) (dVar i) ρ Q E := by
  show (match ρ[i]? with | some (.d x) => (match isiD ["Type"] (fun _ => true) x with | some b => Q (.bl b) | none => False) | _ => False)
  rw [h]
  show (match isiD ["Type"] (fun _ => true) (typeD k) with | some b => Q (.bl b) | none => False)
  rw [isi_T]
  exact q
theorem vF {i : Nat} {ρ : FP.Env} {y : D} {Q : D → Prop} {E : XD → Prop} (h : ρ[i]? = some (.d y)) (n : noT y) (q : Q (.bl false)) : dIsiO ["Type"] (fun _ => true) (dVar i) ρ Q E := by
  show (match ρ[i]? with | some (.d x) => (match isiD ["Type"] (fun _ => true) x with | some b => Q (.bl b) | none => False) | _ => False)
  rw [h]
  show (match isiD ["Type"] (fun _ => true) y with | some b => Q (.bl b) | none => False)
  rw [show isiD ["Type"] (fun _ => true) y = some false from n]
  exact q
theorem atI_nat {α : Type} {xs : List α} {i : Int} (h0 : 0 ≤ i) (h1 : i < xs.length) : atI xs i = xs[i.toNat]? := by
  unfold atI ixN
  rw [if_pos h0, if_pos h1]
  rfl
end KP
/-! KP5: how a kind is read from signs, with no program in sight. -/
namespace KP
open PySem L2 FP
variable [FP.Tabl]
noncomputable abbrev Rows := List (List Kd)
noncomputable def takeEnd (pre : Rows) (row : List Kd) (w : Bool) (s : Str) : Bool × Rows × Bool :=
  if w then (false, pre ++ [row], w) else if s = " -> " then (true, pre ++ [row], true) else
    match pre.getLast?, row.getLast? with
    | some r0, some k => if 2 ≤ row.length ∧ k.as = [] then (true, pre.dropLast ++ [r0 ++ [.mk row.dropLast k.a]], false) else (false, pre, false)
    | _, _ => (false, pre, false)
noncomputable def take1 (pre : Rows) (row : List Kd) (w : Bool) (s : Str) : Bool × Rows × Bool :=
  if s = "(" then (w && decide (pre.length + 2 ≤ 5), pre ++ [row] ++ [[]], w)
  else if s = " -> " ∨ s = ")" then takeEnd pre row w s
  else (w && isWordS s, pre ++ [row ++ [.mk [] s]], false)
structure OkR (rows : Rows) : Prop where
  n : rows.length ≤ 6
  r : ∀ row ∈ rows, row.length ≤ 2000
  k : ∀ row ∈ rows, ∀ k ∈ row, ord k ≤ 6 ∧ ∀ z ∈ places k, PyData.strOk z = true
/-! ### shapes are shaped -/
theorem shDs_of {n : Nat} : ∀ {ds : List D}, (∀ d ∈ ds, shD n d = true) → shDs n ds = true
  | [], _ => by rw [shDs]
  | d :: r, h => by
    rw [shDs, h d List.mem_cons_self, shDs_of fun e he => h e (List.mem_cons_of_mem _ he)]
    rfl
theorem OkR.dl {pre : Rows} {row : List Kd} (h : OkR (pre ++ [row])) : OkR pre := ⟨by have := h.n; rw [List.length_append] at this; have e : [row].length = 1 := rfl; omega, fun r hr => h.r r (List.mem_append_left _ hr), fun r hr => h.k r (List.mem_append_left _ hr)⟩
theorem eq_str {a b : Str} {Q : D → Prop} (q : Q (.bl (decide (a = b)))) : rdEq (.str a) (.str b) Q := q
theorem ix_p0 {k : Kd} {Q : D → Prop} (q : Q (.tup (k.as.map plain))) : rdIx (plain k) (.int 0) Q := by
  rw [plain_eq]
  exact ⟨_, rfl, q⟩
theorem ix_p1 {k : Kd} {Q : D → Prop} (q : Q (.str k.a)) : rdIx (plain k) (.int 1) Q := by
  rw [plain_eq]
  exact ⟨_, rfl, q⟩
end KP
/-! KP6: the signs of a text, and the shape that they tell, with no program in sight. -/
namespace KP
open PySem L2 FP
variable [FP.Tabl]
noncomputable def isL (c : Nat) : Bool := decide (c ∈ letters)
noncomputable def arrowL : List Nat := (" -> " : Str).cps.toList
noncomputable def parL : List Nat := ("()" : Str).cps.toList
noncomputable def lexO : Nat → List Nat → Option (List Str)
  | _, [] => some []
  | 0, _ :: _ => none
  | n + 1, c :: r =>
    if isL c = true then (lexO n (r.dropWhile isL)).map (List.cons (⟨(c :: r.takeWhile isL).toArray⟩ : Str))
    else if (c :: r).take 4 = arrowL then (lexO n (r.drop 3)).map (List.cons (" -> " : Str))
    else if c ∈ parL then (lexO n r).map (List.cons (⟨#[c]⟩ : Str))
    else none
noncomputable def lexS (z : Str) : Option (List Str) := lexO z.cps.toList.length z.cps.toList
theorem lexO_nil (n : Nat) : lexO n [] = some [] := by cases n <;> rfl
theorem lexO_fuel : ∀ (n m : Nat) (xs : List Nat), xs.length ≤ n → xs.length ≤ m → lexO n xs = lexO m xs
  | n, m, [], _, _ => by rw [lexO_nil, lexO_nil]
  | 0, _, _ :: _, h, _ => by simp at h
  | _, 0, _ :: _, _, h => by simp at h
  | n + 1, m + 1, c :: r, h, h' => by
    have h1 : r.length ≤ n := by simpa using h
    have h2 : r.length ≤ m := by simpa using h'
    have hd : (r.dropWhile isL).length ≤ r.length := (List.dropWhile_sublist isL).length_le
    have hp : (r.drop 3).length ≤ r.length := by simp
    rw [lexO, lexO, lexO_fuel n m _ (Nat.le_trans hd h1) (Nat.le_trans hd h2), lexO_fuel n m _ (Nat.le_trans hp h1) (Nat.le_trans hp h2), lexO_fuel n m r h1 h2]
theorem lexO_cons (c : Nat) (r : List Nat) : lexO (c :: r).length (c :: r) =
    if isL c = true then (lexO (r.dropWhile isL).length (r.dropWhile isL)).map (List.cons (⟨(c :: r.takeWhile isL).toArray⟩ : Str))
    else if (c :: r).take 4 = arrowL then (lexO (r.drop 3).length (r.drop 3)).map (List.cons (" -> " : Str))
    else if c ∈ parL then (lexO r.length r).map (List.cons (⟨#[c]⟩ : Str))
    else none := by
  have hd : (r.dropWhile isL).length ≤ r.length := (List.dropWhile_sublist isL).length_le
  have hp : (r.drop 3).length ≤ r.length := by simp
  rw [List.length_cons, lexO, lexO_fuel r.length _ _ hd (Nat.le_refl _), lexO_fuel r.length _ _ hp (Nat.le_refl _)]
/-- what is found so far, and the rest -/
noncomputable def Lex (z : Str) (found : List Str) (rest : List Nat) : Prop := lexS z = (lexO rest.length rest).map (found ++ ·)
theorem Lex.start (z : Str) : Lex z [] z.cps.toList := by
  unfold Lex lexS
  cases lexO z.cps.toList.length z.cps.toList <;> rfl
theorem Lex.stop {z : Str} {found : List Str} (h : Lex z found []) : lexS z = some found := by
  unfold Lex at h
  rw [h, lexO_nil]
  simp
theorem Lex.step {z : Str} {found : List Str} {rest rest' : List Nat} {s : Str} (h : Lex z found rest) (e : lexO rest.length rest = (lexO rest'.length rest').map (List.cons s)) : Lex z (found ++ [s]) rest' := by
  unfold Lex at h ⊢
  rw [h, e]
  cases lexO rest'.length rest' with
  | none => rfl
  | some ss => simp
theorem Lex.par {z : Str} {found : List Str} {c : Nat} {r : List Nat} (h : Lex z found (c :: r)) (hc : isL c = false) (ha : ¬ (c :: r).take 4 = arrowL) (hp : c ∈ parL) : Lex z (found ++ [⟨#[c]⟩]) r :=
  h.step (by rw [lexO_cons, if_neg (by rw [hc]; exact Bool.false_ne_true), if_neg ha, if_pos hp])
/-! ### places of a text -/
/-! ### signs are parts of the text -/
/-! ### the shape -/
/-- what holds between signs -/
structure RInv (rows : Rows) (w : Bool) (left : Nat) : Prop where
  ne : rows ≠ []
  n : rows.length ≤ 5
  len : ∀ row ∈ rows, row.length + left ≤ 1000
  k : ∀ (j : Nat) (row : List Kd), rows[j]? = some row → ∀ k ∈ row, ord k + j ≤ 4 ∧ ∀ z ∈ places k, PyData.strOk z = true
  last : w = false → ∀ row, rows.getLast? = some row → row ≠ []
theorem RInv.start (n : Nat) (h : n ≤ 1000) : RInv [[]] true n := by
  refine ⟨by simp, by simp, fun row hr => ?_, fun j row hr k hk => ?_, fun h => by cases h⟩
  · rw [List.mem_singleton.mp hr]
    simpa using h
  · have := List.mem_of_getElem? hr
    rw [List.mem_singleton.mp this] at hk
    cases hk
theorem snoc_get {α : Type} {pre : List α} {x y : α} {j : Nat} (h : (pre ++ [x])[j]? = some y) : pre[j]? = some y ∨ (j = pre.length ∧ y = x) := by
  by_cases hj : j < pre.length
  · rw [List.getElem?_append_left hj] at h
    exact .inl h
  · rw [List.getElem?_append_right (by omega)] at h
    cases q : j - pre.length with
    | zero =>
      rw [q] at h
      exact .inr ⟨by omega, (Option.some.inj h).symm⟩
    | succ m =>
      rw [q] at h
      simp at h
theorem RInv.put {pre : Rows} {row : List Kd} {w w' : Bool} {n : Nat} {k : Kd} (h : RInv (pre ++ [row]) w (n + 1)) (h1 : ord k + pre.length ≤ 4) (h2 : ∀ z ∈ places k, PyData.strOk z = true) : RInv (pre ++ [row ++ [k]]) w' n := by
  refine ⟨by simp, ?_, fun r hr => ?_, fun j r hr i hi => ?_, fun _ r hr => ?_⟩
  · have := h.n
    simpa using this
  · rcases List.mem_append.mp hr with q | q
    · have := h.len r (List.mem_append_left _ q)
      omega
    · rw [List.mem_singleton.mp q, List.length_append]
      have := h.len row (by simp)
      have e : [k].length = 1 := rfl
      omega
  · rcases snoc_get hr with q | ⟨ej, er⟩
    · refine h.k j r ?_ i hi
      rw [List.getElem?_append_left (List.getElem?_eq_some_iff.mp q).1]
      exact q
    · rw [er] at hi
      rcases List.mem_append.mp hi with z | z
      · refine h.k j row ?_ i z
        rw [ej, List.getElem?_append_right (Nat.le_refl _), Nat.sub_self]
        rfl
      · rw [List.mem_singleton.mp z, ej]
        exact ⟨h1, h2⟩
  · simp at hr
    rw [← hr]
    simp
theorem RInv.take {pre : Rows} {row : List Kd} {w : Bool} {n : Nat} {s : Str} (h : RInv (pre ++ [row]) w (n + 1)) (hs : PyData.strOk s = true) (ht : (take1 pre row w s).1 = true) : RInv (take1 pre row w s).2.1 (take1 pre row w s).2.2 n := by
  unfold take1 at ht ⊢
  by_cases h1 : s = "("
  · rw [if_pos h1] at ht ⊢
    rw [Bool.and_eq_true, decide_eq_true_eq] at ht
    obtain ⟨hw, hn⟩ := ht
    show RInv (pre ++ [row] ++ [[]]) w n
    refine ⟨by simp, ?_, fun r hr => ?_, fun j r hr i hi => ?_, fun hf => by rw [hw] at hf; cases hf⟩
    · rw [List.length_append, List.length_append]
      exact hn
    · rcases List.mem_append.mp hr with q | q
      · have := h.len r q
        omega
      · rw [List.mem_singleton.mp q]
        have := h.len row (by simp)
        show 0 + n ≤ _
        omega
    · rcases snoc_get hr with q | ⟨_, er⟩
      · exact h.k j r q i hi
      · rw [er] at hi
        cases hi
  · rw [if_neg h1] at ht ⊢
    by_cases h2 : s = " -> " ∨ s = ")"
    · rw [if_pos h2] at ht ⊢
      unfold takeEnd at ht ⊢
      cases w with
      | true =>
        rw [if_pos rfl] at ht
        cases ht
      | false =>
      rw [if_neg Bool.false_ne_true] at ht ⊢
      by_cases h3 : s = " -> "
      · rw [if_pos h3]
        refine ⟨h.ne, h.n, fun r hr => ?_, h.k, fun hf => by cases hf⟩
        have := h.len r hr
        omega
      · rw [if_neg h3] at ht ⊢
        rcases List.eq_nil_or_concat pre with rfl | ⟨pre', r0, rfl⟩
        · simp at ht
        · rw [List.concat_eq_append] at *
          rcases List.eq_nil_or_concat row with rfl | ⟨row', k, rfl⟩
          · simp at ht
          · rw [List.concat_eq_append] at *
            simp only [List.getLast?_append, List.getLast?_singleton, Option.some_or, List.dropLast_concat] at ht ⊢
            by_cases h4 : 2 ≤ (row' ++ [k]).length ∧ k.as = []
            · rw [if_pos h4]
              have hr : (pre' ++ [r0] ++ [row' ++ [k]])[pre'.length + 1]? = some (row' ++ [k]) := by
                rw [List.getElem?_append_right (by simp)]
                simp
              have hk := h.k _ _ hr
              have h5 : RInv (pre' ++ [r0]) true (n + 1) := by
                refine ⟨by simp, ?_, fun r hr => h.len r (List.mem_append_left _ hr), fun j r hr i hi => ?_, fun hf => by cases hf⟩
                · have := h.n
                  rw [List.length_append] at this
                  omega
                · refine h.k j r ?_ i hi
                  rw [List.getElem?_append_left (List.getElem?_eq_some_iff.mp hr).1]
                  exact hr
              refine h5.put ?_ ?_
              · have : ordL row' ≤ 4 - pre'.length := ordL_le fun i hi => by
                  have := (hk i (List.mem_append_left _ hi)).1
                  omega
                have h6 := (hk k (by simp)).1
                show ordL row' + pre'.length ≤ 4
                omega
              · intro z hz
                rw [places] at hz
                rcases List.mem_append.mp hz with q | q
                · rw [placesL_map] at q
                  obtain ⟨l, hl, hzl⟩ := List.mem_flatten.mp q
                  obtain ⟨i, hi, rfl⟩ := List.mem_map.mp hl
                  exact (hk i (List.mem_append_left _ hi)).2 z hzl
                · have e := List.mem_singleton.mp q
                  refine (hk k (by simp)).2 z ?_
                  rw [e]
                  cases k with
                  | mk as a =>
                    rw [places]
                    simp [Kd.a]
            · rw [if_neg h4] at ht
              cases ht
    · rw [if_neg h2]
      refine h.put ?_ ?_
      · show ordL [] + _ ≤ 4
        have := h.n
        rw [List.length_append] at this
        have e : [row].length = 1 := rfl
        rw [ordL]
        omega
      · intro z hz
        rw [places, placesL] at hz
        rw [List.mem_singleton.mp hz]
        exact hs
end KP
/-! KP7: the loops over the signs of a text, by data. -/
namespace KP
open PySem L2 FP
variable [FP.Tabl]
theorem ne_str {a b : Str} {Q : D → Prop} (q : Q (.bl (!decide (a = b)))) : rdNe (.str a) (.str b) Q := q
/-- between the signs -/
noncomputable def LI (z : Str) (m : Nat) (ρ : FP.Env) : Prop := ∃ (pre rest : List Nat) (found : List Str) (o : Sl), z.cps.toList = pre ++ rest ∧ m = rest.length ∧ ρ = [Sl.d (.str z), Sl.own (found.map .str), Sl.d (.int (pre.length : Int)), o] ∧ Lex z found rest ∧ found.length ≤ pre.length
theorem LI.start (z : Str) (o : Sl) : LI z z.cps.toList.length [Sl.d (.str z), Sl.own [], Sl.d (.int 0), o] := ⟨[], _, [], o, rfl, rfl, rfl, Lex.start z, Nat.le_refl _⟩
end KP
/-! KP8: what is told of plain kinds; what is read. -/
namespace KP
open PySem L2 FP
variable [FP.Tabl]
theorem tupL {xs : List D} {Q : D → Prop} (q : Q (.tup xs)) : rdTuple [.lst xs] Q := q
/-- what is told of a plain kind, by depth -/
noncomputable def f_plainK (g : Kd → D) (d : Nat) : List D → M D := fun ds Q _ => match ds with
  | [x] => ∃ k, x = plain k ∧ Good k ∧ ord k < d ∧ Q (g k)
  | _ => False
theorem nope_plainK (g : Kd → D) (ds : List D) (Q : D → Prop) (E : XD → Prop) (h : f_plainK g 0 ds Q E) : False := by
  unfold f_plainK at h
  split at h
  · obtain ⟨_, _, _, h, _⟩ := h
    omega
  · exact h
noncomputable def d_places (k : Kd) : D := .lst ((places k).map .str)
/-- a drawn plain kind -/
noncomputable def f_kind (d : Nat) : List D → M D := fun ds Q _ => match ds with
  | [.tok, .lst xs, .int o, .int m] => ∃ zs : List Str, xs = zs.map .str ∧ (0 < zs.length ∧ zs.length < 1000) ∧ (∀ z ∈ zs, isWordS z = true) ∧ (0 ≤ o ∧ o ≤ 4 ∧ o < d) ∧ (1 ≤ m ∧ m ≤ 15) ∧ ∀ k, (ord k : Int) ≤ o → ((places k).length : Int) ≤ m → (∀ z ∈ places k, z ∈ zs) → Q (plain k)
  | _ => False
theorem nope_kind (ds : List D) (Q : D → Prop) (E : XD → Prop) (h : f_kind 0 ds Q E) : False := by
  unfold f_kind at h
  split at h
  · obtain ⟨_, _, _, _, h, _⟩ := h
    omega
  · exact h
end KP
/-! KP9: readings of kinds; facts of parts and signed atoms. -/
namespace KP
open PySem L2 FP
variable [FP.Tabl]
section
variable {k j : Kd} {Q : D → Prop}
theorem prp {f : List D → M D} (h : f [typeD k] Q F0) : (match typeD k with
  | .ins c' fs => c' = "Type" ∧ f [.ins c' fs] Q F0
  | _ => False) := by
  rw [typeD_eq] at h ⊢
  exact ⟨rfl, h⟩
theorem prT {g : Kd → D} (hg : Good k) (q : Q (g k)) : (match typeD k with
  | .ins c' fs => c' = "Type" ∧ f_tell g [.ins c' fs] Q F0
  | _ => False) := prp ⟨k, rfl, hg, q⟩
end
/-! ### shaped data -/
theorem sh_str {n : Nat} {z : Str} (h : PyData.strOk z = true) : shD n (.str z) = true := by rw [shD]; exact h
theorem sh_int {n : Nat} {i : Int} : shD n (.int i) = true := by rw [shD]
theorem sh_lst {n : Nat} {xs : List D} (h : shDs n xs = true) : shD (n + 1) (.lst xs) = true := by rw [shD]; exact h
theorem sh_tup {n : Nat} {xs : List D} (h : shDs n xs = true) : shD (n + 1) (.tup xs) = true := by rw [shD]; exact h
theorem sh_nil {n : Nat} : shDs n [] = true := by rw [shDs]
theorem sh_cons {n : Nat} {x : D} {xs : List D} (h : shD n x = true) (h' : shDs n xs = true) : shDs n (x :: xs) = true := by
  rw [shDs, h, h']
  rfl
/-! ### parts, signed atoms -/
mutual
theorem signed_mem : ∀ (k : Kd) (b : Bool) (z : Str), z ∈ signed k b ∨ z ∈ signed k (!b) ↔ z ∈ places k
  | .mk as a, b, z => by
    have h := signedL_mem as (!b) z
    rw [signed, signed, places, Bool.not_not]
    rw [Bool.not_not] at h
    simp only [List.mem_append, List.mem_singleton]
    rw [← h]
    cases b with
    | true =>
      simp only [Bool.not_true, if_true, Bool.false_eq_true, if_false, List.mem_singleton, List.not_mem_nil]
      constructor
      · rintro ((h | h) | (h | h))
        · exact .inr h
        · exact .inl (.inl h)
        · exact h.elim
        · exact .inl (.inr h)
      · rintro ((h | h) | h)
        · exact .inl (.inr h)
        · exact .inr (.inr h)
        · exact .inl (.inl h)
    | false =>
      simp only [Bool.not_false, if_true, Bool.false_eq_true, if_false, List.mem_singleton, List.not_mem_nil]
      constructor
      · rintro ((h | h) | (h | h))
        · exact h.elim
        · exact .inl (.inl h)
        · exact .inr h
        · exact .inl (.inr h)
      · rintro ((h | h) | h)
        · exact .inl (.inr h)
        · exact .inr (.inr h)
        · exact .inr (.inl h)
theorem signedL_mem : ∀ (ks : List Kd) (b : Bool) (z : Str), z ∈ signedL ks b ∨ z ∈ signedL ks (!b) ↔ z ∈ placesL ks
  | [], b, z => by simp [signedL, placesL]
  | k :: r, b, z => by
    have h1 := signed_mem k b z
    have h2 := signedL_mem r b z
    rw [signedL, signedL, placesL]
    simp only [List.mem_append]
    rw [← h1, ← h2]
    constructor
    · rintro ((h | h) | (h | h))
      · exact .inl (.inl h)
      · exact .inr (.inl h)
      · exact .inl (.inr h)
      · exact .inr (.inr h)
    · rintro ((h | h) | (h | h))
      · exact .inl (.inl h)
      · exact .inr (.inl h)
      · exact .inl (.inr h)
      · exact .inr (.inr h)
end
theorem atoms_places (k : Kd) : sortU (signed k true ++ signed k false) = sortU (places k) := sortU_congr fun z => by
  rw [List.mem_append]
  exact signed_mem k true z
noncomputable def f_law : List D → M D := fun ds Q _ => match ds with
  | [.fz xs] => (∃ ns : List Int, xs = ns.map D.int ∧ ns.length ≤ 63) ∧ Q (.bl true)
  | _ => False
end KP
/-! KP10: parts of parts; readings of rows of texts. -/
namespace KP
open PySem L2 FP
variable [FP.Tabl]
theorem ne_bl {a b : Bool} {Q : D → Prop} (q : Q (.bl (!decide (a = b)))) : rdNe (.bl a) (.bl b) Q := q
theorem eq_int {a b : Int} {Q : D → Prop} (q : Q (.bl (decide (a = b)))) : rdEq (.int a) (.int b) Q := q
end KP
/-! KP11: kinds changed: one kind in the place of an atom, other atoms; what is too large. -/
namespace KP
open PySem L2 FP
variable [FP.Tabl]
/-! ### a kind in the place of an atom -/
mutual
noncomputable def put (z : Str) (j : Kd) : Kd → Kd
  | .mk as a => if a = z then .mk (putL z j as ++ j.as) j.a else .mk (putL z j as) a
noncomputable def putL (z : Str) (j : Kd) : List Kd → List Kd
  | [] => []
  | k :: r => put z j k :: putL z j r
end
/-! ### other atoms -/
mutual
noncomputable def ren (m : Str → Str) : Kd → Kd
  | .mk as a => .mk (renL m as) (m a)
noncomputable def renL (m : Str → Str) : List Kd → List Kd
  | [] => []
  | k :: r => ren m k :: renL m r
end
mutual
theorem places_ren (m : Str → Str) : ∀ k, places (ren m k) = (places k).map m
  | .mk as a => by
    rw [ren, places, places, placesL_ren m as, List.map_append]
    rfl
theorem placesL_ren (m : Str → Str) : ∀ ks, placesL (renL m ks) = (placesL ks).map m
  | [] => rfl
  | k :: r => by
    rw [renL, placesL, placesL, places_ren m k, placesL_ren m r, List.map_append]
end
/-! ### sizes -/
theorem ordL_app : ∀ xs ys : List Kd, ordL (xs ++ ys) = max (ordL xs) (ordL ys)
  | [], ys => by rw [List.nil_append, ordL]; omega
  | x :: xs, ys => by
    rw [List.cons_append, ordL, ordL, ordL_app xs ys]
    first | exact (Nat.max_assoc _ _ _).symm | exact Nat.max_assoc _ _ _ | omega
/-! ### what is made, or is too large -/
noncomputable abbrev tooX : XD := ⟨"InvalidType", []⟩
noncomputable def f_initX : List D → ((List (Str × D)) → Prop) → (XD → Prop) → Prop := fun ds Q Ex => match ds with
  | [.tup xs, .str a] => ∃ ks : List Kd, xs = ks.map typeD ∧ (∀ k ∈ ks, Good k) ∧ ks.length ≤ 60 ∧ isWordS a = true ∧ (Good (.mk ks a) → Q (flds (.mk ks a))) ∧ (¬ Good (.mk ks a) → Ex tooX)
  | _ => False
noncomputable def mapS (kvs : List (Str × Str)) (z : Str) : Str := ((kvs.find? fun p => decide (p.1 = z)).map (·.2)).getD z
/-! ### the law's own helpers -/
/-- a kind that may be too large -/
structure Mid (k : Kd) : Prop where
  w : ∀ z ∈ places k, isWordS z = true
  p : (places k).length ≤ 300
theorem Mid.kid {as : List Kd} {a : Str} (g : Mid (.mk as a)) {k : Kd} (h : k ∈ as) : Mid k := by
  refine ⟨fun z hz => g.w z ?_, ?_⟩
  · rw [places]
    exact List.mem_append_left _ (placesL_mem hz h)
  · have h1 := g.p
    rw [places, List.length_append] at h1
    have := placesL_len h
    omega
theorem Mid.few {as : List Kd} {a : Str} (g : Mid (.mk as a)) : (placesL as).length ≤ 299 ∧ as.length ≤ 299 := by
  have h1 := g.p
  rw [places, List.length_append] at h1
  have h1 : (placesL as).length + 1 ≤ 300 := h1
  have := length_placesL as
  omega
theorem not_good {ks : List Kd} {a : Str} (hw : ∀ k ∈ ks, Good k) (ha : isWordS a = true) (h : ¬ Good (.mk ks a)) : 15 < (places (.mk ks a)).length ∨ 4 < ord (.mk ks a) := by
  by_cases h1 : (places (.mk ks a)).length ≤ 15
  · by_cases h2 : ord (.mk ks a) ≤ 4
    · refine absurd ⟨fun z hz => ?_, h1, h2⟩ h
      rw [places, placesL_map] at hz
      rcases List.mem_append.mp hz with q | q
      · obtain ⟨zs, hzs, q⟩ := List.mem_flatten.mp q
        obtain ⟨k, hk, rfl⟩ := List.mem_map.mp hzs
        exact (hw k hk).w z q
      · rw [List.mem_singleton.mp q]
        exact ha
    · exact .inr (by omega)
  · exact .inl (by omega)
theorem placesL_cap : ∀ {ks : List Kd}, (∀ k ∈ ks, Good k) → (placesL ks).length ≤ 15 * ks.length
  | [], _ => Nat.zero_le _
  | k :: r, h => by
    have h1 := (h k List.mem_cons_self).p
    have h2 := placesL_cap fun j hj => h j (List.mem_cons_of_mem _ hj)
    rw [placesL, List.length_append, List.length_cons]
    omega
theorem Good.drop {as : List Kd} {a : Str} (g : Good (.mk as a)) (n : Nat) : Good (.mk (as.drop n) a) := by
  have e := List.take_append_drop n as
  have h1 : placesL as = placesL (as.take n) ++ placesL (as.drop n) := by rw [← placesL_app, e]
  have h2 : ordL as = max (ordL (as.take n)) (ordL (as.drop n)) := by rw [← ordL_app, e]
  refine ⟨fun z hz => g.w z ?_, ?_, ?_⟩
  · rw [places] at hz ⊢
    rcases List.mem_append.mp hz with q | q
    · exact List.mem_append_left _ (by rw [h1]; exact List.mem_append_right _ q)
    · exact List.mem_append_right _ q
  · have := g.p
    rw [places, List.length_append, h1, List.length_append] at this
    rw [places, List.length_append]
    omega
  · have := g.o
    rw [ord, h2] at this
    rw [ord]
    omega
theorem kit_dd : kitB "dict" "dict" = some true := by decide +kernel
theorem lenD {kvs : List (Key × D)} {Q : D → Prop} (q : Q (.int kvs.length)) : rdLen [.dct kvs] Q := q
end KP
/-! KP12: readings of operators and methods of kinds; drawn dicts. -/
namespace KP
open PySem L2 FP
variable [FP.Tabl]
theorem putKD_new (acc : List (Key × D)) {kk : Key} {v : D} (h : ∀ p ∈ acc, p.1 ≠ kk) : putKD acc kk v = acc ++ [(kk, v)] := by
  unfold putKD
  rw [if_neg]
  intro q
  obtain ⟨p, hp, e⟩ := List.any_eq_true.mp q
  exact h p hp (of_decide_eq_true e)
theorem merge_new : ∀ (more acc : List (Key × D)), ((acc ++ more).map (·.1)).Nodup → mergeD acc more = acc ++ more
  | [], acc, _ => by
    rw [List.append_nil]
    rfl
  | (kk, v) :: more, acc, h => by
    have e : mergeD acc ((kk, v) :: more) = mergeD (putKD acc kk v) more := rfl
    rw [e, putKD_new acc, merge_new more (acc ++ [(kk, v)])]
    · rw [List.append_assoc]
      rfl
    · rw [List.append_assoc]
      exact h
    · intro p hp q
      rw [List.map_append, List.nodup_append] at h
      exact h.2.2 p.1 (List.mem_map.mpr ⟨p, hp, rfl⟩) kk (by rw [List.map_cons]; exact List.mem_cons_self) q
end KP
/-! KP13: the text of a kind is read as this kind. -/
namespace KP
open PySem L2 FP
variable [FP.Tabl]
/-! ### the signs of a kind -/
mutual
noncomputable def sigs : Kd → List Str
  | .mk as a => sigsL as ++ [a]
noncomputable def sigsL : List Kd → List Str
  | [] => []
  | k :: r => (if k.as.isEmpty then sigs k else ("(" : Str) :: (sigs k ++ [(")" : Str)])) ++ ((" -> " : Str) :: sigsL r)
end
end KP
/-! KP14: the text of a kind is its signs. -/
namespace KP
open PySem L2 FP
variable [FP.Tabl]
noncomputable def flat (ss : List Str) : List Nat := (ss.map fun s => s.cps.toList).flatten
/-! ### the signs of a kind stand apart -/
end KP
/-! KP15: kinds grown step by step (k09). -/
namespace KP
open PySem L2 FP
variable [FP.Tabl]
theorem Kd.places_eq (i : Kd) : places i = placesL i.as ++ [i.a] := by cases i with | mk bs b => rw [places]; rfl
theorem Kd.len_eq (i : Kd) : (places i).length = (placesL i.as).length + 1 := by rw [i.places_eq, List.length_append]; rfl
end KP
/-! KP16: kinds in the place of atoms, one behind the other; names there and back. -/
namespace KP
open PySem L2 FP
variable [FP.Tabl]
/-! ### names there and back -/
theorem mapS_mem {kvs : List (Str × Str)} (hn : (kvs.map (·.1)).Nodup) {p : Str × Str} (hp : p ∈ kvs) : mapS kvs p.1 = p.2 := by
  unfold mapS
  have h1 : (kvs.find? fun q => decide (q.1 = p.1)).isSome = true := List.find?_isSome.mpr ⟨p, hp, decide_eq_true rfl⟩
  obtain ⟨q, hq⟩ := Option.isSome_iff_exists.mp h1
  rw [hq]
  have h2 := List.mem_of_find?_eq_some hq
  have h3 : q.1 = p.1 := by simpa using List.find?_some hq
  have h4 : q = p := by
    have inj : ∀ (l : List (Str × Str)), (l.map (·.1)).Nodup → q ∈ l → p ∈ l → q = p := by
      intro l
      induction l with
      | nil => intro _ h; cases h
      | cons x l ih =>
        intro hn hq hp
        rw [List.map_cons, List.nodup_cons] at hn
        rcases List.mem_cons.mp hq with e | hq
        · rcases List.mem_cons.mp hp with e' | hp
          · rw [e, e']
          · exact absurd (List.mem_map.mpr ⟨p, hp, by rw [← h3, e]⟩) hn.1
        · rcases List.mem_cons.mp hp with e' | hp
          · exact absurd (List.mem_map.mpr ⟨q, hq, by rw [h3, e']⟩) hn.1
          · exact ih hn.2 hq hp
    exact inj kvs hn h2 hp
  show q.2 = p.2
  rw [h4]
end KP
/-! KP17: promises of the law k06. -/
namespace KP
open PySem L2 FP
variable [FP.Tabl]
/-- a dict from a kind's atoms to other words -/
structure Names (k : Kd) (kvs : List (Str × Str)) : Prop where
  keys : kvs.map (·.1) = sortU (signed k true ++ signed k false)
  nd : (kvs.map (·.2)).Nodup
  w : ∀ p ∈ kvs, isWordS p.2 = true
theorem Names.ndk {k : Kd} {kvs : List (Str × Str)} (h : Names k kvs) : (kvs.map (·.1)).Nodup := by rw [h.keys]; exact sortU_nodup _
theorem Names.mem {k : Kd} {kvs : List (Str × Str)} (h : Names k kvs) {z : Str} : z ∈ kvs.map (·.1) ↔ z ∈ places k := by rw [h.keys, atoms_places, sortU_mem]
theorem map_keys {kvs : List (Str × Str)} (h : (kvs.map (·.1)).Nodup) : (kvs.map (·.1)).map (mapS kvs) = kvs.map (·.2) := by
  rw [List.map_map]
  exact List.map_congr_left fun p hp => mapS_mem h hp
theorem nodup_len_le {α : Type} [DecidableEq α] : ∀ {xs ys : List α}, xs.Nodup → (∀ x ∈ xs, x ∈ ys) → xs.length ≤ ys.length
  | [], _, _, _ => Nat.zero_le _
  | x :: xs, ys, hn, h => by
    rw [List.nodup_cons] at hn
    have hx := h x List.mem_cons_self
    have h2 : ∀ y ∈ xs, y ∈ ys.erase x := fun y hy => by
      have ne : y ≠ x := fun q => hn.1 (by rw [← q]; exact hy)
      exact (List.mem_erase_of_ne ne).mpr (h y (List.mem_cons_of_mem _ hy))
    have ih := nodup_len_le hn.2 h2
    have e := List.length_erase_of_mem hx
    have pos : 0 < ys.length := List.length_pos_of_mem hx
    rw [List.length_cons]
    omega
/-- the atoms behind the change are the new words -/
theorem Names.new {k : Kd} {kvs : List (Str × Str)} (h : Names k kvs) : (∀ z ∈ sortU (signed (ren (mapS kvs) k) true ++ signed (ren (mapS kvs) k) false), z ∈ kvs.map (·.2)) ∧ kvs.length = (sortU (signed (ren (mapS kvs) k) true ++ signed (ren (mapS kvs) k) false)).length := by
  have hm : ∀ z, z ∈ sortU (signed (ren (mapS kvs) k) true ++ signed (ren (mapS kvs) k) false) ↔ z ∈ kvs.map (·.2) := fun z => by
    rw [atoms_places, sortU_mem, places_ren, ← map_keys h.ndk, List.mem_map, List.mem_map]
    constructor
    · rintro ⟨x, hx, rfl⟩
      exact ⟨x, h.mem.mpr hx, rfl⟩
    · rintro ⟨x, hx, rfl⟩
      exact ⟨x, h.mem.mp hx, rfl⟩
  refine ⟨fun z hz => (hm z).mp hz, ?_⟩
  have h1 := nodup_len_le (sortU_nodup (signed (ren (mapS kvs) k) true ++ signed (ren (mapS kvs) k) false)) fun z hz => (hm z).mp hz
  have h2 := nodup_len_le h.nd fun z hz => (hm z).mpr hz
  rw [List.length_map] at h1 h2
  omega
/-! ### sizes -/
end KP
namespace KP
open PySem L2 FP
end KP
/-! KP18: a text is read exactly if it is the text of a kind: both readers, with no program in sight. -/
namespace KP
open PySem L2 FP
variable [FP.Tabl]
/-! ### signs -/
/-- the signs of a kind as an argument -/
noncomputable def item (k : Kd) : List Str := if k.as.isEmpty then sigs k else ("(" : Str) :: (sigs k ++ [(")" : Str)])
theorem sigsL_cons (k : Kd) (r : List Kd) : sigsL (k :: r) = item k ++ ((" -> " : Str) :: sigsL r) := by
  rw [sigsL]
  rfl
theorem sigsL_app : ∀ xs ys : List Kd, sigsL (xs ++ ys) = sigsL xs ++ sigsL ys
  | [], ys => by rw [List.nil_append, sigsL, List.nil_append]
  | k :: r, ys => by rw [List.cons_append, sigsL_cons, sigsL_cons, sigsL_app r ys, List.append_assoc, List.cons_append]
theorem sigsL_one (k : Kd) : sigsL [k] = item k ++ [(" -> " : Str)] := by rw [sigsL_cons, sigsL]
theorem sigs_eq (k : Kd) : sigs k = sigsL k.as ++ [k.a] := by
  cases k with
  | mk as a => rw [sigs]; rfl
theorem item_plain {k : Kd} (h : k.as = []) : item k = [k.a] := by
  unfold item
  rw [h, sigs_eq, h, sigsL]
  rfl
theorem item_par {k : Kd} (h : k.as ≠ []) : item k = ("(" : Str) :: (sigs k ++ [(")" : Str)]) := by
  unfold item
  rw [if_neg fun q => h (List.isEmpty_iff.mp q)]
/-! ### the package's reader -/
noncomputable def pres (pre : Rows) : List Str := (pre.map fun p => sigsL p ++ [("(" : Str)]).flatten
theorem pres_snoc (pre : Rows) (row : List Kd) : pres (pre ++ [row]) = pres pre ++ (sigsL row ++ [("(" : Str)]) := by
  unfold pres
  rw [List.map_append, List.flatten_append]
  simp
noncomputable def RdOk (rows : Rows) : Prop := ∀ row ∈ rows, ∀ k ∈ row, ∀ z ∈ places k, isWordS z = true
noncomputable def St (done : List Str) (pre : Rows) (row : List Kd) : Bool → Prop
  | true => done = pres pre ++ sigsL row
  | false => ∃ (r : List Kd) (k : Kd), row = r ++ [k] ∧ done = pres pre ++ (sigsL r ++ item k)
theorem RdOk.more {pre : Rows} {row : List Kd} (h : RdOk (pre ++ [row])) {k : Kd} (hk : ∀ z ∈ places k, isWordS z = true) : RdOk (pre ++ [row ++ [k]]) := fun r hr j hj => by
  rcases List.mem_append.mp hr with q | q
  · exact h r (List.mem_append_left _ q) j hj
  · rw [List.mem_singleton.mp q] at hj
    rcases List.mem_append.mp hj with q2 | q2
    · exact h row (List.mem_append_right _ (List.mem_singleton.mpr rfl)) j q2
    · rw [List.mem_singleton.mp q2]
      exact hk
theorem St.step {done : List Str} {pre : Rows} {row : List Kd} {w : Bool} {s : Str} (h : St done pre row w) (hr : RdOk (pre ++ [row])) (ht : (take1 pre row w s).1 = true) :
    ∃ (pre' : Rows) (row' : List Kd), (take1 pre row w s).2.1 = pre' ++ [row'] ∧ St (done ++ [s]) pre' row' (take1 pre row w s).2.2 ∧ RdOk (pre' ++ [row']) := by
  unfold take1 at ht ⊢
  by_cases h1 : s = "("
  · subst h1
    rw [if_pos rfl] at ht ⊢
    have hw : w = true := by
      have := Bool.and_eq_true_iff.mp ht
      exact this.1
    subst hw
    refine ⟨pre ++ [row], [], rfl, ?_, fun r hr' j hj => ?_⟩
    · show done ++ [("(" : Str)] = pres (pre ++ [row]) ++ sigsL []
      have h' : done = pres pre ++ sigsL row := h
      rw [pres_snoc, sigsL, List.append_nil, h', List.append_assoc]
    · rcases List.mem_append.mp hr' with q | q
      · exact hr r q j hj
      · rw [List.mem_singleton.mp q] at hj
        cases hj
  rw [if_neg h1] at ht ⊢
  by_cases h2 : s = " -> " ∨ s = ")"
  · rw [if_pos h2] at ht ⊢
    unfold takeEnd at ht ⊢
    cases w with
    | true => cases ht
    | false =>
      rw [if_neg Bool.false_ne_true] at ht ⊢
      obtain ⟨r, k, rfl, hd⟩ := h
      by_cases h3 : s = " -> "
      · subst h3
        rw [if_pos rfl] at ht ⊢
        refine ⟨pre, r ++ [k], rfl, ?_, hr⟩
        show done ++ [(" -> " : Str)] = pres pre ++ sigsL (r ++ [k])
        rw [hd, sigsL_app, sigsL_one]
        simp [List.append_assoc]
      · have h4 : s = ")" := h2.resolve_left h3
        subst h4
        rw [if_neg h3] at ht ⊢
        rw [List.getLast?_concat] at ht ⊢
        cases hp : pre.getLast? with
        | none =>
          rw [hp] at ht
          cases ht
        | some r0 =>
          rw [hp] at ht
          dsimp only at ht ⊢
          split at ht
          case isFalse => cases ht
          rename_i hc
          rw [if_pos hc]
          have hpre : pre = pre.dropLast ++ [r0] := by
            cases pre with
            | nil => cases hp
            | cons x xs =>
              have e := List.dropLast_concat_getLast (l := x :: xs) (List.cons_ne_nil _ _)
              rw [List.getLast?_eq_some_getLast (List.cons_ne_nil _ _)] at hp
              rw [Option.some.inj hp] at e
              exact e.symm
          generalize pre.dropLast = pp at hpre ⊢
          subst hpre
          have hrr : r ≠ [] := fun q => by
            subst q
            have := hc.1
            simp at this
          refine ⟨pp, r0 ++ [.mk (r ++ [k]).dropLast k.a], rfl, ⟨r0, .mk (r ++ [k]).dropLast k.a, rfl, ?_⟩, ?_⟩
          · rw [List.dropLast_concat, item_par (k := .mk r k.a) hrr, hd, pres_snoc, item_plain hc.2, sigs_eq]
            simp [List.append_assoc]
            rfl
          · rw [List.dropLast_concat]
            refine RdOk.more (fun q hq => hr q (List.mem_append_left _ hq)) fun z hz => ?_
            rw [places] at hz
            have hrow : ∀ j ∈ r ++ [k], ∀ z ∈ places j, isWordS z = true := hr _ (List.mem_append_right _ (List.mem_singleton.mpr rfl))
            rcases List.mem_append.mp hz with q | q
            · rw [placesL_map] at q
              obtain ⟨x, hx1, hx2⟩ := List.mem_flatten.mp q
              obtain ⟨j, hj1, rfl⟩ := List.mem_map.mp hx1
              exact hrow j (List.mem_append_left _ hj1) z hx2
            · rw [List.mem_singleton.mp q]
              refine hrow k (List.mem_append_right _ (List.mem_singleton.mpr rfl)) k.a ?_
              rw [k.places_eq]
              simp
  · rw [if_neg h2] at ht ⊢
    have hw := Bool.and_eq_true_iff.mp ht
    have hw1 : w = true := hw.1
    subst hw1
    have h' : done = pres pre ++ sigsL row := h
    refine ⟨pre, row ++ [.mk [] s], rfl, ⟨row, .mk [] s, rfl, ?_⟩, hr.more fun z hz => ?_⟩
    · rw [h', item_plain (k := .mk [] s) rfl, List.append_assoc]
      rfl
    · rw [places, placesL] at hz
      rw [List.mem_singleton.mp hz]
      exact hw.2
/-! ### the kind of a text -/
end KP
/-! KP19: the reader of law k04, with no program in sight. -/
namespace KP
open PySem L2 FP
variable [FP.Tabl]
noncomputable abbrev Rd := List Nat → Option (Kd × List Nat)
/-! ### sound -/
/-! ### complete -/
noncomputable def stops (r : List Nat) : Prop := r = [] ∨ ∃ r', r = 41 :: r'
/-! ### parentheses -/
/-! ### what the law finds due -/
end KP
/-! KP20: what the defs about texts of kinds promise (k04). -/
namespace KP
open PySem L2 FP
end KP
/-! KP21: what the defs about kinds promise of any arguments (k07). -/
namespace KP
open PySem L2 FP
variable [FP.Tabl]
noncomputable def okI : D → Prop
  | .ins c _ => c = "Type"
  | d => okV d
theorem okV.i {d : D} (h : okV d) : okI d := by
  cases d with
  | ins c fs => exact h.elim
  | _ => exact h
/-! ### words and numbers -/
noncomputable abbrev wordX : XD := ⟨"InvalidWord", []⟩
/-! ### dicts of any data -/
noncomputable def atomsK (k : Kd) : List Str := sortU (signed k true ++ signed k false)
/-! ### making -/
/-! ### reading -/
/-! ### the word for an error -/
end KP
/-! KP22: wrong arguments, as law k07 draws them. -/
namespace KP
open PySem L2 FP
variable [FP.Tabl]
/-- no word -/
structure OddP (d : D) : Prop where
  v : okV d
  w : isWordD d = false
theorem OddP.no {d : D} (h : OddP d) {a : Str} (e : d = .str a) (hw : isWordS a = true) {α : Prop} : α := by
  subst e
  have h2 : isWordS a = false := h.w
  rw [hw] at h2
  cases h2
end KP
/-! KP23: law k07's calls that are refused. -/
namespace KP
open PySem L2 FP
variable [FP.Tabl]
theorem pkN {n : Nat} (h : (Nat.blt 0 n && Nat.blt n 1073741824) = true) : 0 < n ∧ n < 1073741824 := by
  rw [Bool.and_eq_true, Nat.blt_eq, Nat.blt_eq] at h
  exact h
theorem line_lt {n : Nat} (h : Nat.blt n 16777216 = true) : n < sizeLine := Nat.blt_eq ▸ h
end KP
/-! KP24: wrong indices, operands and names, as law k07 draws them. -/
namespace KP
open PySem L2 FP
variable [FP.Tabl]
/-! ### dicts made of rows of pairs -/
noncomputable def dctF {α : Type} (key : α → Str) (g : α → D) (zs : List α) : List (Key × D) := zs.map fun z => (.inr (key z), g z)
theorem pairs_F {α : Type} (key : α → Str) (g : α → D) : ∀ zs : List α, pairsD (zs.map fun z => D.tup [.str (key z), g z]) = some (dctF key g zs)
  | [] => rfl
  | z :: r => by
    rw [List.map_cons, pairsD, pairs_F key g r]
    rfl
theorem keys_F {α : Type} (key : α → Str) (g : α → D) (zs : List α) : (dctF key g zs).map (·.1) = (zs.map key).map Sum.inr := by
  unfold dctF
  rw [List.map_map, List.map_map]
  rfl
theorem merge_F {α : Type} {key : α → Str} {g : α → D} {zs : List α} (h : (zs.map key).Nodup) : mergeD [] (dctF key g zs) = dctF key g zs := by
  have e := merge_new (dctF key g zs) [] (by
    rw [List.nil_append, keys_F]
    exact List.Pairwise.map _ (fun a b n q => n (Sum.inr.inj q)) h)
  rw [List.nil_append] at e
  exact e
theorem items_F {α : Type} (key : α → Str) (g : α → D) (zs : List α) : ((dctF key g zs).map fun kv => D.tup [kD kv.1, kv.2]) = zs.map fun z => D.tup [.str (key z), g z] := by
  unfold dctF
  rw [List.map_map]
  rfl
theorem kD_F {α : Type} (key : α → Str) (g : α → D) (zs : List α) : ((dctF key g zs).map fun kv => kD kv.1) = zs.map fun z => D.str (key z) := by
  unfold dctF
  rw [List.map_map]
  rfl
/-! ### wrong dicts of names -/
theorem atomsK_mem {k : Kd} {z : Str} : z ∈ atomsK k ↔ z ∈ places k := by
  unfold atomsK
  rw [atoms_places, sortU_mem]
theorem inRow_in {n m : Int} (h0 : 0 ≤ n) (h1 : n ≤ m) (hm : m < 1000) : inRow (.int n) 0 m = true := by
  show ((decide (-(10 ^ 60) < n) && decide (n < 10 ^ 60)) && (decide (0 ≤ n) && decide (n ≤ m))) = true
  rw [decide_eq_true (show -(10 ^ 60) < n by omega), decide_eq_true (show n < 10 ^ 60 by omega), decide_eq_true h0, decide_eq_true h1]
  rfl
/-! ### calls on known kinds -/
theorem wordD_no {w : Str} (hw : isWordS w = true) {α : Prop} (n : isWordD (.str w) = false) : α := by
  have h : isWordD (.str w) = true := hw
  rw [h] at n
  cases n
end KP
/-! KP25: plain libraries. -/
namespace KP
open PySem L2 FP
variable [FP.Tabl]
noncomputable instance : DecidableEq Kd := fun _ _ => Classical.propDecidable _
noncomputable abbrev Lib := List (Str × Kd)
noncomputable def keysL (L : Lib) : List Str := L.map (·.1)
noncomputable def getL (L : Lib) (z : Str) : Option Kd := (L.find? fun p => decide (p.1 = z)).map (·.2)
noncomputable abbrev rowsL (h : Kd → D) (L : Lib) : List (Key × D) := dctF (fun p : Str × Kd => p.1) (fun p => h p.2) L
/-- a plain library; the dict of its parts -/
noncomputable def libP (L : Lib) : D := .dct (rowsL plain L)
noncomputable def libT (L : Lib) : D := .dct (rowsL typeD L)
theorem getL_nil (z : Str) : getL [] z = none := rfl
theorem getL_cons (p : Str × Kd) (L : Lib) (z : Str) : getL (p :: L) z = if p.1 = z then some p.2 else getL L z := by
  unfold getL
  rw [List.find?_cons]
  by_cases q : p.1 = z <;> simp [q]
theorem getL_app (L M : Lib) (z : Str) : getL (L ++ M) z = (getL L z).or (getL M z) := by
  induction L with
  | nil => rfl
  | cons p r ih =>
    rw [List.cons_append, getL_cons, getL_cons, ih]
    by_cases q : p.1 = z
    · rw [if_pos q, if_pos q]
      rfl
    · rw [if_neg q, if_neg q]
theorem getL_out {L : Lib} {z : Str} : getL L z = none ↔ z ∉ keysL L := by
  induction L with
  | nil => simp [getL, keysL]
  | cons p r ih =>
    rw [getL_cons]
    by_cases q : p.1 = z
    · rw [if_pos q]
      simp [keysL, q]
    · rw [if_neg q, ih]
      simp [keysL, Ne.symm q]
theorem getL_some {L : Lib} {z : Str} {k : Kd} (h : getL L z = some k) : (z, k) ∈ L := by
  induction L with
  | nil => cases h
  | cons p r ih =>
    rw [getL_cons] at h
    by_cases q : p.1 = z
    · rw [if_pos q] at h
      cases h
      rw [← q]
      exact List.mem_cons_self
    · rw [if_neg q] at h
      exact List.mem_cons_of_mem _ (ih h)
theorem getL_of {L : Lib} (nd : (keysL L).Nodup) {z : Str} {k : Kd} (h : (z, k) ∈ L) : getL L z = some k := by
  induction L with
  | nil => cases h
  | cons p r ih =>
    have nd2 : (p.1 :: keysL r).Nodup := nd
    rw [List.nodup_cons] at nd2
    rw [getL_cons]
    rcases List.mem_cons.mp h with e | e
    · rw [← e, if_pos rfl]
    · have hm : z ∈ keysL r := List.mem_map.mpr ⟨_, e, rfl⟩
      rw [if_neg fun q => nd2.1 (by rw [q]; exact hm)]
      exact ih nd2.2 e
theorem getL_in {L : Lib} {z : Str} (h : z ∈ keysL L) : ∃ k, getL L z = some k ∧ (z, k) ∈ L := by
  cases q : getL L z with
  | none => exact absurd h (getL_out.mp q)
  | some k => exact ⟨k, rfl, getL_some q⟩
theorem key_in {L : Lib} {z : Str} {k : Kd} (h : getL L z = some k) : z ∈ keysL L := List.mem_map.mpr ⟨_, getL_some h, rfl⟩
/-- the kind of a name -/
noncomputable def kindAt (L : Lib) (z : Str) : Kd := (getL L z).getD (.mk [] z)
theorem kindAt_of {L : Lib} {z : Str} {k : Kd} (h : getL L z = some k) : kindAt L z = k := by
  unfold kindAt
  rw [h]
  rfl
/-- what names tell, picked out of a library -/
noncomputable def pickL (L : Lib) (zs : List Str) : Lib := zs.map fun z => (z, kindAt L z)
theorem keys_pick (L : Lib) (zs : List Str) : keysL (pickL L zs) = zs := by
  unfold keysL pickL
  rw [List.map_map]
  exact List.map_id _
theorem get_pick {L : Lib} {zs : List Str} (h : ∀ z ∈ zs, z ∈ keysL L) (z : Str) : getL (pickL L zs) z = if z ∈ zs then getL L z else none := by
  induction zs with
  | nil => rfl
  | cons y r ih =>
    show getL ((y, kindAt L y) :: pickL L r) z = _
    rw [getL_cons, ih fun x hx => h x (List.mem_cons_of_mem _ hx)]
    by_cases q : y = z
    · subst q
      obtain ⟨k, hk, _⟩ := getL_in (h y List.mem_cons_self)
      rw [if_pos rfl, if_pos List.mem_cons_self, hk, kindAt_of hk]
    · rw [if_neg q]
      by_cases hz : z ∈ r
      · rw [if_pos hz, if_pos (List.mem_cons_of_mem _ hz)]
      · rw [if_neg hz, if_neg fun m => (List.mem_cons.mp m).elim (fun e => q e.symm) hz]
/-- in the order of the names -/
noncomputable def sortL (L : Lib) : Lib := pickL L (sortS (keysL L))
theorem keys_sort (L : Lib) : keysL (sortL L) = sortS (keysL L) := keys_pick _ _
theorem get_sort (L : Lib) (z : Str) : getL (sortL L) z = getL L z := by
  unfold sortL
  rw [get_pick fun z hz => (sortS_perm _).mem_iff.mp hz]
  by_cases h : z ∈ sortS (keysL L)
  · rw [if_pos h]
  · rw [if_neg h]
    exact (getL_out.mpr fun m => h ((sortS_perm _).mem_iff.mpr m)).symm
theorem nd_sort {L : Lib} (nd : (keysL L).Nodup) : (keysL (sortL L)).Nodup := by
  rw [keys_sort]
  exact (sortS_perm _).nodup_iff.mpr nd
/-- libraries with the same parts -/
noncomputable def sameL (L M : Lib) : Prop := ∀ z, getL L z = getL M z
theorem sameL.keys {L M : Lib} (h : sameL L M) (z : Str) : z ∈ keysL L ↔ z ∈ keysL M := by
  constructor
  · intro m
    obtain ⟨k, hk, _⟩ := getL_in m
    rw [h z] at hk
    exact key_in hk
  · intro m
    obtain ⟨k, hk, _⟩ := getL_in m
    rw [← h z] at hk
    exact key_in hk
theorem sameL.symm {L M : Lib} (h : sameL L M) : sameL M L := fun z => (h z).symm
theorem sameL.trans {L M N : Lib} (h : sameL L M) (g : sameL M N) : sameL L N := fun z => (h z).trans (g z)
theorem same_sort (L : Lib) : sameL (sortL L) L := get_sort L
theorem sort_same {L M : Lib} (h : sameL L M) (nl : (keysL L).Nodup) (nm : (keysL M).Nodup) : sortL L = sortL M := by
  have hp : (keysL L).Perm (keysL M) := nodup_perm nl nm fun z => h.keys z
  have e : sortS (keysL L) = sortS (keysL M) := upS_eq (sortS_up _) (sortS_up _) (((sortS_perm _).trans hp).trans (sortS_perm _).symm)
  unfold sortL
  rw [e]
  unfold pickL
  refine List.map_congr_left fun z _ => ?_
  unfold kindAt
  rw [h z]
theorem len_sort (L : Lib) : (sortL L).length = L.length := by
  have e := congrArg List.length (keys_sort L)
  rw [(sortS_perm _).length_eq] at e
  unfold keysL at e
  rw [List.length_map, List.length_map] at e
  exact e
/-- a library as the package has them -/
structure LibG (L : Lib) : Prop where
  nd : (keysL L).Nodup
  w : ∀ p ∈ L, isWordS p.1 = true
  g : ∀ p ∈ L, Good p.2
theorem LibG.same {L M : Lib} (h : LibG L) (s : sameL L M) (nm : (keysL M).Nodup) : LibG M := by
  have m : ∀ p ∈ M, p ∈ L := fun p hp => by
    have e := getL_of nm (show (p.1, p.2) ∈ M from hp)
    rw [← s p.1] at e
    exact getL_some e
  exact ⟨nm, fun p hp => h.w p (m p hp), fun p hp => h.g p (m p hp)⟩
theorem LibG.sort {L : Lib} (h : LibG L) : LibG (sortL L) := h.same (same_sort L).symm (nd_sort h.nd)
theorem LibG.sub {L M : Lib} (h : LibG L) (s : M.Sublist L) : LibG M := ⟨h.nd.sublist (s.map _), fun p hp => h.w p (s.subset hp), fun p hp => h.g p (s.subset hp)⟩
theorem LibG.kid {L : Lib} (h : LibG L) {z : Str} {k : Kd} (e : getL L z = some k) : Good k := h.g _ (getL_some e)
theorem LibG.nil : LibG [] := ⟨List.nodup_nil, fun _ h => absurd h List.not_mem_nil, fun _ h => absurd h List.not_mem_nil⟩
/-! ### lines, texts -/
noncomputable def lineS (p : Str × Kd) : Str := p.1 ++ " : " ++ text p.2
noncomputable def linesL (L : Lib) : List Str := (sortL L).map lineS
noncomputable def scopeL (L : Lib) : List Str := sortU ((sortL L).map fun p => text p.2)
noncomputable def libF (L : Lib) : List (Str × D) := [("own_parts", libT (sortL L)), ("own_names", .tup ((keysL (sortL L)).map .str)), ("own_lines", .tup ((linesL L).map .str)), ("own_scope", .tup ((scopeL L).map .str))]
noncomputable def libD (L : Lib) : D := .ins "Library" (libF L)
theorem lib_same {L M : Lib} (h : sameL L M) (nl : (keysL L).Nodup) (nm : (keysL M).Nodup) : libD L = libD M := by
  have e := sort_same h nl nm
  unfold libD libF linesL scopeL
  rw [e]
/-! ### dicts of libraries -/
theorem val_rows (h : Kd → D) (L : Lib) (z : Str) : valD (rowsL h L) (.inr z) = (getL L z).map h := by
  induction L with
  | nil => rfl
  | cons p r ih =>
    show valD ((.inr p.1, h p.2) :: rowsL h r) (.inr z) = _
    rw [valD_cons, getL_cons, ih]
    by_cases q : p.1 = z
    · rw [if_pos (by rw [q]), if_pos q]
      rfl
    · rw [if_neg fun e => q (Sum.inr.inj e), if_neg q]
theorem in_rows (h : Kd → D) (L : Lib) (z : Str) : (valD (rowsL h L) (.inr z)).isSome = decide (z ∈ keysL L) := by
  rw [val_rows, Option.isSome_map]
  cases q : getL L z with
  | none => rw [decide_eq_false (getL_out.mp q)]; rfl
  | some k => rw [decide_eq_true (key_in q)]; rfl
theorem len_rows (h : Kd → D) (L : Lib) : (rowsL h L).length = L.length := List.length_map _
theorem keys_rows (h : Kd → D) (L : Lib) : ((rowsL h L).map fun kv => kD kv.1) = (keysL L).map D.str := by
  unfold rowsL keysL
  rw [kD_F, List.map_map]
  rfl
theorem vals_rows (h : Kd → D) (L : Lib) : ((rowsL h L).map (·.2)) = L.map fun p => h p.2 := by
  unfold rowsL dctF
  rw [List.map_map]
  rfl
theorem items_rows (h : Kd → D) (L : Lib) : ((rowsL h L).map fun kv => D.tup [kD kv.1, kv.2]) = L.map fun p => D.tup [.str p.1, h p.2] := items_F _ _ L
/-- a part more, or another kind of one -/
noncomputable def putL1 (L : Lib) (z : Str) (k : Kd) : Lib := if z ∈ keysL L then L.map (fun p => if p.1 = z then (p.1, k) else p) else L ++ [(z, k)]
theorem put_rows (h : Kd → D) (L : Lib) (z : Str) (k : Kd) : putKD (rowsL h L) (.inr z) (h k) = rowsL h (putL1 L z k) := by
  unfold putKD putL1
  have e : ((rowsL h L).any fun kv => decide (kv.1 = .inr z)) = decide (z ∈ keysL L) := by
    unfold rowsL dctF keysL
    rw [List.any_map]
    by_cases hz : z ∈ L.map (·.1)
    · rw [decide_eq_true hz, List.any_eq_true]
      obtain ⟨p, hp, q⟩ := List.mem_map.mp hz
      exact ⟨p, hp, decide_eq_true (congrArg Sum.inr q)⟩
    · rw [decide_eq_false hz, List.any_eq_false]
      intro p hp q
      exact hz (List.mem_map.mpr ⟨p, hp, Sum.inr.inj (of_decide_eq_true q)⟩)
  rw [e]
  by_cases hz : z ∈ keysL L
  · rw [decide_eq_true hz, if_pos rfl, if_pos hz]
    unfold rowsL dctF
    rw [List.map_map, List.map_map]
    refine List.map_congr_left fun p _ => ?_
    show (if (Sum.inr p.1 : Key) = .inr z then _ else _) = _
    by_cases q : p.1 = z
    · rw [if_pos (by rw [q])]
      simp [q]
    · rw [if_neg fun e => q (Sum.inr.inj e)]
      simp [q]
  · rw [decide_eq_false hz, if_neg hz, if_neg Bool.false_ne_true]
    unfold rowsL dctF
    rw [List.map_append]
    rfl
theorem get_put (L : Lib) (z : Str) (k : Kd) (y : Str) : getL (putL1 L z k) y = if y = z then some k else getL L y := by
  unfold putL1
  by_cases hz : z ∈ keysL L
  · rw [if_pos hz]
    induction L with
    | nil => cases hz
    | cons p r ih =>
      rw [List.map_cons, getL_cons, getL_cons]
      have ih2 : getL (r.map fun p => if p.1 = z then (p.1, k) else p) y = if y = z ∧ z ∈ keysL r then some k else getL r y := by
        by_cases hr : z ∈ keysL r
        · rw [ih hr]
          by_cases q : y = z <;> simp [q, hr]
        · have e : (r.map fun p => if p.1 = z then (p.1, k) else p) = r := by
            conv => rhs; rw [← List.map_id r]
            refine List.map_congr_left fun x hx => ?_
            rw [if_neg fun q => hr (List.mem_map.mpr ⟨x, hx, q⟩)]
            rfl
          rw [e, if_neg fun q => hr q.2]
      rw [ih2]
      by_cases q1 : p.1 = z
      · rw [if_pos q1]
        by_cases q2 : y = z
        · rw [if_pos (show p.1 = y by rw [q1, q2]), if_pos q2]
        · have n1 : ¬ p.1 = y := fun e => q2 (by rw [← e, q1])
          have n2 : ¬ (y = z ∧ z ∈ keysL r) := fun c => q2 c.1
          rw [if_neg n1, if_neg n2, if_neg q2, if_neg n1]
      · rw [if_neg q1]
        have hr : z ∈ keysL r := (List.mem_cons.mp (show z ∈ p.1 :: keysL r from hz)).resolve_left fun e => q1 e.symm
        by_cases q2 : y = z
        · rw [if_neg (show ¬ p.1 = y from fun e => q1 (by rw [e, q2])), if_pos ⟨q2, hr⟩, if_pos q2]
        · have n2 : ¬ (y = z ∧ z ∈ keysL r) := fun c => q2 c.1
          rw [if_neg q2, if_neg n2]
  · rw [if_neg hz, getL_app, getL_cons, getL_nil]
    by_cases q : y = z
    · subst q
      rw [getL_out.mpr hz]
      show (if y = y then some k else none) = if y = y then some k else none
      rfl
    · rw [if_neg q, if_neg (show ¬ (z, k).1 = y from Ne.symm q)]
      cases getL L y <;> rfl
theorem keys_put (L : Lib) (z : Str) (k : Kd) : keysL (putL1 L z k) = if z ∈ keysL L then keysL L else keysL L ++ [z] := by
  unfold putL1
  by_cases hz : z ∈ keysL L
  · rw [if_pos hz, if_pos hz]
    unfold keysL
    rw [List.map_map]
    refine List.map_congr_left fun p _ => ?_
    show (if p.1 = z then (p.1, k) else p).1 = p.1
    split <;> rfl
  · rw [if_neg hz, if_neg hz]
    unfold keysL
    rw [List.map_append]
    rfl
theorem nd_put {L : Lib} (nd : (keysL L).Nodup) (z : Str) (k : Kd) : (keysL (putL1 L z k)).Nodup := by
  rw [keys_put]
  split
  · exact nd
  · rename_i hz
    exact List.nodup_append.mpr ⟨nd, by simp, fun a ha b hb e => hz (by rw [List.mem_singleton.mp hb] at e; rw [← e]; exact ha)⟩
theorem LibG.put {L : Lib} (h : LibG L) {z : Str} {k : Kd} (hz : isWordS z = true) (hk : Good k) : LibG (putL1 L z k) := by
  have key : ∀ p ∈ putL1 L z k, p = (z, k) ∨ p ∈ L := fun p hp => by
    have e := getL_of (nd_put h.nd z k) (show (p.1, p.2) ∈ putL1 L z k from hp)
    rw [get_put] at e
    by_cases q : p.1 = z
    · rw [if_pos q] at e
      cases e
      rw [← q]
      exact .inl rfl
    · rw [if_neg q] at e
      exact .inr (getL_some e)
  refine ⟨nd_put h.nd z k, fun p hp => ?_, fun p hp => ?_⟩
  · rcases key p hp with e | e
    · rw [e]
      exact hz
    · exact h.w p e
  · rcases key p hp with e | e
    · rw [e]
      exact hk
    · exact h.g p e
theorem len_put (L : Lib) (z : Str) (k : Kd) : (putL1 L z k).length ≤ L.length + 1 ∧ L.length ≤ (putL1 L z k).length := by
  unfold putL1
  split
  · rw [List.length_map]
    omega
  · rw [List.length_append, List.length_singleton]
    omega
/-- one library behind another -/
noncomputable def mergeL (L M : Lib) : Lib := M.foldl (fun acc p => putL1 acc p.1 p.2) L
theorem nd_merge : ∀ (M L : Lib), (keysL L).Nodup → (keysL (mergeL L M)).Nodup
  | [], _, h => h
  | p :: M, L, h => nd_merge M _ (nd_put h p.1 p.2)
theorem get_merge : ∀ (M L : Lib) (z : Str), (keysL M).Nodup → getL (mergeL L M) z = (getL M z).or (getL L z)
  | [], L, z, _ => rfl
  | p :: M, L, z, nd => by
    have nd2 : (p.1 :: keysL M).Nodup := nd
    rw [List.nodup_cons] at nd2
    show getL (mergeL (putL1 L p.1 p.2) M) z = _
    rw [get_merge M _ z nd2.2, get_put, getL_cons]
    by_cases q : p.1 = z
    · rw [if_pos q.symm, if_pos q, getL_out.mpr (by rw [← q]; exact nd2.1)]
      rfl
    · rw [if_neg (Ne.symm q), if_neg q]
theorem LibG.merge {L M : Lib} (h : LibG L) (g : LibG M) : LibG (mergeL L M) := by
  have nd := nd_merge M L h.nd
  have key : ∀ p ∈ mergeL L M, p ∈ M ∨ p ∈ L := fun p hp => by
    have e := getL_of nd (show (p.1, p.2) ∈ mergeL L M from hp)
    rw [get_merge M L p.1 g.nd] at e
    cases q : getL M p.1 with
    | none =>
      rw [q] at e
      exact .inr (getL_some e)
    | some k =>
      rw [q] at e
      cases e
      exact .inl (getL_some q)
  exact ⟨nd, fun p hp => (key p hp).elim (g.w p) (h.w p), fun p hp => (key p hp).elim (g.g p) (h.g p)⟩
end KP
/-! KP26: what the defs about libraries promise. -/
namespace KP
open PySem L2 FP
variable [FP.Tabl]
/-! ### plain kinds compared -/
mutual
noncomputable def pyK : Kd → PyData
  | .mk as a => .tuple [.tuple (pyKs as), .str a]
noncomputable def pyKs : List Kd → List PyData
  | [] => []
  | k :: r => pyK k :: pyKs r
end
mutual
theorem py_plain : ∀ k, toPy (plain k) = some (pyK k)
  | .mk as a => by
    rw [plain_mk, toPy, toPys, toPy, py_plains as, toPys, toPy, toPys, pyK]
theorem py_plains : ∀ ks : List Kd, toPys (ks.map plain) = some (pyKs ks)
  | [] => rfl
  | k :: r => by
    rw [List.map_cons, toPys, py_plain k, py_plains r, pyKs]
end
mutual
theorem eqv_K : ∀ k j : Kd, PyData.eqv (pyK k) (pyK j) = decide (k = j)
  | .mk as a, .mk bs b => by
    rw [pyK, pyK, PyData.eqv, PyData.eqvAll, PyData.eqv, eqv_Ks as bs, PyData.eqvAll, PyData.eqv, PyData.eqvAll, Bool.and_true]
    by_cases h1 : as = bs
    · by_cases h2 : a = b
      · rw [decide_eq_true h1, h1, h2]
        simp
      · rw [decide_eq_true h1, decide_eq_false (p := Kd.mk as a = .mk bs b) fun e => h2 (by cases e; rfl)]
        simp [h2]
    · rw [decide_eq_false h1, decide_eq_false (p := Kd.mk as a = .mk bs b) fun e => h1 (by cases e; rfl), Bool.false_and]
theorem eqv_Ks : ∀ ks js : List Kd, PyData.eqvAll (pyKs ks) (pyKs js) = decide (ks = js)
  | [], [] => by rw [pyKs, PyData.eqvAll]; simp
  | k :: r, [] => by rw [pyKs, pyKs, PyData.eqvAll]; simp
  | [], k :: r => by rw [pyKs, pyKs, PyData.eqvAll]; simp
  | k :: r, j :: t => by
    rw [pyKs, pyKs, PyData.eqvAll, eqv_K k j, eqv_Ks r t]
    by_cases h1 : k = j
    · by_cases h2 : r = t
      · rw [decide_eq_true h1, decide_eq_true h2, decide_eq_true (by rw [h1, h2])]
        rfl
      · rw [decide_eq_true h1, decide_eq_false h2, decide_eq_false fun e => h2 (List.cons.inj e).2]
        rfl
    · rw [decide_eq_false h1, decide_eq_false fun e => h1 (List.cons.inj e).1]
      rfl
end
mutual
theorem sh_plain : ∀ (n : Nat) (k : Kd), (∀ z ∈ places k, isWordS z = true) → 2 * ord k + 2 ≤ n → shD n (plain k) = true
  | n, .mk as a, hw, hn => by
    rw [plain_mk]
    obtain ⟨m, rfl⟩ : ∃ m, n = m + 2 := ⟨n - 2, by omega⟩
    refine sh_tup (sh_cons (sh_tup ?_) (sh_cons (sh_str ((strOk_iff _).mpr (word_ok (hw a (by rw [places]; simp))).2)) sh_nil))
    refine sh_plains m as (fun z hz => hw z (by rw [places]; exact List.mem_append_left _ hz)) ?_
    rw [ord] at hn
    omega
theorem sh_plains : ∀ (n : Nat) (ks : List Kd), (∀ z ∈ placesL ks, isWordS z = true) → 2 * ordL ks ≤ n → shDs n (ks.map plain) = true
  | n, [], _, _ => by rw [List.map_nil, shDs]
  | n, k :: r, hw, hn => by
    rw [ordL] at hn
    rw [List.map_cons]
    refine sh_cons (sh_plain n k (fun z hz => hw z (by rw [placesL]; exact List.mem_append_left _ hz)) (by omega)) (sh_plains n r (fun z hz => hw z (by rw [placesL]; exact List.mem_append_right _ hz)) (by omega))
end
theorem shaped_K {k : Kd} (g : Good k) : SeqAt.shaped (pyK k) = true := by
  obtain ⟨p, h1, h2, h3⟩ := shD_py 64 (plain k) (sh_plain 64 k g.w (by have := g.o; omega))
  rw [py_plain] at h1
  cases h1
  exact sh_shaped h2 h3
theorem eqS_plain (k j : Kd) : eqS (plain k) (plain j) = none := by
  cases k with
  | mk as a =>
    cases j with
    | mk bs b =>
      rw [plain_mk, plain_mk]
      rfl
theorem eqP {k j : Kd} (hk : Good k) (hj : Good j) {Q : D → Prop} (q : Q (.bl (decide (k = j)))) : rdEq (plain k) (plain j) Q := by
  unfold rdEq
  rw [eqS_plain]
  refine ⟨_, _, py_plain k, py_plain j, shaped_K hk, shaped_K hj, ?_⟩
  rw [eqv_K]
  exact q
/-! ### the package's defs -/
noncomputable abbrev libX : XD := ⟨"InvalidLibrary", []⟩
noncomputable def f_isparts : List D → M D := fun ds Q _ => match ds with
  | [.dct kvs] => ∃ L : Lib, kvs = rowsL typeD L ∧ LibG L ∧ L.length ≤ 60 ∧ Q (.bl (decide (L.length ≤ 8)))
  | _ => False
noncomputable def f_asc : List D → M D := fun ds Q _ => match ds with
  | [.dct kvs] => ∃ L : Lib, kvs = rowsL typeD L ∧ (keysL L).Nodup ∧ L.length ≤ 60 ∧ Q (libT (sortL L))
  | _ => False
noncomputable def f_initL : List D → ((List (Str × D)) → Prop) → (XD → Prop) → Prop := fun ds Q Ex => match ds with
  | [.non] => Q (libF [])
  | [.dct kvs] => ∃ L : Lib, kvs = rowsL typeD L ∧ LibG L ∧ L.length ≤ 60 ∧ (L.length ≤ 8 → Q (libF L)) ∧ (8 < L.length → Ex libX)
  | _ => False
noncomputable def noL (d : D) : Prop := isiD ["Library"] (fun _ => true) d = some false
noncomputable def f_eqL : List D → M D := fun ds Q _ => match ds with
  | [x, y] => ∃ L, x = libD L ∧ L.length ≤ 60 ∧ LibG L ∧ ((∃ M, y = libD M ∧ M.length ≤ 60 ∧ LibG M ∧ Q (.bl (decide (linesL L = linesL M)))) ∨ (noL y ∧ Q (.bl false)))
  | _ => False
/-! ### readings of libraries -/
section
variable {L : Lib} {Q : D → Prop}
theorem lk_parts (L : Lib) : (libF L).lookup ("own_parts" : Str) = some (libT (sortL L)) := rfl
theorem lk_names (L : Lib) : (libF L).lookup ("own_names" : Str) = some (.tup ((keysL (sortL L)).map .str)) := rfl
theorem lk_lines (L : Lib) : (libF L).lookup ("own_lines" : Str) = some (.tup ((linesL L).map .str)) := rfl
theorem isLib {P : D → Prop} (q : P (.bl true)) : (match isiD ["Library"] (fun _ => true) (libD L) with
  | some b => P (.bl b)
  | none => False) := q
end
end KP
/-! KP27: readings of libraries. -/
namespace KP
open PySem L2 FP
variable [FP.Tabl]
theorem fold_pick {L : Lib} {zs : List Str} (nd : (keysL (pickL L zs)).Nodup) : (zs.foldl (fun a z => putKD a (.inr z) (typeD (kindAt L z))) []) = rowsL typeD (pickL L zs) := by
  have h1 : ∀ (acc : List (Key × D)), zs.foldl (fun a z => putKD a (.inr z) (typeD (kindAt L z))) acc = mergeD acc (rowsL typeD (pickL L zs)) := by
    intro acc
    unfold mergeD rowsL dctF pickL
    rw [List.map_map, List.foldl_map]
    rfl
  rw [h1]
  exact merge_F nd
theorem stFmt {k : Kd} {Q : D → Prop} (hg : Good k) (q : Q (.str (text k))) : (match typeD k with
  | .ins c' fs => c' = "Type" ∧ f_tell d_text [.ins c' fs] (fun d => match d with
    | .str y => Q (.str y)
    | _ => False) F0
  | _ => False) := by
  have e := typeD_eq k
  rw [e]
  exact ⟨rfl, k, e.symm, hg, q⟩
theorem fmtJ {fe : DTE} {ρ : FP.Env} {acc : Str} {g : DJT} {Q : Str → Prop} {E : XD → Prop} {k : Kd} (he : Ev fe ρ (typeD k)) (hg : Good k) (hl : (acc ++ text k).length ≤ sizeLine) (h : g ρ (acc ++ text k) Q E) : dJCons (dFmtM "Type" (f_tell d_text) fe) g ρ acc Q E := by
  refine he _ _ ?_
  exact stFmt (Q := fun x => match x with
    | .str y => (acc ++ y).length ≤ sizeLine ∧ g ρ (acc ++ y) Q E
    | _ => False) hg ⟨hl, h⟩
end KP
/-! KP28: what expressions about libraries come to. -/
namespace KP
open PySem L2 FP
variable [FP.Tabl]
section
variable {ρ : FP.Env} {f fa fb fk fv : DTE} {k j : Kd} {L M : Lib} {z : Str} {h : Kd → D}
theorem evIn (ha : Ev fa ρ (.str z)) (hb : Ev fb ρ (.dct (rowsL h L))) : Ev (dOp (rdDIn false) fa fb) ρ (.bl (decide (z ∈ keysL L))) := ev_op ha hb fun Q q => ⟨.inr z, rfl, by rw [in_rows]; exact q⟩
theorem evGet (ha : Ev fa ρ (.dct (rowsL h L))) (hb : Ev fb ρ (.str z)) (e : getL L z = some k) : Ev (dOp rdDGet fa fb) ρ (h k) := ev_op ha hb fun Q q => ⟨.inr z, h k, rfl, by rw [val_rows, e]; rfl, q⟩
/-- the rows of a library, as `in items()` gives them -/
noncomputable abbrev rowI (h : Kd → D) (p : Str × Kd) : D := .tup [.str p.1, h p.2]
theorem evItems (ha : Ev f ρ (.dct (rowsL h L))) : EvI (dIItems f) ρ (L.map (rowI h)) := fun Q E q => ha _ _ (by
  show Q ((rowsL h L).map fun kv => D.tup [kD kv.1, kv.2])
  rw [items_rows]
  exact q)
theorem evKeys (ha : Ev f ρ (.dct (rowsL h L))) : EvI (dIKeys f) ρ (L.map fun p => .str p.1) := fun Q E q => ha _ _ (by
  show Q ((rowsL h L).map fun kv => kD kv.1)
  rw [keys_rows]
  unfold keysL
  rw [List.map_map]
  exact q)
theorem evParts (ha : Ev f ρ (libD L)) : Ev (dFld "Library" "own_parts" f) ρ (libT (sortL L)) := ev_fld (fs := libF L) ha (lk_parts L)
theorem initL_ok {L : Lib} (hg : LibG L) (hl : L.length ≤ 8) {Q : List (Str × D) → Prop} {E : XD → Prop} (q : Q (libF L)) : f_initL [libT L] Q E := ⟨L, rfl, hg, by omega, fun _ => q, fun h => absurd h (by omega)⟩
end
/-! ### tuples of texts compared -/
theorem sh_strs {n : Nat} : ∀ {zs : List Str}, (∀ z ∈ zs, PyData.strOk z = true) → shDs n (zs.map D.str) = true
  | [], _ => sh_nil
  | z :: r, h => sh_cons (sh_str (h z List.mem_cons_self)) (sh_strs fun y hy => h y (List.mem_cons_of_mem _ hy))
theorem py_strs : ∀ zs : List Str, toPys (zs.map D.str) = some (zs.map PyData.str)
  | [] => rfl
  | z :: r => by
    rw [List.map_cons, toPys, toPy, py_strs r]
    rfl
theorem eqv_strs : ∀ zs ys : List Str, PyData.eqvAll (zs.map PyData.str) (ys.map PyData.str) = decide (zs = ys)
  | [], [] => by rw [List.map_nil, PyData.eqvAll]; simp
  | z :: r, [] => by rw [List.map_nil, List.map_cons, PyData.eqvAll]; simp
  | [], z :: r => by rw [List.map_nil, List.map_cons, PyData.eqvAll]; simp
  | z :: r, y :: t => by
    rw [List.map_cons, List.map_cons, PyData.eqvAll, PyData.eqv, eqv_strs r t]
    by_cases h1 : z = y
    · by_cases h2 : r = t
      · rw [decide_eq_true h2, decide_eq_true (p := z :: r = y :: t) (by rw [h1, h2])]
        simp [h1]
      · rw [decide_eq_false h2, decide_eq_false (p := z :: r = y :: t) fun e => h2 (List.cons.inj e).2, Bool.and_false]
    · rw [decide_eq_false (p := z :: r = y :: t) fun e => h1 (List.cons.inj e).1]
      simp [h1]
theorem eqStrs {zs ys : List Str} (h1 : ∀ z ∈ zs, PyData.strOk z = true) (h2 : ∀ z ∈ ys, PyData.strOk z = true) {Q : D → Prop} (q : Q (.bl (decide (zs = ys)))) : rdEq (.tup (zs.map .str)) (.tup (ys.map .str)) Q := by
  obtain ⟨p, p1, p2, p3⟩ := shD_py 64 (.tup (zs.map .str)) (sh_tup (sh_strs h1))
  obtain ⟨r, r1, r2, r3⟩ := shD_py 64 (.tup (ys.map .str)) (sh_tup (sh_strs h2))
  show ∃ p q, toPy _ = some p ∧ toPy _ = some q ∧ SeqAt.shaped p = true ∧ SeqAt.shaped q = true ∧ Q (.bl (PyData.eqv p q))
  refine ⟨p, r, p1, r1, sh_shaped p2 p3, sh_shaped r2 r3, ?_⟩
  rw [toPy, py_strs] at p1 r1
  cases p1
  cases r1
  rw [PyData.eqv, eqv_strs]
  exact q
theorem line_chars {p : Str × Kd} (hw : isWordS p.1 = true) (hg : Good p.2) : PyData.strOk (lineS p) = true := strOk_app (strOk_app ((strOk_iff _).mpr (word_ok hw).2) (by decide +kernel)) hg.text_ok
theorem lines_chars {L : Lib} (h : LibG L) : ∀ z ∈ linesL L, PyData.strOk z = true := fun z hz => by
  obtain ⟨p, hp, rfl⟩ := List.mem_map.mp hz
  exact line_chars (h.sort.w p hp) (h.sort.g p hp)
theorem linesEq {L M : Lib} (hl : LibG L) (hm : LibG M) {Q : D → Prop} (q : Q (.bl (decide (linesL L = linesL M)))) : rdEq (.tup ((linesL L).map .str)) (.tup ((linesL M).map .str)) Q := eqStrs (lines_chars hl) (lines_chars hm) q
/-! ### libraries as operands -/
section
variable {L M : Lib} {Q : D → Prop}
theorem eqLL (h1 : LibG L) (h2 : LibG M) (n1 : L.length ≤ 60) (n2 : M.length ≤ 60) (q : Q (.bl (decide (linesL L = linesL M)))) : rdEqM ["Library"] "Library" f_eqL (libD L) (libD M) Q := ⟨rfl, List.mem_singleton.mpr rfl, L, rfl, n1, h1, .inl ⟨M, rfl, n2, h2, q⟩⟩
theorem neLL (h1 : LibG L) (h2 : LibG M) (n1 : L.length ≤ 60) (n2 : M.length ≤ 60) (q : Q (.bl (!decide (linesL L = linesL M)))) : rdNeM ["Library"] "Library" f_eqL (libD L) (libD M) Q := ⟨rfl, List.mem_singleton.mpr rfl, L, rfl, n1, h1, .inl ⟨M, rfl, n2, h2, q⟩⟩
end
end KP
/-! KP29: libraries put together: what laws ask of the plain ones. -/
namespace KP
open PySem L2 FP
variable [FP.Tabl]
/-! ### plain facts -/
section
variable {L M N : Lib}
theorem same_lines (h : sameL L M) (nl : (keysL L).Nodup) (nm : (keysL M).Nodup) : linesL L = linesL M := by
  unfold linesL
  rw [sort_same h nl nm]
end
section
variable {ρ : FP.Env} {f fa fb fk fv : DTE} {k j : Kd} {L M : Lib} {z : Str} {h : Kd → D} {ts : List String}
theorem evNeLL (h1 : LibG L) (h2 : LibG M) (n1 : L.length ≤ 60) (n2 : M.length ≤ 60) (s : sameL L M) (ha : Ev fa ρ (libD L)) (hb : Ev fb ρ (libD M)) : Ev (dOp (rdNeM ["Library"] "Library" f_eqL) fa fb) ρ (.bl false) := ev_op ha hb fun Q q => neLL h1 h2 n1 n2 (by
  rw [decide_eq_true (same_lines s h1.nd h2.nd)]
  exact q)
end
/-! ### the law's own helpers -/
noncomputable def f_madeL : List D → M D := fun ds Q _ => match ds with
  | [.dct kvs] => ∃ L : Lib, kvs = rowsL plain L ∧ LibG L ∧ L.length ≤ 8 ∧ Q (libD L)
  | _ => False
noncomputable def f_libr : List D → M D := fun ds Q _ => match ds with
  | [.tok] => ∀ L, LibG L → 1 ≤ L.length → L.length ≤ 5 → Q (libP L)
  | _ => False
noncomputable def f_tokT : List D → M D := fun ds Q _ => match ds with
  | [.tok] => Q (.bl true)
  | _ => False
section
variable {ρ : FP.Env} {f fa fb fk fv : DTE} {k j : Kd} {L M : Lib} {z : Str} {h : Kd → D} {ts : List String}
theorem evMade (h1 : LibG L) (n1 : L.length ≤ 8) (ha : Ev fa ρ (libP L)) : Ev (dCall f_madeL 1 (dCons fa dNil)) ρ (libD L) := ev_call (a1 ha a0) rfl fun Q E q => ⟨L, rfl, h1, n1, q⟩
/-- `[(i, g) for i in f]` made a dict -/
theorem evPairs {i : Nat} {vs : List Nat} {h2 : Kd → D} (nd : (keysL L).Nodup) (hl : L.length ≤ 60) (b : Str × Kd → Bool) {ft : DTT} (ha : Ev f ρ (.dct (rowsL h L))) (hb : ∀ p ∈ L, EvT ft ((wipeD ρ vs).set i (.d (.str p.1))) (b p) ∧ (b p = true → Ev fv ((wipeD ρ vs).set i (.d (.str p.1))) (.tup [.str p.1, h2 p.2]))) : Ev (dCB rdDictP (dCons (dLc (dIKeys f) (.one i) ft fv vs) dNil)) ρ (.dct (rowsL h2 (L.filter b))) := by
  have e := ev_lcF (vs := vs) (T := .one i) (ft := ft) (f := fv) (fun p : Str × Kd => D.str p.1) (fun p => .tup [.str p.1, h2 p.2]) b (evKeys ha) (size_small (by omega)) fun p hp => ⟨_, rfl, (hb p hp).1, (hb p hp).2⟩
  have e2 := ev_dictP e (pairs_F (fun p : Str × Kd => p.1) (fun p => h2 p.2) (L.filter b))
  rw [merge_F (show ((L.filter b).map fun p => p.1).Nodup from nd.sublist (List.filter_sublist.map _))] at e2
  exact e2
end
end KP
/-! KP30: the known libraries of the laws; drawn libraries. -/
namespace KP
open PySem L2 FP
variable [FP.Tabl]
noncomputable def goodB (k : Kd) : Bool := (places k).all isWordS && decide ((places k).length ≤ 15) && decide (ord k ≤ 4)
theorem goodB_g {k : Kd} (h : goodB k = true) : Good k := by
  unfold goodB at h
  simp only [Bool.and_eq_true, decide_eq_true_eq, List.all_eq_true] at h
  exact ⟨h.1.1, h.1.2, h.2⟩
noncomputable def libOk (L : Lib) : Bool := decide (keysL L).Nodup && L.all fun p => isWordS p.1 && goodB p.2
theorem libOk_g {L : Lib} (h : libOk L = true) : LibG L := by
  unfold libOk at h
  simp only [Bool.and_eq_true, decide_eq_true_eq, List.all_eq_true] at h
  exact ⟨h.1, fun p hp => (h.2 p hp).1, fun p hp => goodB_g (h.2 p hp).2⟩
noncomputable def qa : Kd := .mk [] "a"
noncomputable def qb : Kd := .mk [] "b"
noncomputable def qc : Kd := .mk [] "c"
noncomputable def qn : Kd := .mk [] "n"
noncomputable def q1 : Lib := [("z", qn), ("s", .mk [qn] "n")]
noncomputable def q2 : Lib := [("f", .mk [qa] "b"), ("g", .mk [qb] "c")]
noncomputable def q3 : Lib := [("k", .mk [.mk [qa] "b"] "c"), ("x", qb)]
noncomputable def q4 : Lib := [("k", .mk [.mk [qa] "b"] "a"), ("g", .mk [qa] "b"), ("y", qa)]
noncomputable def q5 : Lib := [("p", .mk [qa, qb] "c"), ("y", qa), ("w", qb), ("h", .mk [qc] "a")]
theorem qb_good : Good qb := goodB_g (by decide +kernel)
/-- without a part -/
noncomputable def dropL (L : Lib) (z : Str) : Lib := L.filter fun p => decide (p.1 ≠ z)
theorem drop_rows (h : Kd → D) (L : Lib) (z : Str) : dropKD (rowsL h L) (.inr z) = rowsL h (dropL L z) := by
  unfold dropKD rowsL dctF dropL
  rw [List.filter_map]
  congr 1
  refine List.filter_congr fun p _ => ?_
  by_cases q : p.1 = z <;> simp [q]
theorem dropL_len (L : Lib) (z : Str) : (dropL L z).length ≤ L.length := List.length_filter_le _ _
theorem dropL_g {L : Lib} (h : LibG L) (z : Str) : LibG (dropL L z) := h.sub List.filter_sublist
theorem q_good {L : Lib} (h : L ∈ [q1, q2, q3, q4, q5]) : LibG L ∧ 1 ≤ (dropL L "x").length ∧ L.length ≤ 4 := by
  simp only [List.mem_cons, List.not_mem_nil, or_false] at h
  rcases h with rfl | rfl | rfl | rfl | rfl
  · exact ⟨libOk_g (by decide +kernel), by decide +kernel, by decide +kernel⟩
  · exact ⟨libOk_g (by decide +kernel), by decide +kernel, by decide +kernel⟩
  · exact ⟨libOk_g (by decide +kernel), by decide +kernel, by decide +kernel⟩
  · exact ⟨libOk_g (by decide +kernel), by decide +kernel, by decide +kernel⟩
  · exact ⟨libOk_g (by decide +kernel), by decide +kernel, by decide +kernel⟩
theorem pairs_items (L : Lib) : pairsD ((rowsL plain L).map fun kv => D.tup [kD kv.1, kv.2]) = some (rowsL plain L) := by
  rw [items_rows]
  exact pairs_F (fun p : Str × Kd => p.1) (fun p => plain p.2) L
theorem merge_self {h : Kd → D} {L : Lib} (nd : (keysL L).Nodup) : mergeD [] (rowsL h L) = rowsL h L := merge_F nd
theorem bitS {b : Bool} {P R : Prop} (h1 : b = true → P) (h2 : b = false → R) : bit b P R := by
  cases b with
  | true => exact h1 rfl
  | false => exact h2 rfl
theorem perm_strs {ws : List Str} {ys zs : List D} (h : (ys ++ zs).Perm (ws.map D.str)) : ∃ us vs : List Str, ys = us.map .str ∧ zs = vs.map .str ∧ (us ++ vs).Perm ws := by
  have all : ∀ d ∈ ys ++ zs, ∃ w : Str, d = .str w := fun d hd => by
    obtain ⟨w, _, e⟩ := List.mem_map.mp (h.mem_iff.mp hd)
    exact ⟨w, e.symm⟩
  have un : ∀ xs : List D, (∀ d ∈ xs, ∃ w : Str, d = .str w) → ∃ us : List Str, xs = us.map .str := by
    intro xs
    induction xs with
    | nil => exact fun _ => ⟨[], rfl⟩
    | cons x r ih =>
      intro hx
      obtain ⟨w, rfl⟩ := hx x List.mem_cons_self
      obtain ⟨us, rfl⟩ := ih fun d hd => hx d (List.mem_cons_of_mem _ hd)
      exact ⟨w :: us, rfl⟩
  obtain ⟨us, rfl⟩ := un ys fun d hd => all d (List.mem_append_left _ hd)
  obtain ⟨vs, rfl⟩ := un zs fun d hd => all d (List.mem_append_right _ hd)
  refine ⟨us, vs, rfl, rfl, ?_⟩
  rw [← List.map_append] at h
  have e := h.map fun d => match d with
    | .str w => w
    | _ => Str.empty
  rw [List.map_map, List.map_map] at e
  have i : ((fun d : D => match d with
    | .str w => w
    | _ => Str.empty) ∘ D.str) = id := rfl
  rw [i, List.map_id, List.map_id] at e
  exact e
theorem evPl {ρ : FP.Env} {ga : DTA} {as : List Kd} {a : Str} (h : EvA ga ρ (as.map plain)) (hl : as.length ≤ 15) : Ev (dTup (dCons (dTup ga) (dCons (dC (.str a)) dNil))) ρ (plain (.mk as a)) := fun Q E q => h _ _ ⟨by rw [List.length_map]; exact size_small (by omega), line rfl, by rw [plain_mk] at q; exact q⟩
theorem evDispL {ρ : FP.Env} {ga : DTP} {L : Lib} (h : EvKV ga ρ (rowsL plain L)) (nd : (keysL L).Nodup) (hl : L.length ≤ 15) : Ev (dDisp ga) ρ (libP L) := (ev_disp h (by rw [len_rows]; exact hl)).eq (by rw [merge_self nd]; rfl)
end KP
/-! KP31: libraries put together: the plain laws; other names of parts. -/
namespace KP
open PySem L2 FP
variable [FP.Tabl]
section
variable {L M : Lib}
noncomputable def fin (L M : Lib) : Lib := L.filter fun p => decide (getL M p.1 = some p.2)
end
/-! ### other names -/
end KP
/-! KP32: libraries changed: what the defs promise; plain laws. -/
namespace KP
open PySem L2 FP
variable [FP.Tabl]
/-! ### any values asked for among the parts -/
theorem isiC_mono {n : String} {cs : List Str} {x : D} {P Q : D → Prop} (h : isiC n cs x P) (i : ∀ d, P d → Q d) : isiC n cs x Q := by
  cases x with
  | ins c fs => exact ⟨h.1, i _ h.2⟩
  | fz _ => exact h.elim
  | cl _ => exact h.elim
  | fn _ _ => exact h.elim
  | dn _ => exact h.elim
  | _ =>
    obtain ⟨b, h1, h2⟩ := h
    exact ⟨b, h1, i _ h2⟩
/-- a value whose being a text can be asked -/
noncomputable def chkD (v : D) : Prop := isiC "str" ["Type", "Library"] v (fun d => d = .bl (isStr v))
theorem chk_str (z : Str) : chkD (.str z) := ⟨true, kit_ss, rfl⟩
noncomputable def inLib (L : Lib) : D → Bool
  | .str z => decide (z ∈ keysL L)
  | _ => false
noncomputable def strsOf : List D → List Str
  | [] => []
  | .str z :: r => z :: strsOf r
  | _ :: r => strsOf r
noncomputable def f_contL : List D → M D := fun ds Q _ => match ds with
  | [x, v] => ∃ L, x = libD L ∧ chkD v ∧ Q (.bl (inLib L v))
  | _ => False
noncomputable def f_withP : List D → M D := fun ds Q Ex => match ds with
  | [x, v, y] => ∃ L, x = libD L ∧ LibG L ∧ L.length ≤ 8 ∧ okV v ∧ (isWordD v = false → Ex wordX) ∧ (∀ z, v = .str z → isWordS z = true → (noT y ∧ Ex tooX) ∨ ∃ k, y = typeD k ∧ Good k ∧ ((putL1 (sortL L) z k).length ≤ 8 → Q (libD (putL1 (sortL L) z k))) ∧ (8 < (putL1 (sortL L) z k).length → Ex libX))
  | _ => False
/-! ### loops with a first bad one -/
section
variable {ρ : FP.Env} {f fa fb fk fv : DTE} {L M : Lib} {z : Str} {h : Kd → D}
theorem evIsStr {v : D} {cs : List Str} (hc : isiC "str" cs v (fun d => d = .bl (isStr v))) (ha : Ev fa ρ v) : Ev (dIsiC "str" cs fa) ρ (.bl (isStr v)) := fun Q E q => ha _ _ (isiC_mono hc fun d e => by rw [e]; exact q)
theorem pick_g {zs : List Str} (h : LibG L) (nd : zs.Nodup) (hz : ∀ z ∈ zs, z ∈ keysL L) : LibG (pickL L zs) := by
  refine ⟨by rw [keys_pick]; exact nd, fun p hp => ?_, fun p hp => ?_⟩
  · obtain ⟨z, hz2, rfl⟩ := List.mem_map.mp hp
    obtain ⟨k, _, h3⟩ := getL_in (hz z hz2)
    show isWordS z = true
    exact h.w _ h3
  · obtain ⟨z, hz2, rfl⟩ := List.mem_map.mp hp
    obtain ⟨k, h2, h3⟩ := getL_in (hz z hz2)
    show Good (kindAt L z)
    rw [kindAt_of h2]
    exact h.g _ h3
end
end KP
/-! KP33: other names of parts and atoms: what the defs promise. -/
namespace KP
open PySem L2 FP
variable [FP.Tabl]
/-- the atoms of a library -/
noncomputable def atomsL (L : Lib) : List Str := sortU (((sortL L).map fun p => atomsK p.2).flatten)
noncomputable def f_atomsL : List D → M D := fun ds Q _ => match ds with
  | [x] => ∃ L, x = libD L ∧ LibG L ∧ L.length ≤ 8 ∧ Q (.tup ((atomsL L).map .str))
  | _ => False
section
variable {L M : Lib}
theorem atomsK_len {k : Kd} (g : Good k) : (atomsK k).length ≤ 15 := by
  unfold atomsK
  rw [atoms_places]
  exact Nat.le_trans (sortU_len _) g.p
end
theorem flat_len {α : Type} (f : α → List Str) (n : Nat) : ∀ xs : List α, (∀ x ∈ xs, (f x).length ≤ n) → ((xs.map f).flatten).length ≤ xs.length * n
  | [], _ => by simp
  | x :: r, h => by
    have h1 := h x List.mem_cons_self
    have h2 := flat_len f n r fun y hy => h y (List.mem_cons_of_mem _ hy)
    rw [List.map_cons, List.flatten_cons, List.length_append, List.length_cons, Nat.succ_mul]
    omega
end KP
/-! KP34: lines of libraries read. -/
namespace KP
open PySem L2 FP
variable [FP.Tabl]
noncomputable def f_linesL : List D → M D := fun ds Q _ => match ds with
  | [x] => ∃ L, x = libD L ∧ Q (.tup ((linesL L).map .str))
  | _ => False
noncomputable def f_namesL : List D → M D := fun ds Q _ => match ds with
  | [x] => ∃ L, x = libD L ∧ Q (.tup ((keysL (sortL L)).map .str))
  | _ => False
noncomputable def f_itemL : List D → M D := fun ds Q _ => match ds with
  | [x, .str z] => ∃ L k, x = libD L ∧ getL L z = some k ∧ Q (typeD k)
  | _ => False
end KP
/-! KP35: libraries changed step by step: plain laws and what the law's defs promise. -/
namespace KP
open PySem L2 FP
variable [FP.Tabl]
section
variable {L M N : Lib}
theorem mem_sort (nd : (keysL L).Nodup) (p : Str × Kd) : p ∈ sortL L ↔ p ∈ L := by
  constructor
  · intro h
    have e := getL_of (nd_sort nd) (show (p.1, p.2) ∈ sortL L from h)
    rw [get_sort] at e
    exact getL_some e
  · intro h
    have e := getL_of nd (show (p.1, p.2) ∈ L from h)
    rw [← get_sort] at e
    exact getL_some e
end
/-! ### dicts of names -/
/-! ### what the law's defs promise -/
noncomputable def f_linesP : List D → M D := fun ds Q _ => match ds with
  | [.dct kvs] => ∃ L : Lib, kvs = rowsL plain L ∧ LibG L ∧ L.length ≤ 8 ∧ Q (.lst ((linesL L).map .str))
  | _ => False
noncomputable def f_atomsP : List D → M D := fun ds Q _ => match ds with
  | [.dct kvs] => ∃ L : Lib, kvs = rowsL plain L ∧ LibG L ∧ L.length ≤ 8 ∧ Q (.lst ((atomsL L).map .str))
  | _ => False
/-! ### dicts made by the law -/
/-! ### the law itself -/
theorem neStrs_same {zs : List Str} (h : ∀ z ∈ zs, PyData.strOk z = true) {Q : D → Prop} (q : Q (.bl false)) : rdNe (.tup (zs.map .str)) (.tup (zs.map .str)) Q := by
  obtain ⟨p, p1, p2, p3⟩ := shD_py 64 (.tup (zs.map .str)) (sh_tup (sh_strs h))
  show ∃ p q, toPy _ = some p ∧ toPy _ = some q ∧ SeqAt.shaped p = true ∧ SeqAt.shaped q = true ∧ Q (.bl (!PyData.eqv p q))
  refine ⟨p, p, p1, p1, sh_shaped p2 p3, sh_shaped p2 p3, ?_⟩
  rw [toPy, py_strs] at p1
  cases p1
  rw [PyData.eqv, eqv_strs, decide_eq_true rfl]
  exact q
theorem ev_prop {f : DTE} {ρ : FP.Env} {d : D} {cl : Str} {F : List D → M D} {fs : List (Str × D)} (ho : Ev f ρ (.ins cl fs)) (h : ∀ Q : D → Prop, Q d → F [.ins cl fs] Q F0) : Ev (dProp cl F f) ρ d := fun Q E q => ho _ _ ⟨rfl, h _ q⟩
end KP
/-! KP36: the lines of a library taken apart. -/
namespace KP
open PySem L2 FP
end KP
/-! KP37: spoilt lines tell no part. -/
namespace KP
open PySem L2 FP
end KP
/-! KP38: a line's separator exchanged; the law's spoilt lines. -/
namespace KP
open PySem L2 FP
end KP
/-! KP39: law k11: what its defs promise; spoilt lines; small steps. -/
namespace KP
open PySem L2 FP
variable [FP.Tabl]
/-! ### small steps -/
section
variable {ρ : FP.Env} {f fa fb : DTE} {g : DTS} {N : Nd} {i j : Nat}
theorem seq_par {ga : DTA} (x y : D) (h : EvA ga ρ [x, y]) (hg : g N ((ρ.set i (.d x)).set j (.d y))) : dSeq (dPar i j ga) g N ρ := h _ _ hg
end
/-! ### reading lines -/
/-! ### what the law's defs promise -/
noncomputable def f_lenL : List D → M D := fun ds Q _ => match ds with
  | [x] => ∃ L, x = libD L ∧ LibG L ∧ L.length ≤ 60 ∧ Q (.int L.length)
  | _ => False
/-! ### spoilt lines -/
/-! ### lines in any order -/
theorem LibG.take {L : Lib} (h : LibG L) (n : Nat) : LibG (L.take n) := h.sub (List.take_sublist n L)
theorem LibG.drop {L : Lib} (h : LibG L) (n : Nat) : LibG (L.drop n) := h.sub (List.drop_sublist n L)
/-! ### nine lines -/
end KP
/-! KP85: whole libraries told (k10): specs and readings. -/
namespace KP
open PySem L2 FP
variable [FP.Tabl]
noncomputable def f_ascB : List (Key × D) → M D := fun kvs Q _ => ∃ L : Lib, kvs = rowsL typeD L ∧ (keysL L).Nodup ∧ L.length ≤ 60 ∧ Q (libT (sortL L))
noncomputable def f_initLB : FI := fun kvs Q _ => ∃ L : Lib, kvs = rowsL typeD L ∧ LibG L ∧ L.length ≤ 8 ∧ Q (libF L)
noncomputable def f_partsNL : List D → M (List (Key × D)) := fun ds Q _ => match ds with
  | [x] => ∃ L, x = libD L ∧ Q (rowsL typeD (sortL L))
  | _ => False
noncomputable def f_parts10 : List D → M D := fun ds Q _ => match ds with
  | [x] => ∃ L, x = libD L ∧ Q (libT (sortL L))
  | _ => False
theorem bor2 {a : Addr} {vs : List (Key × V)} {kvs : List (Key × D)} {ρ : FP.Env} (i : Nat) (h : ρ[i]? = some (borS a vs kvs)) : Bor a vs kvs ρ := ⟨i, h⟩
theorem seq_moveB {i j : Nat} {N : Nd} {gs : DTS} {ρ : FP.Env} {as : List Addr} {vs : List (Key × V)} {kvs : List (Key × D)} (h : ρ[i]? = some (.o2 as (.pd vs kvs))) (hg : gs N ((ρ.set i .no).set j (.o2 as (.pd vs kvs)))) : dSeq (dMoveB i j) gs N ρ := by
  unfold dSeq dMoveB
  rw [h]
  exact hg
theorem ev_lent {i : Nat} {ρ : FP.Env} {F : List (Key × D) → (D → Prop) → (XD → Prop) → Prop} {as : List Addr} {vs : List (Key × V)} {kvs : List (Key × D)} {d : D} (h : ρ[i]? = some (.o2 as (.pd vs kvs))) (hf : ∀ (Q : D → Prop) (E : XD → Prop), Q d → F kvs Q E) : Ev (dLent i F) ρ d := fun Q E q => by
  unfold dLent
  rw [h]
  exact hf _ _ q
theorem ev_lentOD {i : Nat} {ρ : FP.Env} {F : List (Key × D) → (D → Prop) → (XD → Prop) → Prop} {kvs : List (Key × D)} {d : D} (h : ρ[i]? = some (.od kvs)) (hf : ∀ (Q : D → Prop) (E : XD → Prop), Q d → F kvs Q E) : Ev (dLent i F) ρ d := fun Q E q => by
  unfold dLent
  rw [h]
  exact hf _ _ q
theorem t_viewB {i : Nat} {ρ : FP.Env} {c : DTT} {b : Bool} {as : List Addr} {vs : List (Key × V)} {kvs : List (Key × D)} (h : ρ[i]? = some (.o2 as (.pd vs kvs))) (hf : EvT c (ρ.set i (.d (.dct kvs))) b) : EvT (dViewTB i c) ρ b := fun Q E q => by
  unfold dViewTB
  rw [h]
  exact hf _ _ q
end KP
/-! KP86: whole libraries told (k10): small steps. -/
namespace KP
open PySem L2 FP
variable [FP.Tabl]
noncomputable def maxN (ns : List Nat) : Nat := ns.foldr max 0
theorem maxN_ge : ∀ {ns : List Nat} {n : Nat}, n ∈ ns → n ≤ maxN ns
  | a :: r, n, h => by
    show n ≤ max a (maxN r)
    rcases List.mem_cons.mp h with rfl | q
    · omega
    · have := maxN_ge q
      omega
theorem maxN_le : ∀ {ns : List Nat} {m : Nat}, (∀ n ∈ ns, n ≤ m) → maxN ns ≤ m
  | [], m, _ => Nat.zero_le m
  | a :: r, m, h => by
    have h1 := h a List.mem_cons_self
    have h2 := maxN_le (ns := r) fun n hn => h n (List.mem_cons_of_mem _ hn)
    show max a (maxN r) ≤ m
    omega
noncomputable def tS10 (n : Nat) : Str := Str.ofString (toString (n : Int))
theorem tS10_len {n : Nat} (h : n < 100000) : (tS10 n).length ≤ 7 := by
  have h2 := PyProof.Rows.toString_length_le (v := (n : Int)) (by omega) (k := 6) (by decide) (by
    have : (10 : Int) ^ 6 = 1000000 := by decide
    omega)
  unfold tS10
  omega
noncomputable def tellL (n k : Nat) : Str := ((tS10 n ++ " parts, ") ++ tS10 k) ++ " atoms"
theorem log10 {n : Nat} (h : n ≤ 100000) : ((n : Int)).natAbs.log2 < 1920 := by
  rw [Int.natAbs_natCast]
  by_cases h0 : n = 0
  · subst h0
    decide
  · have := (Nat.log2_lt h0 (k := 17)).mpr (by omega)
    omega
noncomputable def headsL (L : Lib) (z : Str) : List Str := ((sortL L).filter fun p => decide (p.2.a = z)).map (·.1)
noncomputable def zWords : List Str := ("abcdefghijklmnopqrstuvwxyz" : Str).cps.toList.map fun c => ("z" : Str) ++ ⟨#[c]⟩
noncomputable def freshL (L : Lib) (c : Int) : List Str := (zWords.filter fun z => !decide (z ∈ keysL L)).take c.toNat
section
variable {ρ : FP.Env} {f g fa fb f1 f3 : DTE}
theorem ev_maxD {ns : List Nat} (hf : Ev f ρ (.lst (ns.map fun n => D.int (n : Nat)))) (hg : Ev g ρ (.int 0)) : Ev (dMaxD f g) ρ (.int (maxN ns : Nat)) := fun Q E q => hf _ _ (hg _ _ ⟨ns.map fun n : Nat => (n : Int), by
  have e := intsD_map (ns.map fun n : Nat => (n : Int))
  rw [List.map_map] at e
  exact e, fun e => by
  have : ns = [] := List.map_eq_nil_iff.mp e
  subst this
  exact q, fun m hm hmax => by
  obtain ⟨n, hn, rfl⟩ := List.mem_map.mp hm
  have h1 : maxN ns = n := Nat.le_antisymm (maxN_le fun k hk => by
    have := hmax (k : Int) (List.mem_map.mpr ⟨k, hk, rfl⟩)
    omega) (maxN_ge hn)
  rw [h1] at q
  exact q⟩)
theorem dj10 {gj : DJT} {acc y : Str} {Q : Str → Prop} {E : XD → Prop} (h : Ev f ρ (.str y)) (hl : (acc ++ y).length ≤ sizeLine) (k : gj ρ (acc ++ y) Q E) : dJCons f gj ρ acc Q E := h _ _ ⟨hl, k⟩
theorem ev_fmt10 {n : Nat} (hn : n ≤ 100000) (h : Ev f ρ (.int (n : Nat))) : Ev (dFmt f) ρ (.str (tS10 n)) := fun Q E q => h _ _ ⟨log10 hn, q⟩
theorem ev_tellL {n k : Nat} (hn : n < 100000) (hk : k < 100000) (h1 : Ev f1 ρ (.int (n : Nat))) (h3 : Ev f3 ρ (.int (k : Nat))) : Ev (dJoined (dJCons (dFmt f1) (dJCons (dC (.str " parts, ")) (dJCons (dFmt f3) (dJCons (dC (.str " atoms")) dJNil))))) ρ (.str (tellL n k)) := fun Q E q => by
  have l1 := tS10_len hn
  have l3 := tS10_len hk
  have l2 : (" parts, " : Str).length = 8 := by decide +kernel
  have l4 : (" atoms" : Str).length = 6 := by decide +kernel
  have e0 : Str.empty ++ tS10 n = tS10 n := app_empty _
  show dJCons _ _ ρ Str.empty (fun z => Q (.str z)) E
  refine dj10 (ev_fmt10 (by omega) h1) (by rw [e0]; exact size_small (by omega)) ?_
  rw [e0]
  refine dj10 (fun Q E q => q) (by rw [len_app]; exact size_small (by omega)) ?_
  refine dj10 (ev_fmt10 (by omega) h3) (by rw [len_app, len_app]; exact size_small (by omega)) ?_
  refine dj10 (fun Q E q => q) (by rw [len_app, len_app, len_app]; exact size_small (by omega)) ?_
  exact q
theorem ev_str10 {n : Nat} (hn : n ≤ 100000) (h : Ev f ρ (.int (n : Nat))) : Ev (dCB rdStr (dCons f dNil)) ρ (.str (tS10 n)) := ev_cb (a1 h a0) fun Q q => ⟨log10 hn, q⟩
theorem ev_tellS10 {n k : Nat} (hn : n < 100000) (hk : k < 100000) (h1 : Ev f1 ρ (.int (n : Nat))) (h3 : Ev f3 ρ (.int (k : Nat))) : Ev (dOp rdAdd (dOp rdAdd (dOp rdAdd (dCB rdStr (dCons f1 dNil)) (dC (.str " parts, "))) (dCB rdStr (dCons f3 dNil))) (dC (.str " atoms"))) ρ (.str (tellL n k)) := by
  have l1 := tS10_len hn
  have l3 := tS10_len hk
  have l2 : (" parts, " : Str).length = 8 := by decide +kernel
  have l4 : (" atoms" : Str).length = 6 := by decide +kernel
  refine ev_op (x := .str ((tS10 n ++ " parts, ") ++ tS10 k)) (y := .str " atoms") (ev_op (x := .str (tS10 n ++ " parts, ")) (y := .str (tS10 k)) (ev_op (x := .str (tS10 n)) (y := .str " parts, ") (ev_str10 (by omega) h1) (fun Q E q => q) fun Q q => ⟨?_, q⟩) (ev_str10 (by omega) h3) fun Q q => ⟨?_, q⟩) (fun Q E q => q) fun Q q => ⟨?_, q⟩
  · exact size_small (by omega)
  · rw [len_app]
    exact size_small (by omega)
  · rw [len_app, len_app]
    exact size_small (by omega)
theorem ev_atomF {k : Kd} (h : Ev f ρ (typeD k)) : Ev (dFld "Type" "own_atom" f) ρ (.str k.a) := by
  rw [typeD_eq] at h
  exact ev_fld h (lk_atom k)
theorem ev_orderF {k : Kd} (h : Ev f ρ (typeD k)) : Ev (dFld "Type" "own_order" f) ρ (.int (ord k)) := by
  rw [typeD_eq] at h
  exact ev_fld h (lk_order k)
theorem ev_lenT10 {xs : List D} (h : Ev f ρ (.tup xs)) : Ev (dCB rdLen (dCons f dNil)) ρ (.int (xs.length : Nat)) := ev_cb (a1 h a0) fun Q q => q
theorem ev_lenL10 {xs : List D} (h : Ev f ρ (.lst xs)) : Ev (dCB rdLen (dCons f dNil)) ρ (.int (xs.length : Nat)) := ev_cb (a1 h a0) fun Q q => q
theorem ev_lenD10 {L : Lib} {h : Kd → D} (ha : Ev f ρ (.dct (rowsL h L))) : Ev (dCB rdLen (dCons f dNil)) ρ (.int (L.length : Nat)) := ev_cb (a1 ha a0) fun Q q => lenD (by rw [len_rows]; exact q)
theorem ev_notIn10 {L : Lib} {h : Kd → D} {z : Str} (ha : Ev fa ρ (.str z)) (hb : Ev fb ρ (.dct (rowsL h L))) : Ev (dOp (rdDIn true) fa fb) ρ (.bl (!decide (z ∈ keysL L))) := ev_op ha hb fun Q q => ⟨.inr z, rfl, by rw [in_rows]; exact q⟩
end
theorem isi_lib10 (L : Lib) : isiD ["Library"] (fun _ => true) (libD L) = some true := by
  show (if ("Library" : Str) ∈ [("Library" : Str)] then some true else none) = some true
  rw [if_pos List.mem_cons_self]
theorem cut_take (xs : List D) {c : Int} (h : 0 ≤ c) : cutD xs none (some c) = xs.take c.toNat := by
  have e : (c.toNat : Int) = c := Int.toNat_of_nonneg h
  rw [← e]
  unfold cutD
  rw [HT.sIx_none, HT.sIx_nat, Int.toNat_natCast, List.drop_zero, Nat.sub_zero]
  exact List.take_eq_take_min.symm
noncomputable def f_order10 : List D → M D := fun ds Q _ => match ds with
  | [x] => ∃ L, x = libD L ∧ LibG L ∧ L.length ≤ 60 ∧ Q (.int (maxN ((sortL L).map fun p => ord p.2) : Nat))
  | _ => False
noncomputable def f_scope10 : List D → M D := fun ds Q _ => match ds with
  | [x] => ∃ L, x = libD L ∧ Q (.tup ((scopeL L).map .str))
  | _ => False
noncomputable def f_str10 : List D → M D := fun ds Q _ => match ds with
  | [x] => ∃ L, x = libD L ∧ LibG L ∧ L.length ≤ 8 ∧ (atomsL L).length < 100000 ∧ Q (.str (tellL L.length (atomsL L).length))
  | _ => False
noncomputable def f_heads10 : List D → M D := fun ds Q _ => match ds with
  | [x, .str z] => ∃ L, x = libD L ∧ LibG L ∧ L.length ≤ 60 ∧ isWordS z = true ∧ Q (.tup ((headsL L z).map .str))
  | _ => False
noncomputable def f_freshl10 : List D → M D := fun ds Q _ => match ds with
  | [x, .int c] => ∃ L, x = libD L ∧ 0 ≤ c ∧ c ≤ 8 ∧ Q (.lst ((freshL L c).map .str))
  | _ => False
noncomputable def f_fresh10 : List D → M D := fun ds Q _ => match ds with
  | [x, .int c] => ∃ L, x = libD L ∧ 0 ≤ c ∧ c ≤ 8 ∧ Q (.tup ((freshL L c).map .str))
  | _ => False
noncomputable def f_reqlib10 : List D → M D := fun ds Q _ => match ds with
  | [x] => ∃ L, x = libD L ∧ Q .non
  | _ => False
end KP
/-! KP87: whole libraries told (k10): what the law's own defs ask. -/
namespace KP
open PySem L2 FP
variable [FP.Tabl]
theorem atoms_w {L : Lib} (h : LibG L) : ∀ z ∈ atomsL L, isWordS z = true := fun z hz => by
  obtain ⟨xs, hxs, hz⟩ := List.mem_flatten.mp (sortU_mem.mp hz)
  obtain ⟨p, hp, rfl⟩ := List.mem_map.mp hxs
  exact (h.sort.g p hp).w z (atomsK_mem.mp hz)
theorem scope_ok {L : Lib} (h : LibG L) : ∀ z ∈ scopeL L, PyData.strOk z = true := fun z hz => by
  obtain ⟨p, hp, rfl⟩ := List.mem_map.mp (sortU_mem.mp hz)
  exact (h.sort.g p hp).text_ok
theorem word_str {z : Str} (h : isWordS z = true) : PyData.strOk z = true := (strOk_iff _).mpr (word_ok h).2
theorem names_str {L : Lib} (h : LibG L) : ∀ z ∈ sortS (keysL L), PyData.strOk z = true := fun z hz => by
  obtain ⟨p, hp, rfl⟩ := List.mem_map.mp ((sortS_perm _).mem_iff.mp hz)
  exact word_str (h.w p hp)
theorem sort_map {α : Type} (g : Str × Kd → α) (L : Lib) : (sortL L).map g = (sortS (keysL L)).map fun z => g (z, kindAt L z) := by
  unfold sortL pickL
  rw [List.map_map]
  rfl
theorem heads_eq (L : Lib) (a : Str) : headsL L a = (sortS (keysL L)).filter fun z => decide ((kindAt L z).a = a) := by
  unfold headsL sortL pickL
  rw [List.filter_map, List.map_map]
  exact List.map_id _
theorem ofS_ok (s : String) : PyData.strOk (Str.ofString s) = true := by
  rw [strOk_iff]
  intro c hc
  obtain ⟨x, _, rfl⟩ : ∃ x : Char, x ∈ s.toList ∧ x.toNat = c := by
    rw [Str.ofString_eq_toList] at hc
    simpa using hc
  rcases x.valid with h | h
  · have : x.val.toNat < 55296 := h
    show x.val.toNat < 1114112
    omega
  · exact h.2
theorem tell_ok (n k : Nat) : PyData.strOk (tellL n k) = true := strOk_app (strOk_app (strOk_app (ofS_ok _) (by decide +kernel)) (ofS_ok _)) (by decide +kernel)
theorem strsD_map2 {α : Type} (g : α → Str) (zs : List α) : strsD (zs.map fun z => D.str (g z)) = some (zs.map g) := by
  have e := strsD_map (zs.map g)
  rw [List.map_map] at e
  exact e
/-- all that is told -/
noncomputable def toldD10 (L : Lib) : D := .lst [.lst ((sortS (keysL L)).map fun z => .tup [.str z, .str (text (kindAt L z))]), .tup ((sortS (keysL L)).map .str), .tup ((linesL L).map .str), .tup ((atomsL L).map .str), .tup ((scopeL L).map .str)]
theorem kind_of {L : Lib} (h : LibG L) {z : Str} (hz : z ∈ sortS (keysL L)) : getL L z = some (kindAt L z) ∧ Good (kindAt L z) := by
  obtain ⟨k, hk, hm⟩ := getL_in ((sortS_perm _).mem_iff.mp hz)
  rw [kindAt_of hk]
  exact ⟨hk, h.g _ hm⟩
theorem told_sh {L : Lib} (h : LibG L) : shD 64 (toldD10 L) = true := by
  refine sh_lst (sh_cons (sh_lst (shDs_of fun d hd => ?_)) (sh_cons (sh_tup (sh_strs (names_str h))) (sh_cons (sh_tup (sh_strs (lines_chars h))) (sh_cons (sh_tup (sh_strs fun z hz => word_str (atoms_w h z hz))) (sh_cons (sh_tup (sh_strs (scope_ok h))) sh_nil)))))
  obtain ⟨z, hz, rfl⟩ := List.mem_map.mp hd
  exact sh_tup (sh_cons (sh_str (names_str h z hz)) (sh_cons (sh_str (kind_of h hz).2.text_ok) sh_nil))
noncomputable def f_told10 : List D → M D := fun ds Q _ => match ds with
  | [x, .dct kvs] => ∃ L : Lib, x = libD L ∧ kvs = rowsL plain L ∧ LibG L ∧ L.length ≤ 8 ∧ Q (.bl true)
  | _ => False
section
variable {ρ : FP.Env} {f fa fb : DTE} {L : Lib} {k : Kd} {z : Str}
theorem ev_text10 (hk : Good k) (h : Ev f ρ (typeD k)) : Ev (dProp "Type" (f_tell d_text) f) ρ (.str (text k)) := by
  rw [typeD_eq] at h
  exact ev_prop h fun Q q => ⟨k, (typeD_eq k).symm, hk, q⟩
theorem ev_parts10 (h : Ev f ρ (libD L)) : Ev (dProp "Library" f_parts10 f) ρ (libT (sortL L)) := ev_prop (fs := libF L) h fun Q q => ⟨L, rfl, q⟩
theorem ev_atom10 (h : Ev f ρ (plain k)) : Ev (dOp rdIx f (dC (.int 1))) ρ (.str k.a) := by
  rw [plain_eq] at h
  exact ev_op h (fun Q E q => q) fun Q q => ⟨_, rfl, q⟩
theorem ev_in10 {d : D} (hc : chkD d) (ha : Ev fa ρ d) (hb : Ev fb ρ (libD L)) : Ev (dOp (rdInM false "Library" f_contL) fa fb) ρ (.bl (inLib L d)) := ev_op ha hb fun Q q => ⟨rfl, L, rfl, hc, q⟩
theorem ev_item10 (hg : getL L z = some k) (ha : Ev fa ρ (libD L)) (hb : Ev fb ρ (.str z)) : Ev (dOp (rdIxM "Library" f_itemL) fa fb) ρ (typeD k) := ev_op ha hb fun Q q => ⟨rfl, L, k, rfl, hg, q⟩
end
noncomputable def odd10 (L : Lib) : List D := [.non, .int 0, .str "", .str "x0", .tup [], .tup [.str "f"], libD L, .dct [], .lst [.str "f"], typeD (.mk [] "a")]
theorem odd_chk {L : Lib} {d : D} (hd : d ∈ odd10 L) : chkD d := by
  simp only [odd10, List.mem_cons, List.not_mem_nil, or_false] at hd
  rcases hd with rfl | rfl | rfl | rfl | rfl | rfl | rfl | rfl | rfl | rfl
  · exact ⟨false, by decide +kernel, rfl⟩
  · exact ⟨false, by decide +kernel, rfl⟩
  · exact ⟨true, kit_ss, rfl⟩
  · exact ⟨true, kit_ss, rfl⟩
  · exact ⟨false, by decide +kernel, rfl⟩
  · exact ⟨false, by decide +kernel, rfl⟩
  · exact ⟨by decide +kernel, rfl⟩
  · exact ⟨false, by decide +kernel, rfl⟩
  · exact ⟨false, by decide +kernel, rfl⟩
  · rw [typeD_eq]
    exact ⟨by decide +kernel, rfl⟩
theorem odd_none {L : Lib} (h : LibG L) : (odd10 L).filter (inLib L) = [] := by
  have n : ∀ z : Str, isWordS z = false → inLib L (.str z) = false := fun z hz => by
    refine decide_eq_false fun m => ?_
    obtain ⟨p, hp, rfl⟩ := List.mem_map.mp m
    rw [h.w p hp] at hz
    cases hz
  refine List.filter_eq_nil_iff.mpr fun d hd => ?_
  simp only [odd10, List.mem_cons, List.not_mem_nil, or_false] at hd
  rcases hd with rfl | rfl | rfl | rfl | rfl | rfl | rfl | rfl | rfl | rfl
  · exact Bool.false_ne_true
  · exact Bool.false_ne_true
  · rw [n _ (by decide +kernel)]
    exact Bool.false_ne_true
  · rw [n _ (by decide +kernel)]
    exact Bool.false_ne_true
  · exact Bool.false_ne_true
  · exact Bool.false_ne_true
  · exact Bool.false_ne_true
  · exact Bool.false_ne_true
  · exact Bool.false_ne_true
  · rw [typeD_eq]
    exact Bool.false_ne_true
end KP
/-! KP88: whole libraries told (k10): the law. -/
namespace KP
open PySem L2 FP
variable [FP.Tabl]
theorem seq_odClear {i : Nat} {N : Nd} {gs : DTS} {ρ : FP.Env} {kvs : List (Key × D)} (h : ρ[i]? = some (.od kvs)) (hg : gs N (ρ.set i (.od []))) : dSeq (dOdClear i) gs N ρ := by
  show dOdClear i _ ρ
  unfold dOdClear
  rw [h]
  exact hg
theorem seq_propClr {f : DTE} {N : Nd} {gs : DTS} {ρ : FP.Env} {L : Lib} (h : Ev f ρ (libD L)) (hg : gs N ρ) : dSeq (dPropClr "Library" f_partsNL f) gs N ρ := h _ _ ⟨rfl, L, rfl, hg⟩
theorem eqStrsL {zs ys : List Str} (h1 : ∀ z ∈ zs, PyData.strOk z = true) (h2 : ∀ z ∈ ys, PyData.strOk z = true) {Q : D → Prop} (q : Q (.bl (decide (zs = ys)))) : rdEq (.lst (zs.map .str)) (.lst (ys.map .str)) Q := by
  obtain ⟨p, p1, p2, p3⟩ := shD_py 64 (.lst (zs.map .str)) (sh_lst (sh_strs h1))
  obtain ⟨r, r1, r2, r3⟩ := shD_py 64 (.lst (ys.map .str)) (sh_lst (sh_strs h2))
  show ∃ p q, toPy _ = some p ∧ toPy _ = some q ∧ SeqAt.shaped p = true ∧ SeqAt.shaped q = true ∧ Q (.bl (PyData.eqv p q))
  refine ⟨p, r, p1, r1, sh_shaped p2 p3, sh_shaped r2 r3, ?_⟩
  rw [toPy, py_strs] at p1 r1
  cases p1
  cases r1
  rw [PyData.eqv, eqv_strs]
  exact q
theorem zw_w : ∀ z ∈ zWords, isWordS z = true := by decide +kernel
theorem zw_len : zWords.length = 26 := by decide +kernel
theorem pick10 {Q : D → Prop} {E : XD → Prop} (h : ∀ z, isWordS z = true → Q (.str z)) : f_pick [.tok, .lst (cutD (zWords.map D.str) none (some 4))] Q E := by
  rw [cut_take _ (by decide)]
  refine ⟨?_, fun d hd => ?_⟩
  · rw [List.length_take, List.length_map, zw_len]
    exact ⟨by decide, by decide⟩
  · obtain ⟨z, hz, rfl⟩ := List.mem_map.mp (List.mem_of_mem_take hd)
    exact h z (zw_w z hz)
theorem some10 {ws : List Str} {k : Int} (hl : ws.length ≤ 60) (hk : k = ws.length) {Q : D → Prop} {E : XD → Prop} (h : ∀ ys : List Str, ys.Perm ws → Q (.lst (ys.map .str))) : f_some [.tok, .lst (ws.map D.str), .int k] Q E := by
  subst hk
  refine ⟨by rw [List.length_map]; omega, ⟨by omega, by omega⟩, fun ys us hp hn => ?_⟩
  obtain ⟨ys, us, rfl, rfl, hp2⟩ := perm_strs hp
  rw [List.length_map, List.length_map, Int.toNat_natCast, Nat.min_self] at hn
  have e := hp2.length_eq
  rw [List.length_append] at e
  have : us = [] := List.length_eq_zero_iff.mp (by omega)
  subst this
  rw [List.append_nil] at hp2
  exact h ys hp2
theorem pick_same {L : Lib} {ys : List Str} (hp : ys.Perm (sortS (keysL L))) : sameL (pickL L ys) L := fun z => by
  have hp2 := hp.trans (sortS_perm _)
  rw [get_pick fun z hz => hp2.mem_iff.mp hz]
  by_cases h : z ∈ ys
  · rw [if_pos h]
  · rw [if_neg h]
    exact (getL_out.mpr fun m => h (hp2.mem_iff.mpr m)).symm
section
variable {ρ : FP.Env} {f fa fb : DTE} {L M : Lib} {k : Kd} {z : Str}
theorem evEqNo {y : D} (hy : noL y) (hk : eqKind ["Library"] y) (hL : LibG L) (h8 : L.length ≤ 60) (ha : Ev fa ρ (libD L)) (hb : Ev fb ρ y) : Ev (dOp (rdEqM ["Library"] "Library" f_eqL) fa fb) ρ (.bl false) := ev_op ha hb fun Q q => ⟨rfl, hk, L, rfl, h8, hL, .inr ⟨hy, q⟩⟩
theorem evNotInL10 (ha : Ev fa ρ (.str z)) (hb : Ev fb ρ (libD L)) : Ev (dOp (rdInM true "Library" f_contL) fa fb) ρ (.bl (!decide (z ∈ keysL L))) := ev_op ha hb fun Q q => ⟨rfl, L, rfl, chk_str z, q⟩
end
theorem fresh_ok (L : Lib) (c : Int) : ∀ z ∈ freshL L c, PyData.strOk z = true := fun z hz => word_str (zw_w z (List.mem_filter.mp (List.mem_of_mem_take hz)).1)
/-! ### the bare library -/
theorem sort_nil : sortL ([] : Lib) = [] := List.length_eq_zero_iff.mp (len_sort [])
noncomputable def bareD : D := .lst [.dct [], .tup [], .tup [], .tup [], .tup [], .int 0, .str "0 parts, 0 atoms", .int 8]
theorem bare1 : libT (sortL ([] : Lib)) = .dct [] := by
  rw [sort_nil]
  rfl
theorem bare2 : (keysL (sortL ([] : Lib))).map D.str = [] := by
  rw [sort_nil]
  rfl
theorem bare3 : (linesL ([] : Lib)).map D.str = [] := by
  unfold linesL
  rw [sort_nil]
  rfl
theorem bareU : sortU ([] : List Str) = [] := List.length_eq_zero_iff.mp (Nat.le_zero.mp (sortU_len []))
theorem bare4 : (atomsL ([] : Lib)).map D.str = [] := by
  unfold atomsL
  rw [sort_nil]
  show (sortU []).map D.str = []
  rw [bareU]
  rfl
theorem bare5 : (scopeL ([] : Lib)).map D.str = [] := by
  unfold scopeL
  rw [sort_nil]
  show (sortU []).map D.str = []
  rw [bareU]
  rfl
theorem bare6 : (sortL ([] : Lib)).map (fun p => ord p.2) = [] := by
  rw [sort_nil]
  rfl
theorem bare7 : (atomsL ([] : Lib)).length = 0 := by
  have e := congrArg List.length bare4
  rw [List.length_map] at e
  exact e
theorem bare8 : tellL ([] : Lib).length 0 = "0 parts, 0 atoms" := by decide +kernel
theorem bare_eq : EqDs [.dct [], .tup [], .tup [], .tup [], .tup [], .int 0, .str "0 parts, 0 atoms", .int 8] [.dct [], .tup [], .tup [], .tup [], .tup [], .int 0, .str "0 parts, 0 atoms", .int 8] :=
  have t : ∀ {xs ys : List D}, EqDs xs ys → EqDs (.tup [] :: xs) (.tup [] :: ys) := fun h => .py (p := .tuple []) (q := .tuple []) rfl rfl (by decide +kernel) (by decide +kernel) (by decide +kernel) h
  .dct (t (t (t (t (.py (p := .int 0) (q := .int 0) rfl rfl (by decide +kernel) (by decide +kernel) (by decide +kernel) (.py (p := .str "0 parts, 0 atoms") (q := .str "0 parts, 0 atoms") rfl rfl (by decide +kernel) (by decide +kernel) (by decide +kernel) (.py (p := .int 8) (q := .int 8) rfl rfl (by decide +kernel) (by decide +kernel) (by decide +kernel) .nil)))))))
end KP
namespace K10
open PySem L2 FP
variable [FP.Tabl]
theorem sc_is_integer : FnScope ["value"] ["value"] (defScope s_is_integer) := ⟨rfl, rfl, rfl, by decide +kernel, rfl, by decide +kernel, by decide +kernel⟩
theorem sc_is_within : FnScope ["value", "least", "most"] ["value", "least", "most"] (defScope s_is_within) := ⟨rfl, rfl, rfl, by decide +kernel, rfl, by decide +kernel, by decide +kernel⟩
theorem sc_is_word : FnScope ["value", "sign"] ["value"] (defScope s_is_word) := ⟨rfl, rfl, rfl, by decide +kernel, rfl, by decide +kernel, by decide +kernel⟩
theorem sc_ascending_rows : FnScope ["rows", "word"] ["rows"] (defScope s_ascending_rows) := ⟨rfl, rfl, rfl, by decide +kernel, rfl, by decide +kernel, by decide +kernel⟩
theorem sc_order_of : FnScope ["inputs", "one"] ["inputs"] (defScope s_order_of) := ⟨rfl, rfl, rfl, by decide +kernel, rfl, by decide +kernel, by decide +kernel⟩
theorem sc_input_text : FnScope ["wanted"] ["wanted"] (defScope s_input_text) := ⟨rfl, rfl, rfl, by decide +kernel, rfl, by decide +kernel, by decide +kernel⟩
theorem sc_Type___init__ : FnScope ["self", "inputs", "atom", "one", "place"] ["self", "inputs", "atom"] (defScope s_Type___init__) := ⟨rfl, rfl, rfl, by decide +kernel, rfl, by decide +kernel, by decide +kernel⟩
theorem sc_Type_plain : FnScope ["cls", "atom"] ["cls", "atom"] (defScope s_Type_plain) := ⟨rfl, rfl, rfl, by decide +kernel, rfl, by decide +kernel, by decide +kernel⟩
theorem sc_Type_text : FnScope ["self"] ["self"] (defScope s_Type_text) := ⟨rfl, rfl, rfl, by decide +kernel, rfl, by decide +kernel, by decide +kernel⟩
theorem sc_Type_atoms : FnScope ["self"] ["self"] (defScope s_Type_atoms) := ⟨rfl, rfl, rfl, by decide +kernel, rfl, by decide +kernel, by decide +kernel⟩
theorem sc_Type___str__ : FnScope ["self"] ["self"] (defScope s_Type___str__) := ⟨rfl, rfl, rfl, by decide +kernel, rfl, by decide +kernel, by decide +kernel⟩
theorem sc_signed_atoms : FnScope ["wanted", "is_positive", "found", "one"] ["wanted", "is_positive"] (defScope s_signed_atoms) := ⟨rfl, rfl, rfl, by decide +kernel, rfl, by decide +kernel, by decide +kernel⟩
theorem sc_is_parts : FnScope ["value", "wanted", "name"] ["value"] (defScope s_is_parts) := ⟨rfl, rfl, rfl, by decide +kernel, rfl, by decide +kernel, by decide +kernel⟩
theorem sc_Library___init__ : FnScope ["self", "parts", "told", "name", "wanted"] ["self", "parts"] (defScope s_Library___init__) := ⟨rfl, rfl, rfl, by decide +kernel, rfl, by decide +kernel, by decide +kernel⟩
theorem sc_Library_parts : FnScope ["self"] ["self"] (defScope s_Library_parts) := ⟨rfl, rfl, rfl, by decide +kernel, rfl, by decide +kernel, by decide +kernel⟩
theorem sc_Library_names : FnScope ["self"] ["self"] (defScope s_Library_names) := ⟨rfl, rfl, rfl, by decide +kernel, rfl, by decide +kernel, by decide +kernel⟩
theorem sc_Library_lines : FnScope ["self"] ["self"] (defScope s_Library_lines) := ⟨rfl, rfl, rfl, by decide +kernel, rfl, by decide +kernel, by decide +kernel⟩
theorem sc_Library_atoms : FnScope ["self"] ["self"] (defScope s_Library_atoms) := ⟨rfl, rfl, rfl, by decide +kernel, rfl, by decide +kernel, by decide +kernel⟩
theorem sc_Library_scope : FnScope ["self"] ["self"] (defScope s_Library_scope) := ⟨rfl, rfl, rfl, by decide +kernel, rfl, by decide +kernel, by decide +kernel⟩
theorem sc_Library_order : FnScope ["self", "wanted"] ["self"] (defScope s_Library_order) := ⟨rfl, rfl, rfl, by decide +kernel, rfl, by decide +kernel, by decide +kernel⟩
theorem sc_Library_with_part : FnScope ["self", "name", "wanted"] ["self", "name", "wanted"] (defScope s_Library_with_part) := ⟨rfl, rfl, rfl, by decide +kernel, rfl, by decide +kernel, by decide +kernel⟩
theorem sc_Library_heads : FnScope ["self", "atom", "name", "wanted"] ["self", "atom"] (defScope s_Library_heads) := ⟨rfl, rfl, rfl, by decide +kernel, rfl, by decide +kernel, by decide +kernel⟩
theorem sc_Library___getitem__ : FnScope ["self", "name"] ["self", "name"] (defScope s_Library___getitem__) := ⟨rfl, rfl, rfl, by decide +kernel, rfl, by decide +kernel, by decide +kernel⟩
theorem sc_Library___contains__ : FnScope ["self", "value"] ["self", "value"] (defScope s_Library___contains__) := ⟨rfl, rfl, rfl, by decide +kernel, rfl, by decide +kernel, by decide +kernel⟩
theorem sc_Library___len__ : FnScope ["self"] ["self"] (defScope s_Library___len__) := ⟨rfl, rfl, rfl, by decide +kernel, rfl, by decide +kernel, by decide +kernel⟩
theorem sc_Library___iter__ : FnScope ["self"] ["self"] (defScope s_Library___iter__) := ⟨rfl, rfl, rfl, by decide +kernel, rfl, by decide +kernel, by decide +kernel⟩
theorem sc_Library___eq__ : FnScope ["self", "other"] ["self", "other"] (defScope s_Library___eq__) := ⟨rfl, rfl, rfl, by decide +kernel, rfl, by decide +kernel, by decide +kernel⟩
theorem sc_Library___str__ : FnScope ["self"] ["self"] (defScope s_Library___str__) := ⟨rfl, rfl, rfl, by decide +kernel, rfl, by decide +kernel, by decide +kernel⟩
theorem sc_require_library : FnScope ["value"] ["value"] (defScope s_require_library) := ⟨rfl, rfl, rfl, by decide +kernel, rfl, by decide +kernel, by decide +kernel⟩
theorem sc_atoms_in : FnScope ["library", "wanted", "atom"] ["library"] (defScope s_atoms_in) := ⟨rfl, rfl, rfl, by decide +kernel, rfl, by decide +kernel, by decide +kernel⟩
theorem sc_fresh_list : FnScope ["library", "count", "words", "letter", "word"] ["library", "count"] (defScope s_fresh_list) := ⟨rfl, rfl, rfl, by decide +kernel, rfl, by decide +kernel, by decide +kernel⟩
theorem sc_fresh_names : FnScope ["library", "count"] ["library", "count"] (defScope s_fresh_names) := ⟨rfl, rfl, rfl, by decide +kernel, rfl, by decide +kernel, by decide +kernel⟩
theorem sc__law_dice : FnScope ["_law_script", "_law_spot", "_law_cell", "_law_great", "_law_blend"] ["_law_script", "_law_spot"] (defScope s__law_dice) := ⟨rfl, rfl, rfl, by decide +kernel, rfl, by decide +kernel, by decide +kernel⟩
theorem sc__law_roll : FnScope ["_law_dice_here", "_law_total", "_law_one", "_law_two", "_law_found"] ["_law_dice_here", "_law_total"] (defScope s__law_roll) := ⟨rfl, rfl, rfl, by decide +kernel, rfl, by decide +kernel, by decide +kernel⟩
theorem sc__law_pick : FnScope ["_law_dice_here", "_law_items"] ["_law_dice_here", "_law_items"] (defScope s__law_pick) := ⟨rfl, rfl, rfl, by decide +kernel, rfl, by decide +kernel, by decide +kernel⟩
theorem sc__law_some : FnScope ["_law_dice_here", "_law_items", "_law_size", "_law_left", "_law_turn"] ["_law_dice_here", "_law_items", "_law_size"] (defScope s__law_some) := ⟨rfl, rfl, rfl, by decide +kernel, rfl, by decide +kernel, by decide +kernel⟩
theorem sc__law_text : FnScope ["_law_kind_here", "_law_rows", "_law_one"] ["_law_kind_here"] (defScope s__law_text) := ⟨rfl, rfl, rfl, by decide +kernel, rfl, by decide +kernel, by decide +kernel⟩
theorem sc__law_atoms_of : FnScope ["_law_kind_here", "_law_found", "_law_one"] ["_law_kind_here"] (defScope s__law_atoms_of) := ⟨rfl, rfl, rfl, by decide +kernel, rfl, by decide +kernel, by decide +kernel⟩
theorem sc__law_order : FnScope ["_law_kind_here", "_law_one"] ["_law_kind_here"] (defScope s__law_order) := ⟨rfl, rfl, rfl, by decide +kernel, rfl, by decide +kernel, by decide +kernel⟩
theorem sc__law_kind : FnScope ["_law_dice_here", "_law_atoms", "_law_order_here", "_law_most", "_law_inputs", "_law_left", "_law_turn", "_law_size", "_law_one"] ["_law_dice_here", "_law_atoms", "_law_order_here", "_law_most"] (defScope s__law_kind) := ⟨rfl, rfl, rfl, by decide +kernel, rfl, by decide +kernel, by decide +kernel⟩
theorem sc__law_made_kind : FnScope ["_law_kind_here", "_law_one"] ["_law_kind_here"] (defScope s__law_made_kind) := ⟨rfl, rfl, rfl, by decide +kernel, rfl, by decide +kernel, by decide +kernel⟩
theorem sc__law_library : FnScope ["_law_dice_here", "_law_way", "_law_found", "_law_atoms", "_law_name"] ["_law_dice_here"] (defScope s__law_library) := ⟨rfl, rfl, rfl, by decide +kernel, rfl, by decide +kernel, by decide +kernel⟩
theorem sc__law_known_library : FnScope ["_law_dice_here", "_law_a", "_law_b", "_law_c", "_law_n", "_law_some_here", "_law_found"] ["_law_dice_here"] (defScope s__law_known_library) := ⟨rfl, rfl, rfl, by decide +kernel, rfl, by decide +kernel, by decide +kernel⟩
theorem sc__law_lines : FnScope ["_law_library_here", "_law_name"] ["_law_library_here"] (defScope s__law_lines) := ⟨rfl, rfl, rfl, by decide +kernel, rfl, by decide +kernel, by decide +kernel⟩
theorem sc__law_made : FnScope ["_law_library_here", "_law_name"] ["_law_library_here"] (defScope s__law_made) := ⟨rfl, rfl, rfl, by decide +kernel, rfl, by decide +kernel, by decide +kernel⟩
theorem sc__law_library_atoms : FnScope ["_law_library_here", "_law_found", "_law_name"] ["_law_library_here"] (defScope s__law_library_atoms) := ⟨rfl, rfl, rfl, by decide +kernel, rfl, by decide +kernel, by decide +kernel⟩
theorem sc__law_told_right : FnScope ["_law_made_here", "_law_library_here", "_law_names", "_law_atoms", "_law_told", "_law_due", "_law_order_here", "_law_text_here", "_law_name", "_law_atom", "_law_odd", "_law_one"] ["_law_made_here", "_law_library_here"] (defScope s__law_told_right) := ⟨rfl, rfl, rfl, by decide +kernel, rfl, by decide +kernel, by decide +kernel⟩
theorem sc__law_right : FnScope ["_law_dice_here", "_law_library_here", "_law_other", "_law_names", "_law_parts", "_law_made_here", "_law_words", "_law_more", "_law_count", "_law_letter", "_law_name", "_law_word"] ["_law_dice_here"] (defScope s__law_right) := ⟨rfl, rfl, rfl, by decide +kernel, rfl, by decide +kernel, by decide +kernel⟩
theorem sc_law : FnScope ["_law_script", "_law_spot", "_law_bare", "_law_told", "_law_dice_here", "_law_turn"] ["_law_script"] (defScope s_law) := ⟨rfl, rfl, rfl, by decide +kernel, rfl, by decide +kernel, by decide +kernel⟩
structure Ads where
  a_Type : Addr
  a_Library : Addr
  ax_InvalidLibrary : Addr
  ax_InvalidType : Addr
  ax_InvalidWord : Addr
structure All (mg : Gm) (Z : Ads) : Prop where
  n_abs : mg.mg "abs" = none
  n_all : mg.mg "all" = none
  n_bool : mg.mg "bool" = none
  n_dict : mg.mg "dict" = none
  n_int : mg.mg "int" = none
  n_isinstance : mg.mg "isinstance" = none
  n_iter : mg.mg "iter" = none
  n_len : mg.mg "len" = none
  n_list : mg.mg "list" = none
  n_max : mg.mg "max" = none
  n_min : mg.mg "min" = none
  n_range : mg.mg "range" = none
  n_set : mg.mg "set" = none
  n_sorted : mg.mg "sorted" = none
  n_str : mg.mg "str" = none
  n_tuple : mg.mg "tuple" = none
  c_ARROW : ∃ tk, mg.mg "ARROW" = some (.str " -> " tk)
  c_LETTERS : ∃ tk, mg.mg "LETTERS" = some (.str "abcdefghijklmnopqrstuvwxyz" tk)
  c_LONGEST : ∃ tk, mg.mg "LONGEST" = some (.int 1000000000000000000000000000000000000000000000000000000000000 tk)
  c_MAX_LETTERS : ∃ tk, mg.mg "MAX_LETTERS" = some (.int 8 tk)
  c_MAX_ORDER : ∃ tk, mg.mg "MAX_ORDER" = some (.int 4 tk)
  c_MAX_PARTS : ∃ tk, mg.mg "MAX_PARTS" = some (.int 8 tk)
  c_MAX_PLACES : ∃ tk, mg.mg "MAX_PLACES" = some (.int 15 tk)
  kc_Type : ClsF mg "Type" Z.a_Type
  na_Type_own_args : NoAttr mg.K Z.a_Type "own_args"
  na_Type_own_atom : NoAttr mg.K Z.a_Type "own_atom"
  na_Type_own_places : NoAttr mg.K Z.a_Type "own_places"
  na_Type_own_order : NoAttr mg.K Z.a_Type "own_order"
  na_Type_own_text : NoAttr mg.K Z.a_Type "own_text"
  isi_Type : IsiF mg Z.a_Type ["Type"] (fun _ => true)
  kc_Library : ClsF mg "Library" Z.a_Library
  na_Library_own_parts : NoAttr mg.K Z.a_Library "own_parts"
  na_Library_own_names : NoAttr mg.K Z.a_Library "own_names"
  na_Library_own_lines : NoAttr mg.K Z.a_Library "own_lines"
  na_Library_own_scope : NoAttr mg.K Z.a_Library "own_scope"
  isi_Library : IsiF mg Z.a_Library ["Library"] (fun _ => true)
  eq_Library : EqF mg Z.a_Library ["Library"]
  ne_Library : PySem.W.findIn mg.K (.ref Z.a_Library) "__ne__" = some (some (.builtin "object.__ne__"))
  fm_Type : PySem.W.findIn mg.K (.ref Z.a_Type) "__format__" = some (some (.builtin "object.__format__"))
  isb_str : IsbF mg "str" ["Type", "Library"]
  d_is_integer : ∃ fa fd, mg.mg "is_integer" = some (.ref fa) ∧ Fun mg.K "is_integer" "is_integer" s_is_integer fa fd
  d_is_within : ∃ fa fd, mg.mg "is_within" = some (.ref fa) ∧ Fun mg.K "is_within" "is_within" s_is_within fa fd
  d_is_word : ∃ fa fd, mg.mg "is_word" = some (.ref fa) ∧ Fun mg.K "is_word" "is_word" s_is_word fa fd
  d_ascending_rows : ∃ fa fd, mg.mg "ascending_rows" = some (.ref fa) ∧ Fun mg.K "ascending_rows" "ascending_rows" s_ascending_rows fa fd
  d_order_of : ∃ fa fd, mg.mg "order_of" = some (.ref fa) ∧ Fun mg.K "order_of" "order_of" s_order_of fa fd
  d_input_text : ∃ fa fd, mg.mg "input_text" = some (.ref fa) ∧ Fun mg.K "input_text" "input_text" s_input_text fa fd
  d_Type___init__ : ∃ fa fd, Mk mg.K Z.a_Type fa ∧ Fun mg.K "__init__" "Type.__init__" s_Type___init__ fa fd
  d_Type_plain : ∃ mc p fa fd, ClX.CRead mg.K Z.a_Type mc ∧ ClX.CMet mg.K Z.a_Type mc "plain" p fa ∧ Fun mg.K "plain" "Type.plain" s_Type_plain fa fd
  d_Type_text : ∃ p fa fd, PropOf mg.K Z.a_Type "text" p fa ∧ Fun mg.K "text" "Type.text" s_Type_text fa fd
  d_Type_atoms : ∃ p fa fd, PropOf mg.K Z.a_Type "atoms" p fa ∧ Fun mg.K "atoms" "Type.atoms" s_Type_atoms fa fd
  d_Type___str__ : ∃ fa fd, (Meth mg.K Z.a_Type "__str__" fa ∧ PySem.W.fnIn mg.K fa = true) ∧ Fun mg.K "__str__" "Type.__str__" s_Type___str__ fa fd
  d_signed_atoms : ∃ fa fd, mg.mg "signed_atoms" = some (.ref fa) ∧ Fun mg.K "signed_atoms" "signed_atoms" s_signed_atoms fa fd
  d_is_parts : ∃ fa fd, mg.mg "is_parts" = some (.ref fa) ∧ Fun mg.K "is_parts" "is_parts" s_is_parts fa fd
  d_Library___init__ : ∃ fa fd, Mk mg.K Z.a_Library fa ∧ FunDf mg.K "__init__" "Library.__init__" s_Library___init__ [.non] fa fd
  d_Library_parts : ∃ p fa fd, PropOf mg.K Z.a_Library "parts" p fa ∧ Fun mg.K "parts" "Library.parts" s_Library_parts fa fd
  d_Library_names : ∃ p fa fd, PropOf mg.K Z.a_Library "names" p fa ∧ Fun mg.K "names" "Library.names" s_Library_names fa fd
  d_Library_lines : ∃ p fa fd, PropOf mg.K Z.a_Library "lines" p fa ∧ Fun mg.K "lines" "Library.lines" s_Library_lines fa fd
  d_Library_atoms : ∃ p fa fd, PropOf mg.K Z.a_Library "atoms" p fa ∧ Fun mg.K "atoms" "Library.atoms" s_Library_atoms fa fd
  d_Library_scope : ∃ p fa fd, PropOf mg.K Z.a_Library "scope" p fa ∧ Fun mg.K "scope" "Library.scope" s_Library_scope fa fd
  d_Library_order : ∃ p fa fd, PropOf mg.K Z.a_Library "order" p fa ∧ Fun mg.K "order" "Library.order" s_Library_order fa fd
  d_Library_with_part : ∃ fa fd, Meth mg.K Z.a_Library "with_part" fa ∧ Fun mg.K "with_part" "Library.with_part" s_Library_with_part fa fd
  d_Library_heads : ∃ fa fd, Meth mg.K Z.a_Library "heads" fa ∧ Fun mg.K "heads" "Library.heads" s_Library_heads fa fd
  d_Library___getitem__ : ∃ fa fd, (Meth mg.K Z.a_Library "__getitem__" fa ∧ PySem.W.fnIn mg.K fa = true) ∧ Fun mg.K "__getitem__" "Library.__getitem__" s_Library___getitem__ fa fd
  d_Library___contains__ : ∃ fa fd, (Meth mg.K Z.a_Library "__contains__" fa ∧ PySem.W.fnIn mg.K fa = true) ∧ Fun mg.K "__contains__" "Library.__contains__" s_Library___contains__ fa fd
  d_Library___len__ : ∃ fa fd, (Meth mg.K Z.a_Library "__len__" fa ∧ PySem.W.fnIn mg.K fa = true) ∧ Fun mg.K "__len__" "Library.__len__" s_Library___len__ fa fd
  d_Library___iter__ : ∃ fa fd, PySem.W.findIn mg.K (.ref Z.a_Library) "__iter__" = some (some (.ref fa)) ∧ PySem.W.isFn mg.K (.ref fa) = true ∧ Fun mg.K "__iter__" "Library.__iter__" s_Library___iter__ fa fd
  d_Library___eq__ : ∃ fa fd, (Meth mg.K Z.a_Library "__eq__" fa ∧ PySem.W.fnIn mg.K fa = true) ∧ Fun mg.K "__eq__" "Library.__eq__" s_Library___eq__ fa fd
  d_Library___str__ : ∃ fa fd, (Meth mg.K Z.a_Library "__str__" fa ∧ PySem.W.fnIn mg.K fa = true) ∧ Fun mg.K "__str__" "Library.__str__" s_Library___str__ fa fd
  d_require_library : ∃ fa fd, mg.mg "require_library" = some (.ref fa) ∧ Fun mg.K "require_library" "require_library" s_require_library fa fd
  d_atoms_in : ∃ fa fd, mg.mg "atoms_in" = some (.ref fa) ∧ Fun mg.K "atoms_in" "atoms_in" s_atoms_in fa fd
  d_fresh_list : ∃ fa fd, mg.mg "fresh_list" = some (.ref fa) ∧ Fun mg.K "fresh_list" "fresh_list" s_fresh_list fa fd
  d_fresh_names : ∃ fa fd, mg.mg "fresh_names" = some (.ref fa) ∧ Fun mg.K "fresh_names" "fresh_names" s_fresh_names fa fd
  d__law_dice : ∃ fa fd, mg.mg "_law_dice" = some (.ref fa) ∧ Fun mg.K "_law_dice" "_law_dice" s__law_dice fa fd
  d__law_roll : ∃ fa fd, mg.mg "_law_roll" = some (.ref fa) ∧ Fun mg.K "_law_roll" "_law_roll" s__law_roll fa fd
  d__law_pick : ∃ fa fd, mg.mg "_law_pick" = some (.ref fa) ∧ Fun mg.K "_law_pick" "_law_pick" s__law_pick fa fd
  d__law_some : ∃ fa fd, mg.mg "_law_some" = some (.ref fa) ∧ Fun mg.K "_law_some" "_law_some" s__law_some fa fd
  d__law_text : ∃ fa fd, mg.mg "_law_text" = some (.ref fa) ∧ Fun mg.K "_law_text" "_law_text" s__law_text fa fd
  d__law_atoms_of : ∃ fa fd, mg.mg "_law_atoms_of" = some (.ref fa) ∧ Fun mg.K "_law_atoms_of" "_law_atoms_of" s__law_atoms_of fa fd
  d__law_order : ∃ fa fd, mg.mg "_law_order" = some (.ref fa) ∧ Fun mg.K "_law_order" "_law_order" s__law_order fa fd
  d__law_kind : ∃ fa fd, mg.mg "_law_kind" = some (.ref fa) ∧ Fun mg.K "_law_kind" "_law_kind" s__law_kind fa fd
  d__law_made_kind : ∃ fa fd, mg.mg "_law_made_kind" = some (.ref fa) ∧ Fun mg.K "_law_made_kind" "_law_made_kind" s__law_made_kind fa fd
  d__law_library : ∃ fa fd, mg.mg "_law_library" = some (.ref fa) ∧ Fun mg.K "_law_library" "_law_library" s__law_library fa fd
  d__law_known_library : ∃ fa fd, mg.mg "_law_known_library" = some (.ref fa) ∧ Fun mg.K "_law_known_library" "_law_known_library" s__law_known_library fa fd
  d__law_lines : ∃ fa fd, mg.mg "_law_lines" = some (.ref fa) ∧ Fun mg.K "_law_lines" "_law_lines" s__law_lines fa fd
  d__law_made : ∃ fa fd, mg.mg "_law_made" = some (.ref fa) ∧ Fun mg.K "_law_made" "_law_made" s__law_made fa fd
  d__law_library_atoms : ∃ fa fd, mg.mg "_law_library_atoms" = some (.ref fa) ∧ Fun mg.K "_law_library_atoms" "_law_library_atoms" s__law_library_atoms fa fd
  d__law_told_right : ∃ fa fd, mg.mg "_law_told_right" = some (.ref fa) ∧ Fun mg.K "_law_told_right" "_law_told_right" s__law_told_right fa fd
  d__law_right : ∃ fa fd, mg.mg "_law_right" = some (.ref fa) ∧ Fun mg.K "_law_right" "_law_right" s__law_right fa fd
  d_law : ∃ fa fd, mg.mg "law" = some (.ref fa) ∧ Fun mg.K "law" "law" s_law fa fd
  ex_InvalidLibrary : ExcF mg "InvalidLibrary" Z.ax_InvalidLibrary veBm "ValueError.__new__"
  cat_InvalidLibrary : CatF mg (.ref Z.ax_InvalidLibrary) ["InvalidLibrary"] (fun _ => true)
  ex_InvalidType : ExcF mg "InvalidType" Z.ax_InvalidType veBm "ValueError.__new__"
  cat_InvalidType : CatF mg (.ref Z.ax_InvalidType) ["InvalidType"] (fun _ => true)
  ex_InvalidWord : ExcF mg "InvalidWord" Z.ax_InvalidWord veBm "ValueError.__new__"
  cat_InvalidWord : CatF mg (.ref Z.ax_InvalidWord) ["InvalidWord"] (fun _ => true)
end K10
namespace K10
open PySem L2 FP
variable [FP.Tabl]
open KP
theorem lc_letters (z : Str) {Q : List D → Prop} (h : Q (z.cps.toList.map fun c => .bl (decide (c ∈ letters)))) :
    lcD (fun d k => match inD d (.str "abcdefghijklmnopqrstuvwxyz") with | some b => k (some (.bl b)) | none => False) (signsD z) Q := by
  refine lcD_map (fun d => match inD d (.str "abcdefghijklmnopqrstuvwxyz") with | some b => .bl b | none => .non) _ _ (fun d hd k hk => ?_) ?_
  · obtain ⟨c, _, rfl⟩ := List.mem_map.mp hd
    exact hk
  · unfold signsD
    rw [List.map_map]
    exact h
theorem ok_is_word {P : Program} {w : World} {mg : Gm} {base : Heap} {Z : Ads} (A : All mg Z) : DefOk P w mg base 1 "is_word" 1 f_is_word := by
  refine mkDef (N := ["value", "sign"]) (ps := ["value"]) A.d_is_word sc_is_word (fun _ _ _ _ _ _ us hl => by obtain ⟨_, rfl⟩ := FP.ex1 hl; rfl) fun fa cdv Ar outer s H E hr => ⟨_,
    (dss_one (ds_ret (de_and (de_isi (de_var 0) A.n_isinstance A.n_str FP.boot_str FP.boot_isinstance) (de_and (de_chain ok_le ok_le de_int (de_callB ok_len A.n_len FP.boot_len (da_cons (de_var 0) da_nil)) (de_gint A.c_MAX_LETTERS)) (de_one (de_callB ok_all A.n_all FP.boot_all (da_cons (de_lc (own := [("sign", 1)]) (fun _ => sc_is_word.nd) (di_str (de_var 0)) (fun _ => blkOk_by (by kernel_rfl)) (dg_name (i := 1) (fun _ => sc_is_word.nd)) dts_nil (de_cmp ok_in (de_var 1) (de_gstr A.c_LETTERS))) da_nil))))))),  fun ds Q Ex hl hf => ?_⟩
  obtain ⟨d, rfl⟩ := FP.ex1 hl
  obtain ⟨ho, hq⟩ := hf
  change (_ : DTS) _ [Sl.d d, Sl.no]
  obtain ⟨n, hn, hk⟩ := isi_str ho
  cases d with
  | str z =>
    simp only [dSeq, dNext, dIfS, dB, dOp, dVar, dC, dCB, dCons, dNil, dSet, dTok, dRet, dRetN, dCall, rdAdd, rdSub, rdMul, rdMod, rdFdiv, rdPow, rdGt, rdLt, rdLe, rdGe, rdIx, rdInt, rdAbs, rdMax, rdMin, rdLen, dRetTok, dSetO, dListO, dLenO, dIRng1, dRetPop, List.getElem?_cons_zero, List.getElem?_cons_succ, List.set_cons_zero, List.set_cons_succ, bit_dec, bit_t, bit_f, bit_not, blc_bl, Option.some.injEq, exists_eq_left', dAndV, dOrV, dNotV, dChain, dIsi, dLc, dIStr, dIList, dITup, dYes, Tg.put, wipeD, rdIn, rdNotIn, rdEq, rdNe, rdAll, dLst, dTup, dAnd, dOr, dNot, dFor, forD, dAsg, dIf, dJoin, rdList, dNewD, rdStr, List.map_cons, List.map_nil, tyName]
    refine ⟨true, kit_ss, Nat.le_trans ho.1 (by decide), fun h1 => ⟨fun h2 => ⟨signs_ok ho, lc_letters z ?_⟩, fun h2 => ?_⟩, fun h1 => ?_⟩
    · refine ⟨_, blsD_fn _ _, ?_⟩
      have e : isWordD (.str z) = (z.cps.toList.map fun c => decide (c ∈ letters)).all id := by
        show (decide (1 ≤ z.length) && decide (z.length ≤ 8) && z.cps.toList.all fun c => decide (c ∈ letters)) = _
        rw [decide_eq_true (show 1 ≤ z.length by omega), decide_eq_true (show z.length ≤ 8 by omega), List.all_map]
        rfl
      rw [← e]
      exact hq
    · have e : isWordD (.str z) = false := by
        show (decide (1 ≤ z.length) && decide (z.length ≤ 8) && z.cps.toList.all fun c => decide (c ∈ letters)) = _
        rw [decide_eq_false (show ¬ z.length ≤ 8 by omega), Bool.and_false, Bool.false_and]
      rw [← e]
      exact hq
    · have e : isWordD (.str z) = false := by
        show (decide (1 ≤ z.length) && decide (z.length ≤ 8) && z.cps.toList.all fun c => decide (c ∈ letters)) = _
        rw [decide_eq_false (show ¬ 1 ≤ z.length by omega), Bool.false_and, Bool.false_and]
      rw [← e]
      exact hq
  | fz _ => exact ho.elim
  | ins _ _ => exact ho.elim
  | cl _ => exact ho.elim
  | fn _ _ => exact ho.elim
  | dn _ => exact ho.elim
  | _ =>
    cases hn
    exact ⟨_, hk, hq⟩
theorem ok_is_integer {P : Program} {w : World} {mg : Gm} {base : Heap} {Z : Ads} (A : All mg Z) : DefOk P w mg base 1 "is_integer" 1 f_is_int := by
  refine mkDef (N := ["value"]) (ps := ["value"]) A.d_is_integer sc_is_integer (fun _ _ _ _ _ _ us hl => by obtain ⟨_, rfl⟩ := FP.ex1 hl; rfl) fun fa cdv Ar outer s H E hr => ⟨_,
    (dss_one (ds_ret (de_and (de_isi (de_var 0) A.n_isinstance A.n_int FP.boot_int FP.boot_isinstance) (de_and (de_not (de_isi (de_var 0) A.n_isinstance A.n_bool FP.boot_bool FP.boot_isinstance)) (de_one (de_chain ok_lt ok_lt (de_neg (de_gint A.c_LONGEST)) (de_var 0) (de_gint A.c_LONGEST))))))),  fun ds Q Ex hl hf => ?_⟩
  obtain ⟨d, rfl⟩ := FP.ex1 hl
  obtain ⟨ho, hq⟩ := hf
  change (_ : DTS) _ [Sl.d d]
  obtain ⟨n, hn, hi, hb⟩ := isi_ty ho
  cases d with
  | int i =>
    cases hn
    refine ⟨_, hi, _, hb, ?_⟩
    simp only [dSeq, dNext, dIfS, dB, dOp, dVar, dC, dCB, dCons, dNil, dSet, dTok, dRet, dRetN, dCall, rdAdd, rdSub, rdMul, rdMod, rdFdiv, rdPow, rdGt, rdLt, rdLe, rdGe, rdIx, rdInt, rdAbs, rdMax, rdMin, rdLen, dRetTok, dSetO, dListO, dLenO, dIRng1, dRetPop, List.getElem?_cons_zero, List.getElem?_cons_succ, List.set_cons_zero, List.set_cons_succ, bit_dec, bit_t, bit_f, bit_not, blc_bl, Option.some.injEq, exists_eq_left', dAndV, dOrV, dNotV, dChain, dIsi, dLc, dIStr, dIList, dITup, dYes, Tg.put, wipeD, rdIn, rdNotIn, rdEq, rdNe, rdAll, dLst, dTup, dAnd, dOr, dNot, dFor, forD, dAsg, dIf, dJoin, rdList, dNewD, rdStr, List.map_cons, List.map_nil, dNeg, isBlT, isIntT, Bool.not_false]
    have e : isIntD (.int i) = (decide (-(10 ^ 60) < i) && decide (i < 10 ^ 60)) := rfl
    rw [e] at hq
    refine ⟨fun h1 => ?_, fun h1 => ?_⟩
    · rw [decide_eq_true (show -(10 ^ 60) < i from h1), Bool.true_and] at hq
      exact hq
    · rw [decide_eq_false (show ¬ -(10 ^ 60) < i from h1), Bool.false_and] at hq
      exact hq
  | bl b =>
    cases hn
    exact ⟨_, hi, _, hb, hq⟩
  | fz _ => exact ho.elim
  | ins _ _ => exact ho.elim
  | cl _ => exact ho.elim
  | fn _ _ => exact ho.elim
  | dn _ => exact ho.elim
  | _ =>
    cases hn
    exact ⟨_, hi, hq⟩
theorem ok_is_within {P : Program} {w : World} {mg : Gm} {base : Heap} {Z : Ads} (A : All mg Z) (G_is_integer : DefOk P w mg base 1 "is_integer" 1 f_is_int) : DefOk P w mg base 2 "is_within" 3 f_within := by
  refine mkDef (N := ["value", "least", "most"]) (ps := ["value", "least", "most"]) A.d_is_within sc_is_within (fun _ _ _ _ _ _ us hl => by obtain ⟨_, _, _, rfl⟩ := FP.ex3 hl; rfl) fun fa cdv Ar outer s H E hr => ⟨_,
    (dss_one (ds_ret (de_and (de_call G_is_integer (fun _ => hr.mono (by omega)) (fun _ => pas (takes_of rfl rfl rfl rfl)) (da_cons (de_var 0) da_nil)) (de_one (de_chain ok_le ok_le (de_var 1) (de_var 0) (de_var 2)))))),  fun ds Q Ex hl hf => ?_⟩
  obtain ⟨d, d1q, d2q, rfl⟩ := FP.ex3 hl
  obtain ⟨a, rfl⟩ : ∃ w0, d1q = .int w0 := by cases d1q <;> first | exact ⟨_, rfl⟩ | exact False.elim hf
  obtain ⟨b, rfl⟩ : ∃ w0, d2q = .int w0 := by cases d2q <;> first | exact ⟨_, rfl⟩ | exact False.elim hf
  obtain ⟨ho, hq⟩ := hf
  change (_ : DTS) _ [Sl.d d, Sl.d (.int a), Sl.d (.int b)]
  refine ⟨rfl, ho, ?_⟩
  cases d with
  | int i =>
    have e : inRow (.int i) a b = (isIntD (.int i) && (decide (a ≤ i) && decide (i ≤ b))) := rfl
    rw [e] at hq
    cases hi : isIntD (.int i) with
    | false => rw [hi] at hq; exact hq
    | true =>
      rw [hi, Bool.true_and] at hq
      show bit (decide (a ≤ i)) (Q (.bl (decide (i ≤ b)))) (Q (.bl false))
      cases ha : decide (a ≤ i) with
      | false => rw [ha] at hq; exact hq
      | true => rw [ha, Bool.true_and] at hq; exact hq
  | _ => exact hq
theorem ok_order_of {P : Program} {w : World} {mg : Gm} {base : Heap} {Z : Ads} (A : All mg Z) : DefOk P w mg base 1 "order_of" 1 f_order := by
  refine mkDef (N := ["inputs", "one"]) (ps := ["inputs"]) A.d_order_of sc_order_of (fun _ _ _ _ _ _ us hl => by obtain ⟨_, rfl⟩ := FP.ex1 hl; rfl) fun fa cdv Ar outer s H E hr => ⟨_,
    (dss_one (ds_ret (de_if (dt_cmp (ok_neT0 (fun _ => hr.r.units)) (de_var 0) (de_tup da_nil)) (de_op ok_add de_int (de_callB ok_maxL A.n_max FP.boot_max (da_cons (de_lc (own := [("one", 1)]) (fun _ => sc_order_of.nd) (di_tup (de_var 0)) (fun _ => blkOk_by (by kernel_rfl)) (dg_name (i := 1) (fun _ => sc_order_of.nd)) dts_nil (de_fld A.kc_Type A.na_Type_own_order (de_var 1))) da_nil))) de_int))),  fun ds Q Ex hl hf => ?_⟩
  obtain ⟨d0q, rfl⟩ := FP.ex1 hl
  obtain ⟨_, rfl⟩ : ∃ w0, d0q = .tup w0 := by cases d0q <;> first | exact ⟨_, rfl⟩ | exact False.elim hf
  obtain ⟨ks, rfl, hl, hq⟩ := hf
  change (_ : DTS) _ [Sl.d (.tup (ks.map typeD)), Sl.no]
  refine ⟨line rfl, ?_⟩
  show bit (!(ks.map typeD).isEmpty) _ _
  cases ks with
  | nil => exact hq
  | cons k0 r =>
    have hs : ((k0 :: r).map typeD).length ≤ sizeLine := by rw [List.length_map]; exact size_small (by omega)
    refine ⟨hs, lc_of typeD (fun k => .int (ord k)) (k0 :: r) _ (fun k _ K hK => ⟨_, rfl, fld (lk_order k) hK⟩) ⟨(k0 :: r).map fun k => (ord k : Int), ?_, ?_, fun m hm hy => ?_⟩⟩
    · have e := intsD_map ((k0 :: r).map fun k => (ord k : Int))
      rw [List.map_map] at e
      exact e
    · simp
    · have e := ordL_max hm hy
      show Q (.int (1 + m))
      rw [e]
      exact hq
theorem ok_input_text {P : Program} {w : World} {mg : Gm} {base : Heap} {Z : Ads} (A : All mg Z) : DefOk P w mg base 1 "input_text" 1 f_intext := by
  refine mkDef (N := ["wanted"]) (ps := ["wanted"]) A.d_input_text sc_input_text (fun _ _ _ _ _ _ us hl => by obtain ⟨_, rfl⟩ := FP.ex1 hl; rfl) fun fa cdv Ar outer s H E hr => ⟨_,
    (dss_one (ds_ret (de_if (dt_cmp (ok_eqT0 (fun _ => hr.r.units)) (de_fld A.kc_Type A.na_Type_own_args (de_var 0)) (de_tup da_nil)) (de_fld A.kc_Type A.na_Type_own_text (de_var 0)) (de_joined (dj_cons de_str (dj_cons (de_fmt (de_fld A.kc_Type A.na_Type_own_text (de_var 0))) (dj_cons de_str dj_nil))))))),  fun ds Q Ex hl hf => ?_⟩
  obtain ⟨d0q, rfl⟩ := FP.ex1 hl
  obtain ⟨k, rfl, hl, hq⟩ := hf
  change (_ : DTS) _ [Sl.d (typeD k)]
  refine fld (lk_args k) ?_
  refine ⟨line rfl, ?_⟩
  show bit (k.as.map typeD).isEmpty _ _
  unfold intext at hq
  have em : (k.as.map typeD).isEmpty = k.as.isEmpty := by cases k.as <;> rfl
  rw [em]
  cases he : k.as.isEmpty with
  | true =>
    rw [he] at hq
    exact fld (lk_text k) hq
  | false =>
    rw [he] at hq
    have e1 : ("(" : Str).length = 1 := rfl
    have e2 : (")" : Str).length = 1 := rfl
    refine ⟨?_, fld (lk_text k) ⟨size_small hl, ?_, ?_, ?_⟩⟩
    · rw [app_empty]; decide
    · rw [app_empty, len_app]; exact Nat.le_trans (show _ ≤ 1002 by omega) (by decide)
    · rw [app_empty, len_app, len_app]; exact Nat.le_trans (show _ ≤ 1002 by omega) (by decide)
    · rw [app_empty]; exact hq
theorem ok_Type___init__ {P : Program} {w : World} {mg : Gm} {base : Heap} {Z : Ads} (A : All mg Z) (G_input_text : DefOk P w mg base 1 "input_text" 1 f_intext) (G_is_word : DefOk P w mg base 1 "is_word" 1 f_is_word) (G_order_of : DefOk P w mg base 1 "order_of" 1 f_order) : InitOk P w mg base 2 "Type" Z.a_Type 2 f_initX := by
  refine mkInit (N := ["self", "inputs", "atom", "one", "place"]) (ps := ["self", "inputs", "atom"]) A.kc_Type A.d_Type___init__ sc_Type___init__ rfl (fun _ _ _ _ _ _ us hl => by obtain ⟨_, _, _, rfl⟩ := FP.ex3 hl; rfl) fun fa cdv Ar outer s H E hr => ⟨_,
    (dss_cons (ds_if (dt_w (dw_or (dt_not (dt_val (de_isi (de_var 1) A.n_isinstance A.n_tuple FP.boot_tuple FP.boot_isinstance))) (dw_or1 (dt_not (dt_val (de_callB ok_all A.n_all FP.boot_all (da_cons (de_lc (own := [("one", 3)]) (fun _ => sc_Type___init__.nd) (di_tup (de_var 1)) (fun _ => blkOk_by (by kernel_rfl)) (dg_name (i := 3) (fun _ => sc_Type___init__.nd)) dts_nil (de_isiO (de_var 3) A.n_isinstance A.kc_Type.nm A.isi_Type FP.boot_isinstance)) da_nil)))))))
    (dss_one (ds_raise veB A.ex_InvalidType (fun _ => takes_of rfl rfl rfl rfl)))
    dss_nil)
    (dss_cons (ds_if (dt_not (dt_val (de_call G_is_word (fun _ => hr.mono (by omega)) (fun _ => pas (takes_of rfl rfl rfl rfl)) (da_cons (de_var 2) da_nil))))
    (dss_one (ds_raise veB A.ex_InvalidWord (fun _ => takes_of rfl rfl rfl rfl)))
    dss_nil)
    (dss_cons (ds_setF 0 A.kc_Type A.na_Type_own_args (de_var 1))
    (dss_cons (ds_setF 0 A.kc_Type A.na_Type_own_atom (de_var 2))
    (dss_cons (ds_setF 0 A.kc_Type A.na_Type_own_places (de_tup (da_star (de_lc2 (own := [("one", 3), ("place", 4)]) (vs1 := [4]) (fun _ => sc_Type___init__.nd) (di_tup (de_var 1)) (fun _ => blkOk_by (by kernel_rfl)) (dg_name (i := 3) (fun _ => sc_Type___init__.nd)) dts_nil (di_tup (de_fld A.kc_Type A.na_Type_own_places (de_var 3))) (dg_name (i := 4) (fun _ => sc_Type___init__.nd)) dts_nil (de_var 4)) (da_cons (de_var 2) da_nil))))
    (dss_cons (ds_setF 0 A.kc_Type A.na_Type_own_order (de_call G_order_of (fun _ => hr.mono (by omega)) (fun _ => pas (takes_of rfl rfl rfl rfl)) (da_cons (de_var 1) da_nil)))
    (dss_cons (ds_if (dt_w (dw_or (dt_cmp ok_gt (de_callB ok_len A.n_len FP.boot_len (da_cons (de_fldO 0 A.kc_Type A.na_Type_own_places) da_nil)) (de_gint A.c_MAX_PLACES)) (dw_or1 (dt_cmp ok_gt (de_fldO 0 A.kc_Type A.na_Type_own_order) (de_gint A.c_MAX_ORDER)))))
    (dss_one (ds_raise veB A.ex_InvalidType (fun _ => takes_of rfl rfl rfl rfl)))
    dss_nil)
    (dss_one (ds_setF 0 A.kc_Type A.na_Type_own_text (de_join (de_gstr A.c_ARROW) (de_lst (da_star (de_lc (own := [("one", 3)]) (fun _ => sc_Type___init__.nd) (di_tup (de_var 1)) (fun _ => blkOk_by (by kernel_rfl)) (dg_name (i := 3) (fun _ => sc_Type___init__.nd)) dts_nil (de_call G_input_text (fun _ => hr.mono (by omega)) (fun _ => pas takes0) (da_cons (de_var 3) da_nil))) (da_cons (de_var 2) da_nil))))))))))))),  fun x ds Q Ex hl hf => ?_⟩
  obtain ⟨d0q, d1q, rfl⟩ := FP.ex2 hl
  obtain ⟨_, rfl⟩ : ∃ w0, d0q = .tup w0 := by cases d0q <;> first | exact ⟨_, rfl⟩ | exact False.elim hf
  obtain ⟨a, rfl⟩ : ∃ w0, d1q = .str w0 := by cases d1q <;> first | exact ⟨_, rfl⟩ | exact False.elim hf
  obtain ⟨ks, rfl, hgk, hlen, hwa, hq, hx⟩ := hf
  change (_ : DTS) _ [Sl.ob "Type" x [], Sl.d (.tup (ks.map typeD)), Sl.d (.str a), Sl.no, Sl.no]
  have hcap := placesL_cap hgk
  have hks : (ks.map typeD).length ≤ sizeLine := by rw [List.length_map]; exact size_small (by omega)
  refine ⟨true, kit_tt, hks, lc_of typeD (fun _ => .bl true) ks _ (fun k _ K hK => ⟨_, rfl, isT (Q := fun d => K (some d)) hK⟩) ⟨_, blsD_fn (fun _ => true) ks, ?_⟩⟩
  have ea : (ks.map fun _ => true).all id = true := by simp
  rw [ea]
  refine ⟨rfl, word_ok hwa, ?_⟩
  have ew : isWordD (.str a) = true := hwa
  rw [ew]
  refine ⟨rfl, by decide, rfl, by show 1 < 1000; decide, ?_⟩
  have ep : (ks.map fun k => (places k).map D.str).flatten ++ [D.str a] = (places (.mk ks a)).map .str := by
    rw [places, List.map_append, placesL_map, List.map_flatten, List.map_map]
    rfl
  have lp : ((ks.map fun k => (places k).map D.str).flatten ++ [D.str a]).length = (places (.mk ks a)).length := by rw [ep, List.length_map]
  have lpc : (places (.mk ks a)).length ≤ 901 := by
    rw [places, List.length_append]
    show _ + 1 ≤ _
    omega
  refine ⟨by show _ ≤ 4000; rw [List.length_map]; omega, lcS_of typeD (fun k => (places k).map .str) ks _ (fun k hk K hK => ⟨_, rfl, fld (lk_places k) ⟨by show _ ≤ 4000; rw [List.length_map]; have := (hgk k hk).p; omega, ?_⟩⟩) ?_⟩
  · exact lc_of D.str D.str (places k) _ (fun z _ K hK => ⟨_, rfl, hK⟩) hK
  refine ⟨by rw [lp]; exact size_small (by omega), rfl, by show 2 < 1000; decide, rfl, ks, rfl, by omega, rfl, by show 3 < 1000; decide, ?_⟩
  refine ⟨rfl, _, rfl, ?_⟩
  show bit (decide ((((ks.map fun k => (places k).map D.str).flatten ++ [D.str a]).length : Int) > 15)) _ _
  by_cases h15 : (places (.mk ks a)).length ≤ 15
  case neg =>
    rw [decide_eq_true (by omega)]
    exact hx fun g => h15 g.p
  rw [decide_eq_false (by omega)]
  refine ⟨rfl, _, rfl, ?_⟩
  show bit (decide (((ordL ks : Nat) : Int) > 4)) _ _
  by_cases h4 : ordL ks ≤ 4
  case neg =>
    rw [decide_eq_true (by omega)]
    exact hx fun g => h4 g.o
  rw [decide_eq_false (by omega)]
  have hg : Good (.mk ks a) := by
    by_cases hn : Good (.mk ks a)
    · exact hn
    · rcases not_good hgk hwa hn with q | q
      · omega
      · exact absurd q (Nat.not_lt.mpr h4)
  replace hq := hq hg
  have hf := hg.few
  refine ⟨hks, lc_of typeD (fun k => .str (intext k)) ks _ (fun k hk K hK => ⟨_, rfl, rfl, k, rfl, Nat.le_trans (hg.kid hk).text_len (by decide), hK⟩) ?_⟩
  have hz : (ks.map fun k => D.str (intext k)) ++ [.str a] = (texts ks ++ [a]).map .str := by
    rw [texts_map, List.map_append, List.map_map]
    rfl
  have ht : ((texts ks ++ [a]).map (·.length)).sum + (texts ks ++ [a]).length * 4 ≤ 1000 := by
    have h1 := texts_len ks fun z hz => (word_len (hg.w z (by rw [places]; exact List.mem_append_left _ hz))).2
    have h2 := (word_len hg.atom).2
    rw [List.map_append, List.sum_append, List.length_append]
    have e1 : ([a].map (·.length)).sum = a.length := by simp
    have e2 : [a].length = 1 := rfl
    rw [e1, e2]
    omega
  refine ⟨?_, _, by rw [hz]; exact strsD_map _, Nat.le_trans ht (by decide), rfl, by show 4 < 1000; decide, _, _, rfl, ?_⟩
  · rw [List.length_append, List.length_map]
    exact size_small (by show ks.length + 1 ≤ _; omega)
  · have e : ([("own_args", .tup (ks.map typeD)), ("own_atom", .str a), ("own_places", .tup ((ks.map fun k => (places k).map D.str).flatten ++ [D.str a])), ("own_order", .int (ordL ks)), ("own_text", .str (Txt.join " -> " (texts ks ++ [a])))] : List (Str × D)) = flds (.mk ks a) := by
      rw [ep]
      unfold flds
      rw [text, ord]
      rfl
    have hq2 := hq
    rw [← e] at hq2
    exact hq2
theorem initK {P : Program} {w : World} {mg : Gm} {base : Heap} {C : Addr} (G : InitOk P w mg base 2 "Type" C 2 f_initX) : InitOk P w mg base 2 "Type" C 2 f_init := by
  refine G.imp fun ds Q E h => ?_
  match ds, h with
  | [.tup _, .str a], ⟨ks, rfl, hg, hq⟩ => exact ⟨ks, rfl, fun k hk => hg.kid hk, by have := hg.few; omega, hg.atom, fun _ => hq, fun n => absurd hg n⟩
end K10
namespace K10
open PySem L2 FP
variable [FP.Tabl]
open KP
theorem nv_signed_atoms {P : Program} {w : World} {mg : Gm} {base : Heap} {Z : Ads} {k : Nat} (A : All mg Z) : DefOk P w mg base k "signed_atoms" 2 (f_signed 0) :=
  (DefOk.never (ps := ["wanted", "is_positive"]) A.d_signed_atoms (fun _ _ _ _ _ _ us hl => by obtain ⟨_, _, rfl⟩ := FP.ex2 hl; rfl)).mono (Nat.le_refl _) nope_signed
theorem ok_signed_atoms {P : Program} {w : World} {mg : Gm} {base : Heap} {Z : Ads} {d : Nat} (A : All mg Z) (G_signed_atoms : DefOk P w mg base (d + 1) "signed_atoms" 2 (f_signed d)) : DefOk P w mg base (d + 2) "signed_atoms" 2 (f_signed (d + 1)) := by
  refine mkDef (N := ["wanted", "is_positive", "found", "one"]) (ps := ["wanted", "is_positive"]) A.d_signed_atoms sc_signed_atoms (fun _ _ _ _ _ _ us hl => by obtain ⟨_, _, rfl⟩ := FP.ex2 hl; rfl) fun fa cdv Ar outer s H E hr => ⟨_,
    (dss_cons (ds_set (i := 2) (de_if (dt_val (de_var 1)) (de_lst (da_cons (de_fld A.kc_Type A.na_Type_own_atom (de_var 0)) da_nil)) (de_lst da_nil)) (fun _ => sc_signed_atoms.nd))
    (dss_cons (ds_for (di_tup (de_fld A.kc_Type A.na_Type_own_args (de_var 0))) (dg_name (i := 3) (fun _ => sc_signed_atoms.nd))
    (dss_one (ds_set (i := 2) (de_op ok_add (de_var 2) (de_call G_signed_atoms (fun _ => hr.mono (by omega)) (fun _ => pas (takes_of rfl rfl rfl rfl)) (da_cons (de_var 3) (da_cons (de_not (de_var 1)) da_nil)))) (fun _ => sc_signed_atoms.nd))) (fun _ => passes_of rfl))
    (dss_one (ds_ret (de_var 2))))),  fun ds Q Ex hl hf => ?_⟩
  obtain ⟨d0q, d1q, rfl⟩ := FP.ex2 hl
  obtain ⟨b, rfl⟩ : ∃ w0, d1q = .bl w0 := by cases d1q <;> first | exact ⟨_, rfl⟩ | exact False.elim hf
  obtain ⟨k, rfl, hg, ho, hq⟩ := hf
  change (_ : DTS) _ [Sl.d (typeD k), Sl.d (.bl b), Sl.no, Sl.no]
  cases k with
  | mk as a =>
  refine seq_by (fun ρ => ∃ zs : List Str, ρ = [Sl.d (typeD (.mk as a)), Sl.d (.bl b), Sl.d (.lst (zs.map .str)), Sl.no] ∧ zs.length ≤ 1 ∧ zs ++ signedL as (!b) = signed (.mk as a) b) (fun nx hnx => ?_) ?_
  · cases b with
    | true => exact fld (lk_atom (.mk as a)) ⟨line rfl, hnx _ ⟨[a], rfl, Nat.le_refl _, by rw [signed]; rfl⟩⟩
    | false => exact ⟨line rfl, hnx _ ⟨[], rfl, Nat.zero_le _, by rw [signed]; rfl⟩⟩
  rintro ρ ⟨zs, rfl, hz, ez⟩
  refine fld (lk_args (.mk as a)) ?_
  refine for_of typeD (fun pre ρ => ∃ o, ρ = [Sl.d (typeD (.mk as a)), Sl.d (.bl b), Sl.d (.lst ((zs ++ signedL pre (!b)).map .str)), o] ∧ (placesL pre).length ≤ 14) as [] _ ⟨_, by rw [signedL, List.append_nil], by rw [placesL]; exact Nat.zero_le _⟩ ?_ ?_
  · rintro j pre post eq ρ K ⟨o, rfl, h2⟩ hK
    have hj := mem_mid eq
    have hlt := ord_lt hj
    have hoo : ordL as < d + 1 := ho
    have hl1 := signed_len j (!b)
    have hl2 := signedL_len pre (!b)
    have hpl : (placesL pre).length + (places j).length ≤ 14 := by
      have h3 := hg.few.1
      rw [List.nil_append] at eq
      rw [eq, placesL_app, List.length_append, placesL, List.length_append] at h3
      omega
    refine ⟨_, rfl, rfl, j, rfl, hg.kid hj, by omega, ?_, hK _ ⟨Sl.d (typeD j), ?_, ?_⟩⟩
    · rw [List.length_map, List.length_map, List.length_append]
      exact size_small (by omega)
    · rw [signedL_app, signedL_one]
      simp [List.map_append, List.append_assoc]
    · rw [placesL_app, placesL_one, List.length_append]; omega
  · rintro ρ ⟨o, rfl, h2⟩
    rw [← ez] at hq
    exact hq
theorem rs_signed_atoms {P : Program} {w : World} {mg : Gm} {base : Heap} {Z : Ads} (A : All mg Z) : ∀ d : Nat, DefOk P w mg base (d + 1) "signed_atoms" 2 (f_signed d)
  | 0 => nv_signed_atoms A
  | d + 1 => ok_signed_atoms A (rs_signed_atoms A d)
theorem ok_Type_text {P : Program} {w : World} {mg : Gm} {base : Heap} {Z : Ads} (A : All mg Z) : PropOk P w mg base 1 Z.a_Type "text" (f_tell d_text) := by
  refine mkProp (N := ["self"]) (ps := ["self"]) A.d_Type_text sc_Type_text rfl (fun _ _ _ _ _ _ us hl => by obtain ⟨_, rfl⟩ := FP.ex1 hl; rfl) fun fa cdv Ar outer s H E hr => ⟨_,
    (dss_one (ds_ret (de_fld A.kc_Type A.na_Type_own_text (de_var 0)))),  fun ds Q Ex hl hf => ?_⟩
  obtain ⟨d0q, rfl⟩ := FP.ex1 hl
  obtain ⟨k, rfl, hg, hq⟩ := hf
  change (_ : DTS) _ [Sl.d (typeD k)]
  exact fld (lk_text k) hq
theorem ok_Type___str__ {P : Program} {w : World} {mg : Gm} {base : Heap} {Z : Ads} (A : All mg Z) : SpecOk P w mg base 1 Z.a_Type "__str__" 1 (f_tell d_text) := by
  refine mkSpec (N := ["self"]) (ps := ["self"]) A.d_Type___str__ sc_Type___str__ (fun _ _ _ _ _ _ us hl => by obtain ⟨_, rfl⟩ := FP.ex1 hl; rfl) fun fa cdv Ar outer s H E hr => ⟨_,
    (dss_one (ds_ret (de_callTy ok_str A.n_str FP.boot_str (da_cons (de_fld A.kc_Type A.na_Type_own_text (de_var 0)) da_nil)))),  fun ds Q Ex hl hf => ?_⟩
  obtain ⟨d0q, rfl⟩ := FP.ex1 hl
  obtain ⟨k, rfl, hg, hq⟩ := hf
  change (_ : DTS) _ [Sl.d (typeD k)]
  exact fld (lk_text k) hq
theorem ok_Type_atoms {P : Program} {w : World} {mg : Gm} {base : Heap} {Z : Ads} (A : All mg Z) (G_signed_atoms : DefOk P w mg base 6 "signed_atoms" 2 (f_signed 5)) : PropOk P w mg base 7 Z.a_Type "atoms" (f_tell d_atoms) := by
  refine mkProp (N := ["self"]) (ps := ["self"]) A.d_Type_atoms sc_Type_atoms rfl (fun _ _ _ _ _ _ us hl => by obtain ⟨_, rfl⟩ := FP.ex1 hl; rfl) fun fa cdv Ar outer s H E hr => ⟨_,
    (dss_one (ds_ret (de_callTy ok_tuple A.n_tuple FP.boot_tuple (da_cons (de_sortSet (de_op ok_add (de_call G_signed_atoms (fun _ => hr.mono (by omega)) (fun _ => pas (takes_of rfl rfl rfl rfl)) (da_cons (de_var 0) (da_cons de_bl da_nil))) (de_call G_signed_atoms (fun _ => hr.mono (by omega)) (fun _ => pas (takes_of rfl rfl rfl rfl)) (da_cons (de_var 0) (da_cons de_bl da_nil)))) A.n_sorted A.n_set FP.boot_sorted FP.boot_set) da_nil)))),  fun ds Q Ex hl hf => ?_⟩
  obtain ⟨d0q, rfl⟩ := FP.ex1 hl
  obtain ⟨k, rfl, hg, hq⟩ := hf
  change (_ : DTS) _ [Sl.d (typeD k)]
  have hl := signed_len k true
  have hl2 := signed_len k false
  have hp := hg.p
  refine ⟨rfl, k, rfl, hg, Nat.lt_succ_of_le hg.o, ⟨rfl, k, rfl, hg, Nat.lt_succ_of_le hg.o, ?_, _, ?_, ?_, hq⟩⟩
  · rw [List.length_map, List.length_map]; exact size_small (by omega)
  · rw [← List.map_append]; exact strsD_map _
  · rw [List.length_append]; omega
theorem ok_Type_plain {P : Program} {w : World} {mg : Gm} {base : Heap} {Z : Ads} (A : All mg Z) (G_Type___init__ : InitOk P w mg base 2 "Type" Z.a_Type 2 f_init) : CMethOk P w mg base 4 Z.a_Type "plain" 2 f_plain := by
  refine mkCMeth (N := ["cls", "atom"]) (ps := ["cls", "atom"]) A.d_Type_plain sc_Type_plain (fun _ _ _ _ _ _ us hl => by obtain ⟨_, _, rfl⟩ := FP.ex2 hl; rfl) fun fa cdv Ar outer s H E hr => ⟨_,
    (dss_one (ds_ret (de_makeV 0 A.kc_Type G_Type___init__ (fun _ => hr.mono (by omega)) (fun _ => pas (takes_of rfl rfl rfl rfl)) (da_cons (de_tup da_nil) (da_cons (de_var 1) da_nil))))),  fun ds Q Ex hl hf => ?_⟩
  obtain ⟨d0q, d1q, rfl⟩ := FP.ex2 hl
  obtain ⟨_, rfl⟩ : ∃ w0, d0q = .cl w0 := by cases d0q <;> first | exact ⟨_, rfl⟩ | exact False.elim hf
  obtain ⟨a, rfl⟩ : ∃ w0, d1q = .str w0 := by cases d1q <;> first | exact ⟨_, rfl⟩ | exact False.elim hf
  obtain ⟨rfl, hw, hq⟩ := hf
  change (_ : DTS) _ [Sl.d (.cl "Type"), Sl.d (.str a)]
  rw [typeD_eq] at hq
  exact ⟨rfl, line rfl, rfl, [], rfl, Good.leaf hw, hq⟩
end K10
namespace K10
open PySem L2 FP
variable [FP.Tabl]
open KP
theorem ok_is_parts {P : Program} {w : World} {mg : Gm} {base : Heap} {Z : Ads} (A : All mg Z) (G_is_word : DefOk P w mg base 1 "is_word" 1 f_is_word) : DefOk P w mg base 2 "is_parts" 1 f_isparts := by
  refine mkDef (N := ["value", "wanted", "name"]) (ps := ["value"]) A.d_is_parts sc_is_parts (fun _ _ _ _ _ _ us hl => by obtain ⟨_, rfl⟩ := FP.ex1 hl; rfl) fun fa cdv Ar outer s H E hr => ⟨_,
    (dss_cons (ds_if (dt_w (dw_or (dt_not (dt_val (de_isi (de_var 0) A.n_isinstance A.n_dict FP.boot_dict FP.boot_isinstance))) (dw_or (dt_cmp ok_gt (de_callB ok_len A.n_len FP.boot_len (da_cons (de_var 0) da_nil)) (de_gint A.c_MAX_PARTS)) (dw_or1 (dt_not (dt_val (de_callB ok_all A.n_all FP.boot_all (da_cons (de_lc (own := [("name", 2)]) (fun _ => sc_is_parts.nd) (di_keys (de_var 0)) (fun _ => blkOk_by (by kernel_rfl)) (dg_name (i := 2) (fun _ => sc_is_parts.nd)) dts_nil (de_call G_is_word (fun _ => hr.mono (by omega)) (fun _ => pas takes0) (da_cons (de_var 2) da_nil))) da_nil))))))))
    (dss_one (ds_ret de_bl))
    dss_nil)
    (dss_one (ds_ret (de_callB ok_all A.n_all FP.boot_all (da_cons (de_lc (own := [("wanted", 1)]) (fun _ => sc_is_parts.nd) (di_vals (de_var 0)) (fun _ => blkOk_by (by kernel_rfl)) (dg_name (i := 1) (fun _ => sc_is_parts.nd)) dts_nil (de_isiO (de_var 1) A.n_isinstance A.kc_Type.nm A.isi_Type FP.boot_isinstance)) da_nil))))),  fun ds Q Ex hl hf => ?_⟩
  obtain ⟨d0q, rfl⟩ := FP.ex1 hl
  obtain ⟨_, rfl⟩ : ∃ w0, d0q = .dct w0 := by cases d0q <;> first | exact ⟨_, rfl⟩ | exact False.elim hf
  obtain ⟨L, rfl, hg, hn, hq⟩ := hf
  have e0 : startD 3 [.dct (rowsL typeD L)] = [Sl.d (.dct (rowsL typeD L)), Sl.no, Sl.no] := rfl
  have hnN : (["value", "wanted", "name"] : List Str).length = 3 := rfl
  rw [hnN, e0]
  clear e0 hnN
  have hkl : (keysL L).length = L.length := List.length_map _
  have e8 : ∀ b, decide (8 < L.length) = b → decide (((rowsL typeD L).length : Int) > 8) = b := fun b h => by
    rw [← h, len_rows]
    by_cases h8 : 8 < L.length
    · rw [decide_eq_true h8]; exact decide_eq_true (by omega)
    · rw [decide_eq_false h8]; exact decide_eq_false (by omega)
  have evD : Ev (dIsi "dict" (dVar 0)) [Sl.d (.dct (rowsL typeD L)), Sl.no, Sl.no] (.bl true) := fun Q E q => ⟨true, kit_dd, q⟩
  have evL : Ev (dOp rdGt (dCB rdLen (dCons (dVar 0) dNil)) (dC (.int 8))) [Sl.d (.dct (rowsL typeD L)), Sl.no, Sl.no] (.bl (decide (((rowsL typeD L).length : Int) > 8))) := fun Q E q => q
  by_cases h8 : 8 < L.length
  · refine seq_ifT (or_f (not_v (b_v evD)) (or_t (b_v (evL.eq (by rw [e8 true (decide_eq_true h8)]))))) ?_
    rw [decide_eq_false (by omega)] at hq
    exact hq
  · refine seq_ifF (or_f (not_v (b_v evD)) (or_f (b_v (evL.eq (by rw [e8 false (decide_eq_false h8)]))) (not_v (b := true) (b_v fun Q E q => ?_)))) ?_
    · show (fun ds : List D => ds.length ≤ sizeLine ∧ _) ((rowsL typeD L).map fun kv => kD kv.1)
      rw [keys_rows]
      refine ⟨by rw [List.length_map]; exact size_small (by omega), lc_of D.str (fun _ => .bl true) (keysL L) _ (fun z hz K hK => ⟨_, rfl, ?_⟩) ⟨_, blsD_fn (fun _ => true) (keysL L), ?_⟩⟩
      · obtain ⟨p, hp, rfl⟩ := List.mem_map.mp hz
        have hw : isWordS p.1 = true := hg.w p hp
        refine ⟨rfl, word_ok hw, ?_⟩
        have ew : isWordD (.str p.1) = true := hw
        rw [ew]
        exact hK
      · have ea : ((keysL L).map fun _ => true).all id = true := by simp
        rw [ea]
        exact q
    refine ret_v (.bl true) (fun Q E q => ?_) ?_
    · show (fun ds : List D => ds.length ≤ sizeLine ∧ _) ((rowsL typeD L).map (·.2))
      rw [vals_rows]
      refine ⟨by rw [List.length_map]; exact size_small (by omega), lc_of (fun p : Str × Kd => typeD p.2) (fun _ => .bl true) L _ (fun p _ K hK => ⟨_, rfl, isT (Q := fun d => K (some d)) hK⟩) ⟨_, blsD_fn (fun _ => true) L, ?_⟩⟩
      have ea : (L.map fun _ => true).all id = true := by simp
      rw [ea]
      exact q
    · rw [decide_eq_true (by omega)] at hq
      exact hq
theorem ok_ascending_rows {P : Program} {w : World} {mg : Gm} {base : Heap} {Z : Ads} (A : All mg Z) : DefOk P w mg base 1 "ascending_rows" 1 f_asc := by
  refine mkDef (N := ["rows", "word"]) (ps := ["rows"]) A.d_ascending_rows sc_ascending_rows (fun _ _ _ _ _ _ us hl => by obtain ⟨_, rfl⟩ := FP.ex1 hl; rfl) fun fa cdv Ar outer s H E hr => ⟨_,
    (dss_one (ds_ret (de_dc (own := [("word", 1)]) (fun _ => sc_ascending_rows.nd) (di_list (de_callB ok_sorted A.n_sorted FP.boot_sorted (da_cons (de_callTy ok_listD A.n_list FP.boot_list (da_cons (de_var 0) da_nil)) da_nil))) (fun _ => blkOk_by (by kernel_rfl)) (dg_name (i := 1) (fun _ => sc_ascending_rows.nd)) dts_nil (de_var 1) (de_dget (k := 0) (fun _ => hr.mono (by omega)) (de_var 0) (de_var 1))))),  fun ds Q Ex hl hf => ?_⟩
  obtain ⟨d0q, rfl⟩ := FP.ex1 hl
  obtain ⟨_, rfl⟩ : ∃ w0, d0q = .dct w0 := by cases d0q <;> first | exact ⟨_, rfl⟩ | exact False.elim hf
  obtain ⟨L, rfl, hnd, hn, hq⟩ := hf
  have e0 : startD 2 [.dct (rowsL typeD L)] = [Sl.d (.dct (rowsL typeD L)), Sl.no] := rfl
  have hnN : (["rows", "word"] : List Str).length = 2 := rfl
  rw [hnN, e0]
  clear e0 hnN
  have hkl : (keysL L).length = L.length := List.length_map _
  refine ret_v (libT (sortL L)) (fun Q E q => ?_) hq
  refine ⟨keysL L, by rw [keys_rows]; exact strsD_map _, ?_, dc_of D.str (fun z => ((.inr z : Key), typeD (kindAt L z))) (sortS (keysL L)) [] _ (fun z hz K hK => ⟨_, rfl, .inr z, typeD (kindAt L z), rfl, ?_, .inr z, rfl, hK⟩) ?_⟩
  · rw [List.length_map, (sortS_perm _).length_eq]
    exact size_small (by omega)
  · rw [val_rows]
    obtain ⟨k, hk, _⟩ := getL_in ((sortS_perm _).mem_iff.mp hz)
    rw [hk, kindAt_of hk]
    rfl
  · rw [fold_pick (nd_sort hnd)]
    exact q
theorem ok_Library___init__ {P : Program} {w : World} {mg : Gm} {base : Heap} {Z : Ads} (A : All mg Z) (G_Type___str__ : SpecOk P w mg base 1 Z.a_Type "__str__" 1 (f_tell d_text)) (G_ascending_rows : DefOk P w mg base 1 "ascending_rows" 1 f_asc) (G_is_parts : DefOk P w mg base 2 "is_parts" 1 f_isparts) : InitDf P w mg base 4 "Library" Z.a_Library 1 f_initL := by
  refine mkInitD (N := ["self", "parts", "told", "name", "wanted"]) (ps := ["self", "parts"]) A.kc_Library A.d_Library___init__ sc_Library___init__ rfl (fun _ _ _ _ _ _ _ us its h1 h2 => by obtain ⟨_, _, rfl⟩ := FP.ex2 h1; obtain ⟨_, rfl⟩ := FP.ex1 h2; exact ⟨_, rfl, rfl⟩) (fun _ _ _ _ _ _ _ us its h1 h2 => by obtain ⟨_, rfl⟩ := FP.ex1 h1; obtain ⟨_, rfl⟩ := FP.ex1 h2; exact ⟨_, rfl, rfl⟩) fun fa cdv Ar outer s H E hr => ⟨_,
    (dss_cons (ds_set (i := 2) (de_if (dt_cmp ok_is (de_var 1) de_non) de_dnew (de_var 1)) (fun _ => sc_Library___init__.nd))
    (dss_cons (ds_if (dt_not (dt_val (de_call G_is_parts (fun _ => hr.mono (by omega)) (fun _ => pas (takes_of rfl rfl rfl rfl)) (da_cons (de_var 2) da_nil))))
    (dss_one (ds_raise veB A.ex_InvalidLibrary (fun _ => takes_of rfl rfl rfl rfl)))
    dss_nil)
    (dss_cons (ds_setF 0 A.kc_Library A.na_Library_own_parts (de_call G_ascending_rows (fun _ => hr.mono (by omega)) (fun _ => pas (takes_of rfl rfl rfl rfl)) (da_cons (de_var 2) da_nil)))
    (dss_cons (ds_setF 0 A.kc_Library A.na_Library_own_names (de_callTy ok_tuple A.n_tuple FP.boot_tuple (da_cons (de_callTy ok_listD A.n_list FP.boot_list (da_cons (de_fldO 0 A.kc_Library A.na_Library_own_parts) da_nil)) da_nil)))
    (dss_cons (ds_setF 0 A.kc_Library A.na_Library_own_lines (de_callTy ok_tuple A.n_tuple FP.boot_tuple (da_cons (de_lc (own := [("name", 3), ("wanted", 4)]) (fun _ => sc_Library___init__.nd) (di_items (de_fldO 0 A.kc_Library A.na_Library_own_parts)) (fun _ => blkOk_by (by kernel_rfl)) (dg_tup (dgs_cons (dg_name (i := 3) (fun _ => sc_Library___init__.nd)) (dgs_cons (dg_name (i := 4) (fun _ => sc_Library___init__.nd)) dgs_nil))) dts_nil (de_joined (dj_cons (de_fmt (de_var 3)) (dj_cons de_str (dj_cons (de_fmtM A.kc_Type G_Type___str__ A.fm_Type (fun _ => hr.mono (by omega)) (de_var 4)) dj_nil))))) da_nil)))
    (dss_one (ds_setF 0 A.kc_Library A.na_Library_own_scope (de_callTy ok_tuple A.n_tuple FP.boot_tuple (da_cons (de_sortSet (de_lc (own := [("wanted", 4)]) (fun _ => sc_Library___init__.nd) (di_vals (de_fldO 0 A.kc_Library A.na_Library_own_parts)) (fun _ => blkOk_by (by kernel_rfl)) (dg_name (i := 4) (fun _ => sc_Library___init__.nd)) dts_nil (de_fld A.kc_Type A.na_Type_own_text (de_var 4))) A.n_sorted A.n_set FP.boot_sorted FP.boot_set) da_nil))))))))),  fun x ds Q Ex hl hf => ?_⟩
  have key : ∃ p L, ds = [p] ∧ LibG L ∧ L.length ≤ 60 ∧ (L.length ≤ 8 → Q (libF L)) ∧ (8 < L.length → Ex libX) ∧ Ev (dIf (dB (dOp rdIs (dVar 1) (dC D.non))) dNewD (dVar 1)) [Sl.ob "Library" x [], Sl.d p, Sl.no, Sl.no, Sl.no] (libT L) := by
    match ds, hl, hf with
    | [.non], _, hq => exact ⟨.non, [], rfl, LibG.nil, by decide, fun _ => hq, fun h => absurd h (by decide), fun Q E q => q⟩
    | [.dct _], _, ⟨L, rfl, hg, hn, hq, hx⟩ => exact ⟨_, L, rfl, hg, hn, hq, hx, fun Q E q => q⟩
  obtain ⟨p, L, rfl, hg, hn, hq, hx, ht⟩ := key
  have e0 : startD (5 - 1) [p] = [Sl.d (p), Sl.no, Sl.no, Sl.no] := rfl
  have hnN : (["self", "parts", "told", "name", "wanted"] : List Str).length = 5 := rfl
  rw [hnN, e0]
  clear e0 hnN
  refine seq_v (libT L) ht ?_
  by_cases h8 : 8 < L.length
  · refine seq_ifT (fun Q E q => ⟨rfl, L, rfl, hg, hn, ?_⟩) ?_
    · show Q (!decide (L.length ≤ 8))
      rw [decide_eq_false (by omega)]
      exact q
    exact hx h8
  refine seq_ifF (fun Q E q => ⟨rfl, L, rfl, hg, hn, ?_⟩) ?_
  · show Q (!decide (L.length ≤ 8))
    rw [decide_eq_true (by omega)]
    exact q
  have hs := hg.sort
  have hls : (sortL L).length ≤ 8 := by rw [len_sort]; omega
  refine seq_setF rfl (libT (sortL L)) (by decide) (fun Q E q => ⟨rfl, L, rfl, hg.nd, hn, q⟩) ?_
  refine seq_setF rfl (.tup ((keysL (sortL L)).map .str)) (by show 1 < 1000; decide) (fun Q E q => ⟨rfl, _, rfl, ?_⟩) ?_
  · show Q (.tup ((rowsL typeD (sortL L)).map fun kv => kD kv.1))
    rw [keys_rows]
    exact q
  refine seq_setF rfl (.tup ((linesL L).map .str)) (by show 2 < 1000; decide) (fun Q E q => ⟨rfl, _, rfl, ?_⟩) ?_
  · show (fun ds : List D => ds.length ≤ sizeLine ∧ _) ((rowsL typeD (sortL L)).map fun kv => D.tup [kD kv.1, kv.2])
    rw [items_rows]
    refine ⟨by rw [List.length_map]; exact size_small (by omega), lc_of (fun p : Str × Kd => D.tup [.str p.1, typeD p.2]) (fun p => .str (lineS p)) (sortL L) _ (fun p hp K hK => ⟨_, rfl, ?_⟩) ?_⟩
    · have hwp := word_len (hs.w p hp)
      have htp := (hs.g p hp).text_len
      have e3 : (" : " : Str).length = 3 := by decide +kernel
      have e0 : Str.empty ++ p.1 = p.1 := app_empty _
      refine ⟨size_small (by omega), by rw [e0]; exact size_small (by omega), ?_, ?_⟩
      · rw [e0, len_app, e3]
        exact size_small (by omega)
      · refine fmtJ (fun Q E q => q) (hs.g p hp) ?_ ?_
        · rw [e0, len_app, len_app, e3]
          exact Nat.le_trans (show p.1.length + 3 + (text p.2).length ≤ 1100 by omega) (by decide)
        · rw [e0]
          exact hK
    · have e : (sortL L).map (fun p => D.str (lineS p)) = (linesL L).map .str := by
        unfold linesL
        rw [List.map_map]
        rfl
      show Q (.tup ((sortL L).map fun p => D.str (lineS p)))
      rw [e]
      exact q
  refine end_setF rfl (.tup ((scopeL L).map .str)) (by show 3 < 1000; decide) (fun Q E q => ⟨rfl, _, rfl, ?_⟩) ⟨_, _, rfl, hq (by omega)⟩
  show (fun ds : List D => ds.length ≤ sizeLine ∧ _) ((rowsL typeD (sortL L)).map (·.2))
  rw [vals_rows]
  refine ⟨by rw [List.length_map]; exact size_small (by omega), lc_of (fun p : Str × Kd => typeD p.2) (fun p => .str (text p.2)) (sortL L) _ (fun p hp K hK => ⟨_, rfl, fld (lk_text p.2) hK⟩) ?_⟩
  refine ⟨(sortL L).map fun p : Str × Kd => text p.2, ?_, ?_, ?_⟩
  · have e := strsD_map ((sortL L).map fun p => text p.2)
    rw [List.map_map] at e
    exact e
  · rw [List.length_map]
    omega
  · exact q
theorem ok_ascending_rowsB {P : Program} {w : World} {mg : Gm} {base : Heap} {Z : Ads} (A : All mg Z) : DefB P w mg base 1 "ascending_rows" f_ascB := by
  refine mkDefB (N := ["rows", "word"]) (ps := ["rows"]) A.d_ascending_rows sc_ascending_rows rfl (fun _ _ _ _ _ _ us hl => by obtain ⟨_, rfl⟩ := FP.ex1 hl; rfl) fun fa cdv Ar outer s H E hr => ⟨_,
    (dss_one (ds_ret (de_dc (own := [("word", 1)]) (fun _ => sc_ascending_rows.nd) (di_list (de_callB ok_sorted A.n_sorted FP.boot_sorted (da_cons (de_listB 0 A.n_list FP.boot_list) da_nil))) (fun _ => blkOk_by (by kernel_rfl)) (dg_name (i := 1) (fun _ => sc_ascending_rows.nd)) dts_nil (de_var 1) (de_dgetB 0 (k := 0) (fun _ => hr.mono (by omega)) (de_var 1))))), fun a vs kvs Q Ex hf => ?_⟩
  obtain ⟨L, rfl, hnd, hn, hq⟩ := hf
  have hkl : (keysL L).length = L.length := List.length_map _
  have e0 : ∀ s : Sl, (borS a vs (rowsL typeD L) :: List.replicate ((["rows", "word"] : List Str).length - 1) .no) = [borS a vs (rowsL typeD L), Sl.no] := fun _ => rfl
  rw [e0 .no]
  refine ret_v (libT (sortL L)) (fun Q E q => ?_) ⟨bor2 0 rfl, hq⟩
  refine ⟨keysL L, by rw [keys_rows]; exact strsD_map _, ?_, dc_of D.str (fun z => ((.inr z : Key), typeD (kindAt L z))) (sortS (keysL L)) [] _ (fun z hz K hK => ⟨_, rfl, .inr z, typeD (kindAt L z), rfl, ?_, .inr z, rfl, hK⟩) ?_⟩
  · rw [List.length_map, (sortS_perm _).length_eq]
    exact size_small (by omega)
  · rw [val_rows]
    obtain ⟨k, hk, _⟩ := getL_in ((sortS_perm _).mem_iff.mp hz)
    rw [hk, kindAt_of hk]
    rfl
  · rw [fold_pick (nd_sort hnd)]
    exact q
theorem ok_Library___initB {P : Program} {w : World} {mg : Gm} {base : Heap} {Z : Ads} (A : All mg Z) (G_Type___str__ : SpecOk P w mg base 1 Z.a_Type "__str__" 1 (f_tell d_text)) (G_ascending_rowsB : DefB P w mg base 1 "ascending_rows" f_ascB) (G_is_parts : DefOk P w mg base 2 "is_parts" 1 f_isparts) : InitB P w mg base 4 "Library" Z.a_Library f_initLB := by
  refine mkInitB (N := ["self", "parts", "told", "name", "wanted"]) (ps := ["self", "parts"]) A.kc_Library A.d_Library___init__ sc_Library___init__ rfl (fun _ _ _ _ _ _ _ us its h1 h2 => by obtain ⟨_, _, rfl⟩ := FP.ex2 h1; obtain ⟨_, rfl⟩ := FP.ex1 h2; exact ⟨_, rfl, rfl⟩) fun fa cdv Ar outer s H E hr => ⟨_,
    (dss_cons (ds_moveB 1 2 (fun _ => sc_Library___init__.nd))
    (dss_cons (ds_if (dt_viewB 2 (dt_not (dt_val (de_call G_is_parts (fun _ => hr.mono (by omega)) (fun _ => pas (takes_of rfl rfl rfl rfl)) (da_cons (de_var 2) da_nil)))))
    (dss_one (ds_raise veB A.ex_InvalidLibrary (fun _ => takes_of rfl rfl rfl rfl)))
    dss_nil)
    (dss_cons (ds_setF 0 A.kc_Library A.na_Library_own_parts (de_callB1 2 G_ascending_rowsB (fun _ => hr.mono (by omega)) (fun _ => pas (takes_of rfl rfl rfl rfl))))
    (dss_cons (ds_setF 0 A.kc_Library A.na_Library_own_names (de_callTy ok_tuple A.n_tuple FP.boot_tuple (da_cons (de_callTy ok_listD A.n_list FP.boot_list (da_cons (de_fldO 0 A.kc_Library A.na_Library_own_parts) da_nil)) da_nil)))
    (dss_cons (ds_setF 0 A.kc_Library A.na_Library_own_lines (de_callTy ok_tuple A.n_tuple FP.boot_tuple (da_cons (de_lc (own := [("name", 3), ("wanted", 4)]) (fun _ => sc_Library___init__.nd) (di_items (de_fldO 0 A.kc_Library A.na_Library_own_parts)) (fun _ => blkOk_by (by kernel_rfl)) (dg_tup (dgs_cons (dg_name (i := 3) (fun _ => sc_Library___init__.nd)) (dgs_cons (dg_name (i := 4) (fun _ => sc_Library___init__.nd)) dgs_nil))) dts_nil (de_joined (dj_cons (de_fmt (de_var 3)) (dj_cons de_str (dj_cons (de_fmtM A.kc_Type G_Type___str__ A.fm_Type (fun _ => hr.mono (by omega)) (de_var 4)) dj_nil))))) da_nil)))
    (dss_one (ds_setF 0 A.kc_Library A.na_Library_own_scope (de_callTy ok_tuple A.n_tuple FP.boot_tuple (da_cons (de_sortSet (de_lc (own := [("wanted", 4)]) (fun _ => sc_Library___init__.nd) (di_vals (de_fldO 0 A.kc_Library A.na_Library_own_parts)) (fun _ => blkOk_by (by kernel_rfl)) (dg_name (i := 4) (fun _ => sc_Library___init__.nd)) dts_nil (de_fld A.kc_Type A.na_Type_own_text (de_var 4))) A.n_sorted A.n_set FP.boot_sorted FP.boot_set) da_nil))))))))), fun x a vs kvs Q Ex hf => ?_⟩
  obtain ⟨L, rfl, hg, h8, hq⟩ := hf
  have hn : L.length ≤ 60 := by omega
  have e0 : (Sl.ob "Library" x [] :: borS a vs (rowsL typeD L) :: List.replicate ((["self", "parts", "told", "name", "wanted"] : List Str).length - 2) Sl.no) = [Sl.ob "Library" x [], borS a vs (rowsL typeD L), Sl.no, Sl.no, Sl.no] := rfl
  rw [e0]
  clear e0
  refine seq_moveB (i := 1) (j := 2) rfl ?_
  refine seq_ifF (t_viewB (i := 2) rfl fun Q E q => ⟨rfl, L, rfl, hg, hn, ?_⟩) ?_
  · show Q (!decide (L.length ≤ 8))
    rw [decide_eq_true (by omega)]
    exact q
  have hs := hg.sort
  have hls : (sortL L).length ≤ 8 := by rw [len_sort]; omega
  refine seq_setF rfl (libT (sortL L)) (by decide) (ev_lent (i := 2) rfl fun Q E q => ⟨L, rfl, hg.nd, hn, q⟩) ?_
  refine seq_setF rfl (.tup ((keysL (sortL L)).map .str)) (by show 1 < 1000; decide) (fun Q E q => ⟨rfl, _, rfl, ?_⟩) ?_
  · show Q (.tup ((rowsL typeD (sortL L)).map fun kv => kD kv.1))
    rw [keys_rows]
    exact q
  refine seq_setF rfl (.tup ((linesL L).map .str)) (by show 2 < 1000; decide) (fun Q E q => ⟨rfl, _, rfl, ?_⟩) ?_
  · show (fun ds : List D => ds.length ≤ sizeLine ∧ _) ((rowsL typeD (sortL L)).map fun kv => D.tup [kD kv.1, kv.2])
    rw [items_rows]
    refine ⟨by rw [List.length_map]; exact size_small (by omega), lc_of (fun p : Str × Kd => D.tup [.str p.1, typeD p.2]) (fun p => .str (lineS p)) (sortL L) _ (fun p hp K hK => ⟨_, rfl, ?_⟩) ?_⟩
    · have hwp := word_len (hs.w p hp)
      have htp := (hs.g p hp).text_len
      have e3 : (" : " : Str).length = 3 := by decide +kernel
      have e0 : Str.empty ++ p.1 = p.1 := app_empty _
      refine ⟨size_small (by omega), by rw [e0]; exact size_small (by omega), ?_, ?_⟩
      · rw [e0, len_app, e3]
        exact size_small (by omega)
      · refine fmtJ (fun Q E q => q) (hs.g p hp) ?_ ?_
        · rw [e0, len_app, len_app, e3]
          exact Nat.le_trans (show p.1.length + 3 + (text p.2).length ≤ 1100 by omega) (by decide)
        · rw [e0]
          exact hK
    · have e : (sortL L).map (fun p => D.str (lineS p)) = (linesL L).map .str := by
        unfold linesL
        rw [List.map_map]
        rfl
      show Q (.tup ((sortL L).map fun p => D.str (lineS p)))
      rw [e]
      exact q
  refine end_setF rfl (.tup ((scopeL L).map .str)) (by show 3 < 1000; decide) (fun Q E q => ⟨rfl, _, rfl, ?_⟩) ⟨bor2 2 rfl, _, _, rfl, hq⟩
  show (fun ds : List D => ds.length ≤ sizeLine ∧ _) ((rowsL typeD (sortL L)).map (·.2))
  rw [vals_rows]
  refine ⟨by rw [List.length_map]; exact size_small (by omega), lc_of (fun p : Str × Kd => typeD p.2) (fun p => .str (text p.2)) (sortL L) _ (fun p hp K hK => ⟨_, rfl, fld (lk_text p.2) hK⟩) ?_⟩
  refine ⟨(sortL L).map fun p : Str × Kd => text p.2, ?_, ?_, ?_⟩
  · have e := strsD_map ((sortL L).map fun p => text p.2)
    rw [List.map_map] at e
    exact e
  · rw [List.length_map]
    omega
  · exact q
theorem ok_Library_partsN {P : Program} {w : World} {mg : Gm} {base : Heap} {Z : Ads} (A : All mg Z) : PropN P w mg base 1 Z.a_Library "parts" f_partsNL := by
  refine mkPropN (N := ["self"]) (ps := ["self"]) A.d_Library_parts sc_Library_parts rfl rfl (fun _ _ _ _ _ _ us hl => by obtain ⟨_, rfl⟩ := FP.ex1 hl; rfl) fun fa cdv Ar outer s H E hr => ⟨_,
    (dod_dictD (de_fld A.kc_Library A.na_Library_own_parts (de_var 0)) A.n_dict FP.boot_dict), fun ds Q hl hf => ?_⟩
  obtain ⟨d0q, rfl⟩ := FP.ex1 hl
  obtain ⟨L, rfl, hq⟩ := hf
  have e0 : startD (["self"] : List Str).length [libD L] = [Sl.d (libD L)] := rfl
  rw [e0]
  exact (ev_fld (d := libT (sortL L)) (fs := libF L) (fun Q E q => q) rfl) _ _ hq
theorem ok_Library_parts {P : Program} {w : World} {mg : Gm} {base : Heap} {Z : Ads} (A : All mg Z) : PropOk P w mg base 1 Z.a_Library "parts" f_parts10 := by
  refine mkProp (N := ["self"]) (ps := ["self"]) A.d_Library_parts sc_Library_parts rfl (fun _ _ _ _ _ _ us hl => by obtain ⟨_, rfl⟩ := FP.ex1 hl; rfl) fun fa cdv Ar outer s H E hr => ⟨_,
    (dss_one (ds_ret (de_dictD (de_fld A.kc_Library A.na_Library_own_parts (de_var 0)) A.n_dict FP.boot_dict))),  fun ds Q Ex hl hf => ?_⟩
  obtain ⟨d0q, rfl⟩ := FP.ex1 hl
  obtain ⟨L, rfl, hq⟩ := hf
  have e0 : startD 1 [libD L] = [Sl.d (libD L)] := rfl
  have hnN : (["self"] : List Str).length = 1 := rfl
  rw [hnN, e0]
  clear e0 hnN
  exact ret_v (libT (sortL L)) (fun Q E q => (ev_fld (d := libT (sortL L)) (fs := libF L) (fun Q E q => q) rfl) _ _ q) hq
end K10
namespace K10
open PySem L2 FP
variable [FP.Tabl]
open KP
theorem ok_Library___eq__ {P : Program} {w : World} {mg : Gm} {base : Heap} {Z : Ads} (A : All mg Z) : SpecOk P w mg base 1 Z.a_Library "__eq__" 2 f_eqL := by
  refine mkSpec (N := ["self", "other"]) (ps := ["self", "other"]) A.d_Library___eq__ sc_Library___eq__ (fun _ _ _ _ _ _ us hl => by obtain ⟨_, _, rfl⟩ := FP.ex2 hl; rfl) fun fa cdv Ar outer s H E hr => ⟨_,
    (dss_one (ds_ret (de_and (de_isiO (de_var 1) A.n_isinstance A.kc_Library.nm A.isi_Library FP.boot_isinstance) (de_one (de_cmp (ok_eq (fun _ => hr.r.units)) (de_fld A.kc_Library A.na_Library_own_lines (de_var 0)) (de_fld A.kc_Library A.na_Library_own_lines (de_var 1))))))),  fun ds Q Ex hl hf => ?_⟩
  obtain ⟨d0q, y, rfl⟩ := FP.ex2 hl
  obtain ⟨L, rfl, h1, hg, hc⟩ := hf
  have e0 : startD 2 [libD L, y] = [Sl.d (libD L), Sl.d (y)] := rfl
  have hnN : (["self", "other"] : List Str).length = 2 := rfl
  rw [hnN, e0]
  clear e0 hnN
  rcases hc with ⟨M, rfl, h2, hm, hq⟩ | ⟨hn, hq⟩
  · refine ret_v (.bl (true && decide (linesL L = linesL M))) (ev_andV (fun Q E q => isLib (L := M) (P := Q) q) fun _ => ev_op (ev_fld (fs := libF L) (fun Q E q => q) (lk_lines L)) (ev_fld (fs := libF M) (fun Q E q => q) (lk_lines M)) fun Q q => linesEq hg hm q) hq
  · refine ret_v (.bl (false && false)) (ev_andV (fun Q E q => ?_) fun h => by cases h) hq
    show (match isiD ["Library"] (fun _ => true) y with | some b => Q (.bl b) | none => False)
    rw [hn]
    exact q
theorem ok_Library___contains__ {P : Program} {w : World} {mg : Gm} {base : Heap} {Z : Ads} (A : All mg Z) : SpecOk P w mg base 1 Z.a_Library "__contains__" 2 f_contL := by
  refine mkSpec (N := ["self", "value"]) (ps := ["self", "value"]) A.d_Library___contains__ sc_Library___contains__ (fun _ _ _ _ _ _ us hl => by obtain ⟨_, _, rfl⟩ := FP.ex2 hl; rfl) fun fa cdv Ar outer s H E hr => ⟨_,
    (dss_one (ds_ret (de_and (de_isiC (de_var 1) A.n_isinstance A.n_str A.isb_str FP.boot_str FP.boot_isinstance) (de_one (de_cmp (ok_inD (k := 0) (fun _ => hr.mono (by omega))) (de_var 1) (de_fld A.kc_Library A.na_Library_own_parts (de_var 0))))))),  fun ds Q Ex hl hf => ?_⟩
  obtain ⟨d0q, v, rfl⟩ := FP.ex2 hl
  obtain ⟨L, rfl, hc, hq⟩ := hf
  have e0 : startD 2 [libD L, v] = [Sl.d (libD L), Sl.d (v)] := rfl
  have hnN : (["self", "value"] : List Str).length = 2 := rfl
  rw [hnN, e0]
  clear e0 hnN
  have e : (isStr v && inLib L v) = inLib L v := by cases v <;> rfl
  refine ret_v _ (ev_andV (b1 := isStr v) (b2 := inLib L v) (evIsStr hc fun Q E q => q) fun hs => ?_) (by rw [e]; exact hq)
  cases v with
  | str z => exact (evIn (fun Q E q => q) (evParts fun Q E q => q)).eq (by
      have e2 : decide (z ∈ keysL (sortL L)) = decide (z ∈ keysL L) := decide_eq_decide.mpr ((same_sort L).keys z)
      rw [e2]
      rfl)
  | _ => cases hs
theorem ok_Library_with_part {P : Program} {w : World} {mg : Gm} {base : Heap} {Z : Ads} (A : All mg Z) (G_Library___init__ : InitDf P w mg base 4 "Library" Z.a_Library 1 f_initL) (G_is_word : DefOk P w mg base 1 "is_word" 1 f_is_word) : MethOk P w mg base 6 Z.a_Library "with_part" 3 f_withP := by
  refine mkMeth (N := ["self", "name", "wanted"]) (ps := ["self", "name", "wanted"]) A.d_Library_with_part sc_Library_with_part (fun _ _ _ _ _ _ us hl => by obtain ⟨_, _, _, rfl⟩ := FP.ex3 hl; rfl) fun fa cdv Ar outer s H E hr => ⟨_,
    (dss_cons (ds_if (dt_not (dt_val (de_call G_is_word (fun _ => hr.mono (by omega)) (fun _ => pas (takes_of rfl rfl rfl rfl)) (da_cons (de_var 1) da_nil))))
    (dss_one (ds_raise veB A.ex_InvalidWord (fun _ => takes_of rfl rfl rfl rfl)))
    dss_nil)
    (dss_cons (ds_if (dt_not (dt_val (de_isiO (de_var 2) A.n_isinstance A.kc_Type.nm A.isi_Type FP.boot_isinstance)))
    (dss_one (ds_raise veB A.ex_InvalidType (fun _ => takes_of rfl rfl rfl rfl)))
    dss_nil)
    (dss_one (ds_ret (de_make A.kc_Library G_Library___init__.one (fun _ => hr.mono (by omega)) (fun _ => pas (takes_of rfl rfl rfl rfl)) (da_cons (de_dispK (de_fld A.kc_Library A.na_Library_own_parts (de_var 0)) (de_var 1) (de_var 2)) da_nil)))))),  fun ds Q Ex hl hf => ?_⟩
  obtain ⟨d0q, v, y, rfl⟩ := FP.ex3 hl
  obtain ⟨L, rfl, hL, h1, hv, hx, hq⟩ := hf
  have e0 : startD 3 [libD L, v, y] = [Sl.d (libD L), Sl.d (v), Sl.d (y)] := rfl
  have hnN : (["self", "name", "wanted"] : List Str).length = 3 := rfl
  rw [hnN, e0]
  clear e0 hnN
  have ew : EvT (dNot (dB (dCall f_is_word 1 (dCons (dVar 1) dNil)))) [Sl.d (libD L), Sl.d v, Sl.d y] (!isWordD v) := not_v (b_v (ev_call (a1 (fun Q E q => q) a0) rfl fun Q E q => ⟨hv, q⟩))
  cases hw : isWordD v with
  | false =>
    rw [hw] at ew
    exact seq_ifT ew (hx hw)
  | true =>
  rw [hw] at ew
  refine seq_ifF ew ?_
  obtain ⟨z, rfl⟩ : ∃ z, v = .str z := by
    cases v with
    | str z => exact ⟨z, rfl⟩
    | _ => cases hw
  rcases hq z rfl hw with ⟨hn, he⟩ | ⟨k, rfl, hk, hok, hbig⟩
  · exact seq_ifT (not_v (b := false) (b_v fun Q E q => vF (i := 2) rfl hn q)) he
  refine seq_ifF (not_v (b := true) (b_v fun Q E q => vT (i := 2) rfl q)) ?_
  have hlp := (len_put (sortL L) z k).1
  have hls := len_sort L
  refine ret_make (ds := [libT (putL1 (sortL L) z k)]) (a1 (fun Q E q => ?_) a0) rfl ?_
  · refine ⟨rfl, _, rfl, ?_⟩
    show (rowsL typeD (sortL L)).length < sizeLine ∧ _
    refine ⟨by rw [len_rows]; exact Nat.lt_of_le_of_lt (show _ ≤ 8 by omega) (by decide), .inr z, rfl, ?_⟩
    rw [merge_self hL.sort.nd, put_rows]
    exact q
  exact ⟨_, rfl, hL.sort.put hw hk, by omega, hok, hbig⟩
end K10
namespace K10
open PySem L2 FP
variable [FP.Tabl]
open KP
theorem ok_atoms_in {P : Program} {w : World} {mg : Gm} {base : Heap} {Z : Ads} (A : All mg Z) (G_Type_atoms : PropOk P w mg base 7 Z.a_Type "atoms" (f_tell d_atoms)) : DefOk P w mg base 9 "atoms_in" 1 f_atomsL := by
  refine mkDef (N := ["library", "wanted", "atom"]) (ps := ["library"]) A.d_atoms_in sc_atoms_in (fun _ _ _ _ _ _ us hl => by obtain ⟨_, rfl⟩ := FP.ex1 hl; rfl) fun fa cdv Ar outer s H E hr => ⟨_,
    (dss_one (ds_ret (de_callTy ok_tuple A.n_tuple FP.boot_tuple (da_cons (de_sortSet (de_lc2 (own := [("wanted", 1), ("atom", 2)]) (vs1 := [2]) (fun _ => sc_atoms_in.nd) (di_vals (de_fld A.kc_Library A.na_Library_own_parts (de_var 0))) (fun _ => blkOk_by (by kernel_rfl)) (dg_name (i := 1) (fun _ => sc_atoms_in.nd)) dts_nil (di_tup (de_prop A.kc_Type G_Type_atoms (fun _ => hr.mono (by omega)) (de_var 1))) (dg_name (i := 2) (fun _ => sc_atoms_in.nd)) dts_nil (de_var 2)) A.n_sorted A.n_set FP.boot_sorted FP.boot_set) da_nil)))),  fun ds Q Ex hl hf => ?_⟩
  obtain ⟨d0q, rfl⟩ := FP.ex1 hl
  obtain ⟨L, rfl, hL, h1, hq⟩ := hf
  have e0 : startD 3 [libD L] = [Sl.d (libD L), Sl.no, Sl.no] := rfl
  have hnN : (["library", "wanted", "atom"] : List Str).length = 3 := rfl
  rw [hnN, e0]
  clear e0 hnN
  have hls := len_sort L
  have hfl := flat_len (fun p : Str × Kd => atomsK p.2) 15 (sortL L) fun p hp => atomsK_len (hL.sort.g p hp)
  refine ret_v (.tup ((atomsL L).map .str)) (fun Q E q => ?_) hq
  refine ⟨rfl, _, rfl, ?_⟩
  show (fun ds : List D => fewD ds ∧ _) ((rowsL typeD (sortL L)).map (·.2))
  rw [vals_rows]
  refine ⟨by show _ ≤ 4000; rw [List.length_map]; omega, lcS_of (fun p : Str × Kd => typeD p.2) (fun p => (atomsK p.2).map .str) (sortL L) _ (fun p hp K hK => ⟨_, rfl, ?_⟩) ?_⟩
  · have hg := hL.sort.g p hp
    refine prT hg ⟨by show _ ≤ 4000; rw [List.length_map]; have := atomsK_len hg; unfold atomsK at this; omega, ?_⟩
    exact lc_of D.str D.str (atomsK p.2) _ (fun z _ K hK => ⟨_, rfl, hK⟩) hK
  · refine ⟨((sortL L).map fun p : Str × Kd => atomsK p.2).flatten, ?_, by omega, ?_⟩
    rotate_left
    · exact q
    have e := strsD_map (((sortL L).map fun p => atomsK p.2).flatten)
    rw [List.map_flatten, List.map_map] at e
    exact e
end K10
namespace K10
open PySem L2 FP
variable [FP.Tabl]
open KP
theorem ok_Library_lines {P : Program} {w : World} {mg : Gm} {base : Heap} {Z : Ads} (A : All mg Z) : PropOk P w mg base 1 Z.a_Library "lines" f_linesL := by
  refine mkProp (N := ["self"]) (ps := ["self"]) A.d_Library_lines sc_Library_lines rfl (fun _ _ _ _ _ _ us hl => by obtain ⟨_, rfl⟩ := FP.ex1 hl; rfl) fun fa cdv Ar outer s H E hr => ⟨_,
    (dss_one (ds_ret (de_fld A.kc_Library A.na_Library_own_lines (de_var 0)))),  fun ds Q Ex hl hf => ?_⟩
  obtain ⟨d0q, rfl⟩ := FP.ex1 hl
  obtain ⟨L, rfl, hq⟩ := hf
  have e0 : startD 1 [libD L] = [Sl.d (libD L)] := rfl
  have hnN : (["self"] : List Str).length = 1 := rfl
  rw [hnN, e0]
  clear e0 hnN
  exact ret_v _ (ev_fld (fs := libF L) (fun Q E q => q) (lk_lines L)) hq
theorem ok_Library_names {P : Program} {w : World} {mg : Gm} {base : Heap} {Z : Ads} (A : All mg Z) : PropOk P w mg base 1 Z.a_Library "names" f_namesL := by
  refine mkProp (N := ["self"]) (ps := ["self"]) A.d_Library_names sc_Library_names rfl (fun _ _ _ _ _ _ us hl => by obtain ⟨_, rfl⟩ := FP.ex1 hl; rfl) fun fa cdv Ar outer s H E hr => ⟨_,
    (dss_one (ds_ret (de_fld A.kc_Library A.na_Library_own_names (de_var 0)))),  fun ds Q Ex hl hf => ?_⟩
  obtain ⟨d0q, rfl⟩ := FP.ex1 hl
  obtain ⟨L, rfl, hq⟩ := hf
  have e0 : startD 1 [libD L] = [Sl.d (libD L)] := rfl
  have hnN : (["self"] : List Str).length = 1 := rfl
  rw [hnN, e0]
  clear e0 hnN
  exact ret_v _ (ev_fld (fs := libF L) (fun Q E q => q) (lk_names L)) hq
theorem ok_Library___getitem__ {P : Program} {w : World} {mg : Gm} {base : Heap} {Z : Ads} (A : All mg Z) (G_Library___contains__ : SpecOk P w mg base 1 Z.a_Library "__contains__" 2 f_contL) : SpecOk P w mg base 3 Z.a_Library "__getitem__" 2 f_itemL := by
  refine mkSpec (N := ["self", "name"]) (ps := ["self", "name"]) A.d_Library___getitem__ sc_Library___getitem__ (fun _ _ _ _ _ _ us hl => by obtain ⟨_, _, rfl⟩ := FP.ex2 hl; rfl) fun fa cdv Ar outer s H E hr => ⟨_,
    (dss_cons (ds_if (dt_cmp (ok_notInM A.kc_Library G_Library___contains__ (fun _ => hr.mono (by omega))) (de_var 1) (de_var 0))
    (dss_one ds_never)
    dss_nil)
    (dss_one (ds_ret (de_dget (k := 0) (fun _ => hr.mono (by omega)) (de_fld A.kc_Library A.na_Library_own_parts (de_var 0)) (de_var 1))))),  fun ds Q Ex hl hf => ?_⟩
  obtain ⟨d0q, d1q, rfl⟩ := FP.ex2 hl
  obtain ⟨z, rfl⟩ : ∃ w0, d1q = .str w0 := by cases d1q <;> first | exact ⟨_, rfl⟩ | exact False.elim hf
  obtain ⟨L, k, rfl, hk, hq⟩ := hf
  have e0 : startD 2 [libD L, .str z] = [Sl.d (libD L), Sl.d (.str z)] := rfl
  have hnN : (["self", "name"] : List Str).length = 2 := rfl
  rw [hnN, e0]
  clear e0 hnN
  refine seq_ifF (b_v (ev_op (x := .str z) (y := libD L) (fun Q E q => q) (fun Q E q => q) fun Q q => ⟨rfl, L, rfl, chk_str z, ?_⟩)) ?_
  · show Q (.bl (!decide (z ∈ keysL L)))
    rw [decide_eq_true (key_in hk)]
    exact q
  exact ret_v _ (evGet (h := typeD) (L := sortL L) (evParts fun Q E q => q) (fun Q E q => q) (by rw [get_sort]; exact hk)) hq
theorem ok_Library___len__ {P : Program} {w : World} {mg : Gm} {base : Heap} {Z : Ads} (A : All mg Z) : SpecOk P w mg base 1 Z.a_Library "__len__" 1 f_lenL := by
  refine mkSpec (N := ["self"]) (ps := ["self"]) A.d_Library___len__ sc_Library___len__ (fun _ _ _ _ _ _ us hl => by obtain ⟨_, rfl⟩ := FP.ex1 hl; rfl) fun fa cdv Ar outer s H E hr => ⟨_,
    (dss_one (ds_ret (de_callB ok_len A.n_len FP.boot_len (da_cons (de_fld A.kc_Library A.na_Library_own_parts (de_var 0)) da_nil)))),  fun ds Q Ex hl hf => ?_⟩
  obtain ⟨d0q, rfl⟩ := FP.ex1 hl
  obtain ⟨L, rfl, hL, h1, hq⟩ := hf
  have e0 : startD 1 [libD L] = [Sl.d (libD L)] := rfl
  have hnN : (["self"] : List Str).length = 1 := rfl
  rw [hnN, e0]
  clear e0 hnN
  exact ret_v (.int L.length) (ev_cb (a1 (evParts fun Q E q => q) a0) fun Q q => lenD (by rw [len_rows, len_sort]; exact q)) hq
end K10
namespace K10
open PySem L2 FP
variable [FP.Tabl]
open KP
theorem ok_Library_order {P : Program} {w : World} {mg : Gm} {base : Heap} {Z : Ads} (A : All mg Z) : PropOk P w mg base 1 Z.a_Library "order" f_order10 := by
  refine mkProp (N := ["self", "wanted"]) (ps := ["self"]) A.d_Library_order sc_Library_order rfl (fun _ _ _ _ _ _ us hl => by obtain ⟨_, rfl⟩ := FP.ex1 hl; rfl) fun fa cdv Ar outer s H E hr => ⟨_,
    (dss_one (ds_ret (de_maxD (de_lc (own := [("wanted", 1)]) (fun _ => sc_Library_order.nd) (di_vals (de_fld A.kc_Library A.na_Library_own_parts (de_var 0))) (fun _ => blkOk_by (by kernel_rfl)) (dg_name (i := 1) (fun _ => sc_Library_order.nd)) dts_nil (de_fld A.kc_Type A.na_Type_own_order (de_var 1))) de_int A.n_max FP.boot_max))),  fun ds Q Ex hl hf => ?_⟩
  obtain ⟨d0q, rfl⟩ := FP.ex1 hl
  obtain ⟨L, rfl, hL, hn, hq⟩ := hf
  have e0 : startD 2 [libD L] = [Sl.d (libD L), Sl.no] := rfl
  have hnN : (["self", "wanted"] : List Str).length = 2 := rfl
  rw [hnN, e0]
  clear e0 hnN
  have hls := len_sort L
  exact ret_v (.int (maxN ((sortL L).map fun p => ord p.2) : Nat)) (ev_maxD (Ev.eq (ev_lc (fun p : Str × Kd => typeD p.2) (fun p => D.int (ord p.2 : Nat)) (xs := sortL L) (fun Q E q => evParts (fun Q E q => q) _ E (by show Q ((rowsL typeD (sortL L)).map (·.2)); rw [vals_rows]; exact q)) (size_small (by omega)) fun p hp => ⟨_, rfl, ev_orderF (fun Q E q => q)⟩) (by rw [List.map_map]; rfl)) (fun Q E q => q)) hq
theorem ok_Library_scope {P : Program} {w : World} {mg : Gm} {base : Heap} {Z : Ads} (A : All mg Z) : PropOk P w mg base 1 Z.a_Library "scope" f_scope10 := by
  refine mkProp (N := ["self"]) (ps := ["self"]) A.d_Library_scope sc_Library_scope rfl (fun _ _ _ _ _ _ us hl => by obtain ⟨_, rfl⟩ := FP.ex1 hl; rfl) fun fa cdv Ar outer s H E hr => ⟨_,
    (dss_one (ds_ret (de_fld A.kc_Library A.na_Library_own_scope (de_var 0)))),  fun ds Q Ex hl hf => ?_⟩
  obtain ⟨d0q, rfl⟩ := FP.ex1 hl
  obtain ⟨L, rfl, hq⟩ := hf
  have e0 : startD 1 [libD L] = [Sl.d (libD L)] := rfl
  have hnN : (["self"] : List Str).length = 1 := rfl
  rw [hnN, e0]
  clear e0 hnN
  exact ret_v (.tup ((scopeL L).map .str)) (ev_fld (fs := libF L) (fun Q E q => q) rfl) hq
theorem ok_Library_atoms {P : Program} {w : World} {mg : Gm} {base : Heap} {Z : Ads} (A : All mg Z) (G_atoms_in : DefOk P w mg base 9 "atoms_in" 1 f_atomsL) : PropOk P w mg base 10 Z.a_Library "atoms" f_atomsL := by
  refine mkProp (N := ["self"]) (ps := ["self"]) A.d_Library_atoms sc_Library_atoms rfl (fun _ _ _ _ _ _ us hl => by obtain ⟨_, rfl⟩ := FP.ex1 hl; rfl) fun fa cdv Ar outer s H E hr => ⟨_,
    (dss_one (ds_ret (de_call G_atoms_in (fun _ => hr.mono (by omega)) (fun _ => pas (takes_of rfl rfl rfl rfl)) (da_cons (de_var 0) da_nil)))),  fun ds Q Ex hl hf => ?_⟩
  obtain ⟨x0, rfl⟩ := FP.ex1 hl
  have h := hf
  have e0 : startD 1 [x0] = [Sl.d (x0)] := rfl
  have hnN : (["self"] : List Str).length = 1 := rfl
  rw [hnN, e0]
  clear e0 hnN
  exact ret_call (a1 (fun Q E q => q) a0) rfl h
theorem ok_Library___str__ {P : Program} {w : World} {mg : Gm} {base : Heap} {Z : Ads} (A : All mg Z) (G_atoms_in : DefOk P w mg base 9 "atoms_in" 1 f_atomsL) : SpecOk P w mg base 11 Z.a_Library "__str__" 1 f_str10 := by
  refine mkSpec (N := ["self"]) (ps := ["self"]) A.d_Library___str__ sc_Library___str__ (fun _ _ _ _ _ _ us hl => by obtain ⟨_, rfl⟩ := FP.ex1 hl; rfl) fun fa cdv Ar outer s H E hr => ⟨_,
    (dss_one (ds_ret (de_joined (dj_cons (de_fmt (de_callB ok_len A.n_len FP.boot_len (da_cons (de_fld A.kc_Library A.na_Library_own_parts (de_var 0)) da_nil))) (dj_cons de_str (dj_cons (de_fmt (de_callB ok_len A.n_len FP.boot_len (da_cons (de_call G_atoms_in (fun _ => hr.mono (by omega)) (fun _ => pas (takes_of rfl rfl rfl rfl)) (da_cons (de_var 0) da_nil)) da_nil))) (dj_cons de_str dj_nil))))))),  fun ds Q Ex hl hf => ?_⟩
  obtain ⟨d0q, rfl⟩ := FP.ex1 hl
  obtain ⟨L, rfl, hL, h8, ha, hq⟩ := hf
  have e0 : startD 1 [libD L] = [Sl.d (libD L)] := rfl
  have hnN : (["self"] : List Str).length = 1 := rfl
  rw [hnN, e0]
  clear e0 hnN
  have hls := len_sort L
  exact ret_v (.str (tellL L.length (atomsL L).length)) (ev_tellL (by omega) ha (Ev.eq (ev_lenD10 (L := sortL L) (h := typeD) (evParts (fun Q E q => q))) (by rw [hls])) (Ev.eq (ev_lenT10 (xs := (atomsL L).map .str) (ev_call (a1 (fun Q E q => q) a0) rfl fun Q E q => ⟨L, rfl, hL, h8, q⟩)) (by rw [List.length_map]))) hq
theorem ok_Library_heads {P : Program} {w : World} {mg : Gm} {base : Heap} {Z : Ads} (A : All mg Z) (G_is_word : DefOk P w mg base 1 "is_word" 1 f_is_word) : MethOk P w mg base 3 Z.a_Library "heads" 2 f_heads10 := by
  refine mkMeth (N := ["self", "atom", "name", "wanted"]) (ps := ["self", "atom"]) A.d_Library_heads sc_Library_heads (fun _ _ _ _ _ _ us hl => by obtain ⟨_, _, rfl⟩ := FP.ex2 hl; rfl) fun fa cdv Ar outer s H E hr => ⟨_,
    (dss_cons (ds_if (dt_not (dt_val (de_call G_is_word (fun _ => hr.mono (by omega)) (fun _ => pas (takes_of rfl rfl rfl rfl)) (da_cons (de_var 1) da_nil))))
    (dss_one ds_never)
    dss_nil)
    (dss_one (ds_ret (de_callTy ok_tuple A.n_tuple FP.boot_tuple (da_cons (de_lc (own := [("name", 2), ("wanted", 3)]) (fun _ => sc_Library_heads.nd) (di_items (de_fld A.kc_Library A.na_Library_own_parts (de_var 0))) (fun _ => blkOk_by (by kernel_rfl)) (dg_tup (dgs_cons (dg_name (i := 2) (fun _ => sc_Library_heads.nd)) (dgs_cons (dg_name (i := 3) (fun _ => sc_Library_heads.nd)) dgs_nil))) (dts_one (dt_cmp (ok_eq (fun _ => hr.r.units)) (de_fld A.kc_Type A.na_Type_own_atom (de_var 3)) (de_var 1))) (de_var 2)) da_nil))))),  fun ds Q Ex hl hf => ?_⟩
  obtain ⟨d0q, d1q, rfl⟩ := FP.ex2 hl
  obtain ⟨z, rfl⟩ : ∃ w0, d1q = .str w0 := by cases d1q <;> first | exact ⟨_, rfl⟩ | exact False.elim hf
  obtain ⟨L, rfl, hL, hn, hw, hq⟩ := hf
  have e0 : startD 4 [libD L, .str z] = [Sl.d (libD L), Sl.d (.str z), Sl.no, Sl.no] := rfl
  have hnN : (["self", "atom", "name", "wanted"] : List Str).length = 4 := rfl
  rw [hnN, e0]
  clear e0 hnN
  have hls := len_sort L
  refine seq_ifF (not_v (b := true) (b_v (ev_call (a1 (fun Q E q => q) a0) rfl fun Q E q => ⟨word_ok hw, by rw [show isWordD (.str z) = isWordS z from rfl, hw]; exact q⟩))) ?_
  exact ret_v (.tup ((headsL L z).map .str)) (ev_cb (a1 (d := .lst ((headsL L z).map .str)) (Ev.eq (ev_lcF (rowI typeD) (fun p : Str × Kd => D.str p.1) (fun p => decide (p.2.a = z)) (xs := sortL L) (evItems (evParts (fun Q E q => q))) (size_small (by omega)) fun p hp => ⟨_, rfl, b_v (ev_op (x := .str p.2.a) (y := .str z) (ev_atomF (fun Q E q => q)) (fun Q E q => q) fun Q q => eq_str q), fun _ => (fun Q E q => q)⟩) (by unfold headsL; rw [List.map_map]; rfl)) a0) fun Q q => q) hq
theorem ok_require_library {P : Program} {w : World} {mg : Gm} {base : Heap} {Z : Ads} (A : All mg Z) : DefOk P w mg base 1 "require_library" 1 f_reqlib10 := by
  refine mkDef (N := ["value"]) (ps := ["value"]) A.d_require_library sc_require_library (fun _ _ _ _ _ _ us hl => by obtain ⟨_, rfl⟩ := FP.ex1 hl; rfl) fun fa cdv Ar outer s H E hr => ⟨_,
    (dss_one (ds_if (dt_not (dt_val (de_isiO (de_var 0) A.n_isinstance A.kc_Library.nm A.isi_Library FP.boot_isinstance)))
    (dss_one ds_never)
    dss_nil)),  fun ds Q Ex hl hf => ?_⟩
  obtain ⟨d0q, rfl⟩ := FP.ex1 hl
  obtain ⟨L, rfl, hq⟩ := hf
  have e0 : startD 1 [libD L] = [Sl.d (libD L)] := rfl
  have hnN : (["value"] : List Str).length = 1 := rfl
  rw [hnN, e0]
  clear e0 hnN
  refine end_if false (not_v (b := true) (b_v fun Q E q => ?_)) hq
  show (match isiD ["Library"] (fun _ => true) (libD L) with | some b => Q (.bl b) | none => False)
  rw [isi_lib10]
  exact q
theorem ok_fresh_list {P : Program} {w : World} {mg : Gm} {base : Heap} {Z : Ads} (A : All mg Z) : DefOk P w mg base 1 "fresh_list" 2 f_freshl10 := by
  refine mkDef (N := ["library", "count", "words", "letter", "word"]) (ps := ["library", "count"]) A.d_fresh_list sc_fresh_list (fun _ _ _ _ _ _ us hl => by obtain ⟨_, _, rfl⟩ := FP.ex2 hl; rfl) fun fa cdv Ar outer s H E hr => ⟨_,
    (dss_cons (ds_setLc (i := 2) (own := [("letter", 3)]) (fun _ => sc_fresh_list.nd) (di_str (de_gstr A.c_LETTERS)) (fun _ => blkOk_by (by kernel_rfl)) (dg_name (i := 3) (fun _ => sc_fresh_list.nd)) dts_nil (de_op ok_add de_str (de_var 3)) (fun _ => sw_true rfl rfl rfl (by decide +kernel)))
    (dss_one (ds_ret (de_slice (de_lc (own := [("word", 4)]) (fun _ => sc_fresh_list.nd) (di_list (de_var 2)) (fun _ => blkOk_by (by kernel_rfl)) (dg_name (i := 4) (fun _ => sc_fresh_list.nd)) (dts_one (dt_cmp (ok_notInD (k := 0) (fun _ => hr.mono (by omega))) (de_var 4) (de_fld A.kc_Library A.na_Library_own_parts (de_var 0)))) (de_var 4)) do_none (do_some (de_var 1)))))),  fun ds Q Ex hl hf => ?_⟩
  obtain ⟨d0q, d1q, rfl⟩ := FP.ex2 hl
  obtain ⟨c, rfl⟩ : ∃ w0, d1q = .int w0 := by cases d1q <;> first | exact ⟨_, rfl⟩ | exact False.elim hf
  obtain ⟨L, rfl, h0, h8, hq⟩ := hf
  have e0 : startD 5 [libD L, .int c] = [Sl.d (libD L), Sl.d (.int c), Sl.no, Sl.no, Sl.no] := rfl
  have hnN : (["library", "count", "words", "letter", "word"] : List Str).length = 5 := rfl
  rw [hnN, e0]
  clear e0 hnN
  have hzl : zWords.length ≤ 30 := by decide +kernel
  refine seq_v (.lst (zWords.map .str)) (Ev.eq (ev_lc (fun c : Nat => D.str ⟨#[c]⟩) (fun c => D.str (("z" : Str) ++ ⟨#[c]⟩)) (xs := ("abcdefghijklmnopqrstuvwxyz" : Str).cps.toList) (fun Q E q => q) (by decide +kernel) fun c hc => ⟨_, rfl, ev_op (x := .str "z") (y := .str ⟨#[c]⟩) (fun Q E q => q) (fun Q E q => q) fun Q q => ⟨(by rw [show ("z" : Str).length = 1 by decide +kernel]; show 1 + 1 ≤ sizeLine; decide), q⟩⟩) (by unfold zWords; rw [List.map_map]; rfl)) ?_
  refine ret_v (.lst ((freshL L c).map .str)) (fun Q E q => ?_) hq
  refine (ev_lcF (fun z : Str => D.str z) (fun z => D.str z) (fun z => !decide (z ∈ keysL L)) (xs := zWords) (fun Q E q => q) (size_small (by omega)) fun z hz => ⟨_, rfl, b_v (Ev.eq (ev_notIn10 (L := sortL L) (h := typeD) (fun Q E q => q) (evParts (fun Q E q => q))) (by rw [decide_eq_decide.mpr ((same_sort L).keys z)])), fun _ => (fun Q E q => q)⟩) _ _ ?_
  show Q (.lst (cutD ((zWords.filter fun z => !decide (z ∈ keysL L)).map D.str) none (some c)))
  rw [cut_take _ h0, ← List.map_take]
  exact q
theorem ok_fresh_names {P : Program} {w : World} {mg : Gm} {base : Heap} {Z : Ads} (A : All mg Z) (G_fresh_list : DefOk P w mg base 1 "fresh_list" 2 f_freshl10) (G_is_within : DefOk P w mg base 2 "is_within" 3 f_within) (G_require_library : DefOk P w mg base 1 "require_library" 1 f_reqlib10) : DefOk P w mg base 4 "fresh_names" 2 f_fresh10 := by
  refine mkDef (N := ["library", "count"]) (ps := ["library", "count"]) A.d_fresh_names sc_fresh_names (fun _ _ _ _ _ _ us hl => by obtain ⟨_, _, rfl⟩ := FP.ex2 hl; rfl) fun fa cdv Ar outer s H E hr => ⟨_,
    (dss_cons (ds_expr (de_call G_require_library (fun _ => hr.mono (by omega)) (fun _ => pas (takes_of rfl rfl rfl rfl)) (da_cons (de_var 0) da_nil)))
    (dss_cons (ds_if (dt_not (dt_val (de_call G_is_within (fun _ => hr.mono (by omega)) (fun _ => pas (takes_of rfl rfl rfl rfl)) (da_cons (de_var 1) (da_cons de_int (da_cons (de_gint A.c_MAX_PARTS) da_nil))))))
    (dss_one ds_never)
    dss_nil)
    (dss_one (ds_ret (de_callTy ok_tuple A.n_tuple FP.boot_tuple (da_cons (de_call G_fresh_list (fun _ => hr.mono (by omega)) (fun _ => pas (takes_of rfl rfl rfl rfl)) (da_cons (de_var 0) (da_cons (de_var 1) da_nil))) da_nil)))))),  fun ds Q Ex hl hf => ?_⟩
  obtain ⟨d0q, d1q, rfl⟩ := FP.ex2 hl
  obtain ⟨c, rfl⟩ : ∃ w0, d1q = .int w0 := by cases d1q <;> first | exact ⟨_, rfl⟩ | exact False.elim hf
  obtain ⟨L, rfl, h0, h8, hq⟩ := hf
  have e0 : startD 2 [libD L, .int c] = [Sl.d (libD L), Sl.d (.int c)] := rfl
  have hnN : (["library", "count"] : List Str).length = 2 := rfl
  rw [hnN, e0]
  clear e0 hnN
  refine seq_expr (fun Q E q => ⟨rfl, L, rfl, q _⟩) ?_
  refine seq_ifF (not_v (b := true) (b_v (ev_call (a1 (fun Q E q => q) (a1 (fun Q E q => q) (a1 (fun Q E q => q) a0))) rfl fun Q E q => ⟨trivial, by
    have e : inRow (.int c) 0 8 = true := inRow_in h0 h8 (by decide)
    rw [e]
    exact q⟩))) ?_
  exact ret_v (.tup ((freshL L c).map .str)) (ev_cb (a1 (d := .lst ((freshL L c).map .str)) (ev_call (a1 (fun Q E q => q) (a1 (fun Q E q => q) a0)) rfl fun Q E q => ⟨L, rfl, h0, h8, q⟩) a0) fun Q q => q) hq
theorem ok_Library___iter__ {P : Program} {w : World} {mg : Gm} {base : Heap} {Z : Ads} (A : All mg Z) : IterOk P w mg base 1 Z.a_Library "own_names" :=
  mkIter (N := ["self"]) A.d_Library___iter__ sc_Library___iter__ (fun _ _ _ _ _ _ us hl => by obtain ⟨_, rfl⟩ := FP.ex1 hl; rfl) A.kc_Library.cl A.na_Library_own_names A.n_iter FP.boot_iter rfl rfl (Or.inl rfl) (fun _ _ _ _ _ _ _ => rfl)
end K10
namespace K10
open PySem L2 FP
variable [FP.Tabl]
open KP
theorem ok__law_dice {P : Program} {w : World} {mg : Gm} {base : Heap} {Z : Ads} (A : All mg Z) : DefOk P w mg base 1 "_law_dice" 2 f_dice := by
  refine mkDef (N := ["_law_script", "_law_spot", "_law_cell", "_law_great", "_law_blend"]) (ps := ["_law_script", "_law_spot"]) A.d__law_dice sc__law_dice (fun _ _ _ _ _ _ us hl => by obtain ⟨_, _, rfl⟩ := FP.ex2 hl; rfl) fun fa cdv Ar outer s H E hr => ⟨_,
    (dss_cons (ds_set (i := 2) (de_op ok_add (de_op ok_mul de_int (de_var 1)) de_int) (fun _ => sc__law_dice.nd))
    (dss_cons (ds_if (dt_cmp ok_lt (de_var 1) (de_callB ok_len A.n_len FP.boot_len (da_cons (de_var 0) da_nil)))
    (dss_one (ds_set (i := 2) (de_ix (de_var 0) (de_var 1)) (fun _ => sc__law_dice.nd)))
    dss_nil)
    (dss_cons (ds_set (i := 3) (de_op ok_mod (de_callTy ok_int A.n_int FP.boot_int (da_cons (de_callB ok_abs A.n_abs FP.boot_abs (da_cons (de_var 2) da_nil)) da_nil)) (de_op ok_pow (de_op ok_pow de_int de_int) de_int)) (fun _ => sc__law_dice.nd))
    (dss_cons (ds_set (i := 4) (de_op ok_add (de_op ok_add (de_op ok_add (de_op ok_mul (de_op ok_mod (de_callTy ok_int A.n_int FP.boot_int (da_cons (de_var 3) da_nil)) de_int) de_int) (de_op ok_mul de_int (de_var 1))) (de_op ok_mul de_int (de_callTy ok_int A.n_int FP.boot_int (da_cons (de_cmp ok_lt (de_var 2) de_int) da_nil)))) de_int) (fun _ => sc__law_dice.nd))
    (dss_one (ds_retTok (da_cons (de_callB ok_max A.n_max FP.boot_max (da_cons de_int (da_cons (de_op ok_sub (de_var 3) (de_op ok_pow de_int de_int)) da_nil))) (da_cons (de_op ok_mod (de_callTy ok_int A.n_int FP.boot_int (da_cons (de_var 4) da_nil)) de_int) (da_cons de_int da_nil))))))))),  fun ds Q Ex hl hf => ?_⟩
  obtain ⟨d0q, d1q, rfl⟩ := FP.ex2 hl
  obtain ⟨xs, rfl⟩ : ∃ w0, d0q = .fz w0 := by cases d0q <;> first | exact ⟨_, rfl⟩ | exact False.elim hf
  obtain ⟨k, rfl⟩ : ∃ w0, d1q = .int w0 := by cases d1q <;> first | exact ⟨_, rfl⟩ | exact False.elim hf
  obtain ⟨⟨ns, hx⟩, ⟨h0, h1⟩, hq⟩ := hf
  subst hx
  change (_ : DTS) _ [Sl.d (.fz (ns.map D.int)), Sl.d (.int k), Sl.no, Sl.no, Sl.no]
  dsimp only [dSeq, dNext, dIfS, dB, dOp, dVar, dC, dCB, dCons, dNil, dSet, dTok, dRet, dRetN, dCall, rdAdd, rdSub, rdMul, rdMod, rdFdiv, rdPow, rdGt, rdLt, rdLe, rdGe, rdIx, rdInt, rdAbs, rdMax, rdMin, rdLen, dRetTok, dSetO, dListO, dLenO, dIRng1, dRetPop, List.getElem?_cons_zero, List.getElem?_cons_succ, List.set_cons_zero, List.set_cons_succ, bit_dec, bit_t, bit_f, bit_not, blc_bl, Option.some.injEq, exists_eq_left']
  refine ⟨cmulL (by decide), ?_⟩
  cases hb : decide (k < ((ns.map D.int).length : Int)) with
  | true =>
    obtain ⟨i, hi⟩ := atI_ints h0 (of_decide_eq_true hb)
    refine ⟨_, hi, ?_⟩
    exact ⟨by decide +kernel, by decide +kernel, by decide +kernel, by decide, cmulR (by decide), cmulL (by decide), cmulL (by decide), by decide +kernel, by decide, hq⟩
  | false => exact ⟨by decide +kernel, by decide +kernel, by decide +kernel, by decide, cmulR (by decide), cmulL (by decide), cmulL (by decide), by decide +kernel, by decide, hq⟩
theorem ok__law_roll {P : Program} {w : World} {mg : Gm} {base : Heap} {Z : Ads} (A : All mg Z) : DefOk P w mg base 1 "_law_roll" 2 f_roll := by
  refine mkDef (N := ["_law_dice_here", "_law_total", "_law_one", "_law_two", "_law_found"]) (ps := ["_law_dice_here", "_law_total"]) A.d__law_roll sc__law_roll (fun _ _ _ _ _ _ us hl => by obtain ⟨_, _, rfl⟩ := FP.ex2 hl; rfl) fun fa cdv Ar outer s H E hr => ⟨_,
    (dss_cons (ds_if (dt_cmp ok_gt (de_ix (de_var 0) de_int) de_int)
    (dss_cons (ds_set (i := 4) (de_op ok_mod (de_callTy ok_int A.n_int FP.boot_int (da_cons (de_ix (de_var 0) de_int) da_nil)) (de_var 1)) (fun _ => sc__law_roll.nd))
    (dss_cons (ds_tok 0 (de_op ok_fdiv (de_ix (de_var 0) de_int) (de_var 1)) (pg := fun _ _ h => ps_asg h (pg_sub (pv 0) pe_int set_list)))
    (dss_one (ds_ret (de_var 4)))))
    dss_nil)
    (dss_cons (ds_tok 0 (de_op ok_add (de_ix (de_var 0) de_int) de_int) (pg := fun _ _ h => ps_asg h (pg_sub (pv 0) pe_int set_list)))
    (dss_cons (ds_set (i := 2) (de_op ok_mod (de_callTy ok_int A.n_int FP.boot_int (da_cons (de_op ok_add (de_ix (de_var 0) de_int) (de_op ok_mul de_int (de_ix (de_var 0) de_int))) da_nil)) de_int) (fun _ => sc__law_roll.nd))
    (dss_cons (ds_set (i := 3) (de_op ok_add (de_op ok_mul (de_op ok_mod (de_callTy ok_int A.n_int FP.boot_int (da_cons (de_op ok_mul (de_var 2) (de_var 2)) da_nil)) de_int) (de_var 2)) (de_op ok_mul de_int (de_ix (de_var 0) de_int))) (fun _ => sc__law_roll.nd))
    (dss_cons (ds_set (i := 3) (de_op ok_mod (de_callTy ok_int A.n_int FP.boot_int (da_cons (de_var 3) da_nil)) de_int) (fun _ => sc__law_roll.nd))
    (dss_one (ds_ret (de_op ok_mod (de_callTy ok_int A.n_int FP.boot_int (da_cons (de_op ok_fdiv (de_var 3) de_int) da_nil)) (de_var 1))))))))),  fun ds Q Ex hl hf => ?_⟩
  obtain ⟨d0q, d1q, rfl⟩ := FP.ex2 hl
  obtain rfl : d0q = .tok := by cases d0q <;> first | rfl | exact False.elim hf
  obtain ⟨n, rfl⟩ : ∃ w0, d1q = .int w0 := by cases d1q <;> first | exact ⟨_, rfl⟩ | exact False.elim hf
  obtain ⟨⟨h0, h1⟩, hq⟩ := hf
  change (_ : DTS) _ [Sl.d .tok, Sl.d (.int n), Sl.no, Sl.no, Sl.no]
  dsimp only [dSeq, dNext, dIfS, dB, dOp, dVar, dC, dCB, dCons, dNil, dSet, dTok, dRet, dRetN, dCall, rdAdd, rdSub, rdMul, rdMod, rdFdiv, rdPow, rdGt, rdLt, rdLe, rdGe, rdIx, rdInt, rdAbs, rdMax, rdMin, rdLen, dRetTok, dSetO, dListO, dLenO, dIRng1, dRetPop, List.getElem?_cons_zero, List.getElem?_cons_succ, List.set_cons_zero, List.set_cons_succ, bit_dec, bit_t, bit_f, bit_not, blc_bl, Option.some.injEq, exists_eq_left']
  have dn : ∀ j : Int, CDivN j n := fun j => ⟨by omega, by omega⟩
  have md : ∀ j : Int, Q (D.int (j % n)) := fun j => hq _ (Int.emod_nonneg _ (by omega)) (Int.emod_lt_of_pos _ h0)
  refine ⟨by decide, fun j => ?_⟩
  cases hb : decide (0 < j) with
  | true => exact ⟨by decide, fun a => ⟨h0, by decide, fun b => ⟨dn _, by decide, md _⟩⟩⟩
  | false => exact ⟨by decide, fun a => ⟨by decide, by decide, fun b => ⟨by decide, fun c => ⟨cmulL (by decide), by decide, cmulL (by omega), by decide, cmulR (by omega), by decide, fun e => ⟨cmulL (by decide), by decide, ⟨by decide, by decide⟩, h0, md _⟩⟩⟩⟩⟩
theorem ok__law_pick {P : Program} {w : World} {mg : Gm} {base : Heap} {Z : Ads} (A : All mg Z) (G__law_roll : DefOk P w mg base 1 "_law_roll" 2 f_roll) : DefOk P w mg base 2 "_law_pick" 2 f_pick := by
  refine mkDef (N := ["_law_dice_here", "_law_items"]) (ps := ["_law_dice_here", "_law_items"]) A.d__law_pick sc__law_pick (fun _ _ _ _ _ _ us hl => by obtain ⟨_, _, rfl⟩ := FP.ex2 hl; rfl) fun fa cdv Ar outer s H E hr => ⟨_,
    (dss_one (ds_ret (de_ix (de_var 1) (de_call G__law_roll (fun _ => hr.mono (by omega)) (fun _ => pas (takes_of rfl rfl rfl rfl)) (da_cons (de_var 0) (da_cons (de_callB ok_len A.n_len FP.boot_len (da_cons (de_var 1) da_nil)) da_nil)))))),  fun ds Q Ex hl hf => ?_⟩
  obtain ⟨d0q, d1q, rfl⟩ := FP.ex2 hl
  obtain rfl : d0q = .tok := by cases d0q <;> first | rfl | exact False.elim hf
  have hd : (∃ xs, d1q = .lst xs) ∨ (∃ xs, d1q = .tup xs) := by cases d1q <;> first | exact .inl ⟨_, rfl⟩ | exact .inr ⟨_, rfl⟩ | exact False.elim hf
  rcases hd with ⟨xs, rfl⟩ | ⟨xs, rfl⟩
  · obtain ⟨⟨h0, h1⟩, hq⟩ := hf
    change (_ : DTS) _ [Sl.d .tok, Sl.d (.lst xs)]
    dsimp only [dSeq, dNext, dIfS, dB, dOp, dVar, dC, dCB, dCons, dNil, dSet, dTok, dRet, dRetN, dCall, rdAdd, rdSub, rdMul, rdMod, rdFdiv, rdPow, rdGt, rdLt, rdLe, rdGe, rdIx, rdInt, rdAbs, rdMax, rdMin, rdLen, dRetTok, dSetO, dListO, dLenO, dIRng1, dRetPop, List.getElem?_cons_zero, List.getElem?_cons_succ, List.set_cons_zero, List.set_cons_succ, bit_dec, bit_t, bit_f, bit_not, blc_bl, Option.some.injEq, exists_eq_left', f_roll]
    refine ⟨rfl, ⟨by omega, by omega⟩, fun r h2 h3 => ?_⟩
    obtain ⟨d, hd, hm⟩ := atI_mem h2 h3
    exact ⟨d, hd, hq d hm⟩
  · obtain ⟨⟨h0, h1⟩, hq⟩ := hf
    change (_ : DTS) _ [Sl.d .tok, Sl.d (.tup xs)]
    dsimp only [dSeq, dNext, dIfS, dB, dOp, dVar, dC, dCB, dCons, dNil, dSet, dTok, dRet, dRetN, dCall, rdAdd, rdSub, rdMul, rdMod, rdFdiv, rdPow, rdGt, rdLt, rdLe, rdGe, rdIx, rdInt, rdAbs, rdMax, rdMin, rdLen, dRetTok, dSetO, dListO, dLenO, dIRng1, dRetPop, List.getElem?_cons_zero, List.getElem?_cons_succ, List.set_cons_zero, List.set_cons_succ, bit_dec, bit_t, bit_f, bit_not, blc_bl, Option.some.injEq, exists_eq_left', f_roll]
    refine ⟨rfl, ⟨by omega, by omega⟩, fun r h2 h3 => ?_⟩
    obtain ⟨d, hd, hm⟩ := atI_mem h2 h3
    exact ⟨d, hd, hq d hm⟩
theorem ok__law_some {P : Program} {w : World} {mg : Gm} {base : Heap} {Z : Ads} (A : All mg Z) (G__law_roll : DefOk P w mg base 1 "_law_roll" 2 f_roll) : DefOk P w mg base 2 "_law_some" 3 f_some := by
  refine mkDef (N := ["_law_dice_here", "_law_items", "_law_size", "_law_left", "_law_turn"]) (ps := ["_law_dice_here", "_law_items", "_law_size"]) A.d__law_some sc__law_some (fun _ _ _ _ _ _ us hl => by obtain ⟨_, _, _, rfl⟩ := FP.ex3 hl; rfl) fun fa cdv Ar outer s H E hr => ⟨_,
    (dss_cons (ds_setO (i := 3) (do_list (da_cons (de_var 1) da_nil) A.n_list FP.boot_list) (fun _ => sc__law_some.nd))
    (dss_one (ds_retPop (i := 3) (own := [("_law_turn", 4)]) (fun _ => sc__law_some.nd) (di_range1 A.n_range (da_cons (de_callB ok_min A.n_min FP.boot_min (da_cons (de_var 2) (da_cons (de_lenO 3 A.n_len) da_nil))) da_nil)) (fun _ => blkOk_by (by kernel_rfl)) (dg_name (i := 4) (fun _ => sc__law_some.nd)) (de_call G__law_roll (fun _ => hr.mono (by omega)) (fun _ => pas takes0) (da_cons (de_var 0) (da_cons (de_lenO 3 A.n_len) da_nil))) (fun _ _ h => pe_bm PySem.F.plainAttrs_list PySem.F.slot_list_pop PySem.F.type_list_pop mt_popAt (pv 3) (pa_cons h pa_nil))))),  fun ds Q Ex hl hf => ?_⟩
  obtain ⟨d0q, d1q, d2q, rfl⟩ := FP.ex3 hl
  obtain rfl : d0q = .tok := by cases d0q <;> first | rfl | exact False.elim hf
  have hd : (∃ xs, d1q = .lst xs) ∨ (∃ xs, d1q = .tup xs) := by cases d1q <;> first | exact .inl ⟨_, rfl⟩ | exact .inr ⟨_, rfl⟩ | exact False.elim hf
  rcases hd with ⟨xs, rfl⟩ | ⟨xs, rfl⟩
  · obtain ⟨k, rfl⟩ : ∃ w0, d2q = .int w0 := by cases d2q <;> first | exact ⟨_, rfl⟩ | exact False.elim hf
    obtain ⟨h0, ⟨h1, h2⟩, hq⟩ := hf
    change (_ : DTS) _ [Sl.d .tok, Sl.d (.lst xs), Sl.d (.int k), Sl.no, Sl.no]
    dsimp only [dSeq, dNext, dIfS, dB, dOp, dVar, dC, dCB, dCons, dNil, dSet, dTok, dRet, dRetN, dCall, rdAdd, rdSub, rdMul, rdMod, rdFdiv, rdPow, rdGt, rdLt, rdLe, rdGe, rdIx, rdInt, rdAbs, rdMax, rdMin, rdLen, dRetTok, dSetO, dListO, dLenO, dIRng1, dRetPop, List.getElem?_cons_zero, List.getElem?_cons_succ, List.set_cons_zero, List.set_cons_succ, bit_dec, bit_t, bit_f, bit_not, blc_bl, Option.some.injEq, exists_eq_left']
    have em : (if (xs.length : Int) < k then (xs.length : Int) else k).toNat = min k.toNat xs.length := by split <;> omega
    refine ⟨by split <;> omega, by split <;> omega, ?_, ?_⟩
    · rw [rangeD_len, em]
      exact Nat.le_trans (Nat.min_le_right _ _) (Nat.le_trans (Nat.le_of_lt h0) (by decide))
    · refine pop_some _ _ _ ?_ h0 fun ys zs hp hn => hq ys zs hp ?_
      · rw [rangeD_len, em]
        exact Nat.min_le_right _ _
      · rw [hn, rangeD_len, em]
  · obtain ⟨k, rfl⟩ : ∃ w0, d2q = .int w0 := by cases d2q <;> first | exact ⟨_, rfl⟩ | exact False.elim hf
    obtain ⟨h0, ⟨h1, h2⟩, hq⟩ := hf
    change (_ : DTS) _ [Sl.d .tok, Sl.d (.tup xs), Sl.d (.int k), Sl.no, Sl.no]
    dsimp only [dSeq, dNext, dIfS, dB, dOp, dVar, dC, dCB, dCons, dNil, dSet, dTok, dRet, dRetN, dCall, rdAdd, rdSub, rdMul, rdMod, rdFdiv, rdPow, rdGt, rdLt, rdLe, rdGe, rdIx, rdInt, rdAbs, rdMax, rdMin, rdLen, dRetTok, dSetO, dListO, dLenO, dIRng1, dRetPop, List.getElem?_cons_zero, List.getElem?_cons_succ, List.set_cons_zero, List.set_cons_succ, bit_dec, bit_t, bit_f, bit_not, blc_bl, Option.some.injEq, exists_eq_left']
    have em : (if (xs.length : Int) < k then (xs.length : Int) else k).toNat = min k.toNat xs.length := by split <;> omega
    refine ⟨by split <;> omega, by split <;> omega, ?_, ?_⟩
    · rw [rangeD_len, em]
      exact Nat.le_trans (Nat.min_le_right _ _) (Nat.le_trans (Nat.le_of_lt h0) (by decide))
    · refine pop_some _ _ _ ?_ h0 fun ys zs hp hn => hq ys zs hp ?_
      · rw [rangeD_len, em]
        exact Nat.min_le_right _ _
      · rw [hn, rangeD_len, em]
theorem nv__law_text {P : Program} {w : World} {mg : Gm} {base : Heap} {Z : Ads} {k : Nat} (A : All mg Z) : DefOk P w mg base k "_law_text" 1 (f_plainK d_text 0) :=
  (DefOk.never (ps := ["_law_kind_here"]) A.d__law_text (fun _ _ _ _ _ _ us hl => by obtain ⟨_, rfl⟩ := FP.ex1 hl; rfl)).mono (Nat.le_refl _) (nope_plainK _)
theorem ok__law_text {P : Program} {w : World} {mg : Gm} {base : Heap} {Z : Ads} {d : Nat} (A : All mg Z) (G__law_text : DefOk P w mg base (d + 1) "_law_text" 1 (f_plainK d_text d)) : DefOk P w mg base (d + 2) "_law_text" 1 (f_plainK d_text (d + 1)) := by
  refine mkDef (N := ["_law_kind_here", "_law_rows", "_law_one"]) (ps := ["_law_kind_here"]) A.d__law_text sc__law_text (fun _ _ _ _ _ _ us hl => by obtain ⟨_, rfl⟩ := FP.ex1 hl; rfl) fun fa cdv Ar outer s H E hr => ⟨_,
    (dss_cons (ds_setO (i := 1) (do_lst da_nil) (fun _ => sc__law_text.nd))
    (dss_cons (ds_for (di_tup (de_ix (de_var 0) de_int)) (dg_name (i := 2) (fun _ => sc__law_text.nd))
    (dss_one (ds_append 1 (de_if (dt_cmp (ok_eqT0 (fun _ => hr.r.units)) (de_ix (de_var 2) de_int) (de_tup da_nil)) (de_call G__law_text (fun _ => hr.mono (by omega)) (fun _ => pas (takes_of rfl rfl rfl rfl)) (da_cons (de_var 2) da_nil)) (de_op ok_add (de_op ok_add de_str (de_call G__law_text (fun _ => hr.mono (by omega)) (fun _ => pas (takes_of rfl rfl rfl rfl)) (da_cons (de_var 2) da_nil))) de_str)) (pe := fun _ _ h => ps_expr (pe_bm PySem.F.plainAttrs_list PySem.F.slot_list_append PySem.F.type_list_append mt_append (pv 1) (pa_cons h pa_nil))))) (fun _ => passes_of rfl))
    (dss_one (ds_frz 1 (ds_ret (de_join de_str (de_op ok_add (de_var 1) (de_lst (da_cons (de_ix (de_var 0) de_int) da_nil))))))))),  fun ds Q Ex hl hf => ?_⟩
  obtain ⟨d0q, rfl⟩ := FP.ex1 hl
  obtain ⟨k, rfl, hg, ho, hq⟩ := hf
  change (_ : DTS) _ [Sl.d (plain k), Sl.no, Sl.no]
  cases k with
  | mk as a =>
  have hfew := hg.few
  have hoo : ordL as < d + 1 := ho
  refine ⟨line rfl, ?_⟩
  refine ix_p0 (k := .mk as a) ?_
  refine for_of plain (fun pre ρ => ∃ o, ρ = [Sl.d (plain (.mk as a)), Sl.own ((texts pre).map .str), o]) as [] _ ⟨_, by rw [texts]; rfl⟩ ?_ ?_
  · rintro j pre post eq ρ K ⟨o, rfl⟩ hK
    have hj := mem_mid eq
    have hlt := ord_lt hj
    have hgj := hg.kid hj
    have hpl : (placesL pre).length + (places j).length ≤ 14 ∧ pre.length ≤ 14 := by
      have h3 := hg.few.1
      rw [List.nil_append] at eq
      rw [eq, placesL_app, List.length_append, placesL, List.length_append] at h3
      have h4 := length_placesL pre
      omega
    have htl := hgj.text_len
    refine ⟨_, rfl, ?_⟩
    refine ix_p0 (k := j) ?_
    refine ⟨line rfl, ?_⟩
    show bit (j.as.map plain).isEmpty _ _
    have em : (j.as.map plain).isEmpty = j.as.isEmpty := by cases j.as <;> rfl
    rw [em]
    have hin : texts (pre ++ [j]) = texts pre ++ [intext j] := by rw [texts_map, texts_map, List.map_append]; rfl
    have hsz : ((texts pre).map D.str).length < sizeLine := by
      rw [List.length_map, texts_map, List.length_map]
      exact Nat.lt_of_le_of_lt hpl.2 (by decide)
    cases he : j.as.isEmpty with
    | true =>
      refine ⟨rfl, j, rfl, hgj, by omega, hsz, hK _ ⟨Sl.d (plain j), ?_⟩⟩
      rw [hin, List.map_append, intext, he]
      rfl
    | false =>
      have e1 : ("(" : Str).length = 1 := rfl
      have e2 : (")" : Str).length = 1 := rfl
      refine ⟨rfl, j, rfl, hgj, by omega, ?_, ?_, hsz, hK _ ⟨Sl.d (plain j), ?_⟩⟩
      · exact size_small (by omega)
      · rw [len_app]; exact size_small (by omega)
      · rw [hin, List.map_append, intext, he]
        rfl
  · rintro ρ ⟨o, rfl⟩
    have ht : ((texts as ++ [a]).map (·.length)).sum + (texts as ++ [a]).length * 4 ≤ 1000 := by
      have h1 := texts_len as fun z hz => (word_len (hg.w z (by rw [places]; exact List.mem_append_left _ hz))).2
      have h2 := (word_len hg.atom).2
      rw [List.map_append, List.sum_append, List.length_append]
      have e1 : ([a].map (·.length)).sum = a.length := by simp
      have e2 : [a].length = 1 := rfl
      rw [e1, e2]
      omega
    refine ix_p1 (k := .mk as a) ?_
    refine ⟨line rfl, ?_, texts as ++ [a], ?_, Nat.le_trans ht (by decide), ?_⟩
    · rw [List.length_map, texts_map, List.length_map]
      exact size_small (by show as.length + 1 ≤ _; omega)
    · have e : (texts ([] ++ as)).map D.str ++ [.str a] = (texts as ++ [a]).map .str := by
        rw [List.map_append, List.nil_append]
        rfl
      exact (congrArg strsD e).trans (strsD_map _)
    · have hq2 : Q (.str (text (.mk as a))) := hq
      rw [text] at hq2
      exact hq2
theorem rs__law_text {P : Program} {w : World} {mg : Gm} {base : Heap} {Z : Ads} (A : All mg Z) : ∀ d : Nat, DefOk P w mg base (d + 1) "_law_text" 1 (f_plainK d_text d)
  | 0 => nv__law_text A
  | d + 1 => ok__law_text A (rs__law_text A d)
theorem nv__law_atoms_of {P : Program} {w : World} {mg : Gm} {base : Heap} {Z : Ads} {k : Nat} (A : All mg Z) : DefOk P w mg base k "_law_atoms_of" 1 (f_plainK d_places 0) :=
  (DefOk.never (ps := ["_law_kind_here"]) A.d__law_atoms_of (fun _ _ _ _ _ _ us hl => by obtain ⟨_, rfl⟩ := FP.ex1 hl; rfl)).mono (Nat.le_refl _) (nope_plainK _)
theorem ok__law_atoms_of {P : Program} {w : World} {mg : Gm} {base : Heap} {Z : Ads} {d : Nat} (A : All mg Z) (G__law_atoms_of : DefOk P w mg base (d + 1) "_law_atoms_of" 1 (f_plainK d_places d)) : DefOk P w mg base (d + 2) "_law_atoms_of" 1 (f_plainK d_places (d + 1)) := by
  refine mkDef (N := ["_law_kind_here", "_law_found", "_law_one"]) (ps := ["_law_kind_here"]) A.d__law_atoms_of sc__law_atoms_of (fun _ _ _ _ _ _ us hl => by obtain ⟨_, rfl⟩ := FP.ex1 hl; rfl) fun fa cdv Ar outer s H E hr => ⟨_,
    (dss_cons (ds_set (i := 1) (de_lst da_nil) (fun _ => sc__law_atoms_of.nd))
    (dss_cons (ds_for (di_tup (de_ix (de_var 0) de_int)) (dg_name (i := 2) (fun _ => sc__law_atoms_of.nd))
    (dss_one (ds_set (i := 1) (de_op ok_add (de_var 1) (de_call G__law_atoms_of (fun _ => hr.mono (by omega)) (fun _ => pas (takes_of rfl rfl rfl rfl)) (da_cons (de_var 2) da_nil))) (fun _ => sc__law_atoms_of.nd))) (fun _ => passes_of rfl))
    (dss_one (ds_ret (de_op ok_add (de_var 1) (de_lst (da_cons (de_ix (de_var 0) de_int) da_nil))))))),  fun ds Q Ex hl hf => ?_⟩
  obtain ⟨d0q, rfl⟩ := FP.ex1 hl
  obtain ⟨k, rfl, hg, ho, hq⟩ := hf
  change (_ : DTS) _ [Sl.d (plain k), Sl.no, Sl.no]
  cases k with
  | mk as a =>
  have hfew := hg.few
  have hoo : ordL as < d + 1 := ho
  refine ⟨line rfl, ?_⟩
  refine ix_p0 (k := .mk as a) ?_
  refine for_of plain (fun pre ρ => ∃ o, ρ = [Sl.d (plain (.mk as a)), Sl.d (.lst ((placesL pre).map .str)), o]) as [] _ ⟨_, by rw [placesL]; rfl⟩ ?_ ?_
  · rintro j pre post eq ρ K ⟨o, rfl⟩ hK
    have hj := mem_mid eq
    have hlt := ord_lt hj
    have hgj := hg.kid hj
    have hpl : (placesL pre).length + (places j).length ≤ 14 ∧ pre.length ≤ 14 := by
      have h3 := hg.few.1
      rw [List.nil_append] at eq
      rw [eq, placesL_app, List.length_append, placesL, List.length_append] at h3
      have h4 := length_placesL pre
      omega
    refine ⟨_, rfl, rfl, j, rfl, hgj, by omega, ?_, hK _ ⟨Sl.d (plain j), ?_⟩⟩
    · rw [List.length_map, List.length_map]
      exact size_small (by omega)
    · rw [placesL_app, placesL_one, List.map_append]
      rfl
  · rintro ρ ⟨o, rfl⟩
    refine ix_p1 (k := .mk as a) ?_
    refine ⟨line rfl, ?_, ?_⟩
    · rw [List.length_map]
      exact size_small (by show (placesL as).length + 1 ≤ _; omega)
    · have hq2 : Q (.lst ((places (.mk as a)).map .str)) := hq
      rw [places, List.map_append] at hq2
      exact hq2
theorem rs__law_atoms_of {P : Program} {w : World} {mg : Gm} {base : Heap} {Z : Ads} (A : All mg Z) : ∀ d : Nat, DefOk P w mg base (d + 1) "_law_atoms_of" 1 (f_plainK d_places d)
  | 0 => nv__law_atoms_of A
  | d + 1 => ok__law_atoms_of A (rs__law_atoms_of A d)
theorem nv__law_made_kind {P : Program} {w : World} {mg : Gm} {base : Heap} {Z : Ads} {k : Nat} (A : All mg Z) : DefOk P w mg base k "_law_made_kind" 1 (f_plainK typeD 0) :=
  (DefOk.never (ps := ["_law_kind_here"]) A.d__law_made_kind (fun _ _ _ _ _ _ us hl => by obtain ⟨_, rfl⟩ := FP.ex1 hl; rfl)).mono (Nat.le_refl _) (nope_plainK _)
theorem ok__law_made_kind {P : Program} {w : World} {mg : Gm} {base : Heap} {Z : Ads} {d : Nat} (A : All mg Z) (G_Type___init__ : InitOk P w mg base 2 "Type" Z.a_Type 2 f_init) (G__law_made_kind : DefOk P w mg base (d + 4) "_law_made_kind" 1 (f_plainK typeD d)) : DefOk P w mg base (d + 5) "_law_made_kind" 1 (f_plainK typeD (d + 1)) := by
  refine mkDef (N := ["_law_kind_here", "_law_one"]) (ps := ["_law_kind_here"]) A.d__law_made_kind sc__law_made_kind (fun _ _ _ _ _ _ us hl => by obtain ⟨_, rfl⟩ := FP.ex1 hl; rfl) fun fa cdv Ar outer s H E hr => ⟨_,
    (dss_one (ds_ret (de_make A.kc_Type G_Type___init__ (fun _ => hr.mono (by omega)) (fun _ => pas (takes_of rfl rfl rfl rfl)) (da_cons (de_callTy ok_tuple A.n_tuple FP.boot_tuple (da_cons (de_lc (own := [("_law_one", 1)]) (fun _ => sc__law_made_kind.nd) (di_tup (de_ix (de_var 0) de_int)) (fun _ => blkOk_by (by kernel_rfl)) (dg_name (i := 1) (fun _ => sc__law_made_kind.nd)) dts_nil (de_call G__law_made_kind (fun _ => hr.mono (by omega)) (fun _ => pas takes0) (da_cons (de_var 1) da_nil))) da_nil)) (da_cons (de_ix (de_var 0) de_int) da_nil))))),  fun ds Q Ex hl hf => ?_⟩
  obtain ⟨d0q, rfl⟩ := FP.ex1 hl
  obtain ⟨k, rfl, hg, ho, hq⟩ := hf
  change (_ : DTS) _ [Sl.d (plain k), Sl.no]
  cases k with
  | mk as a =>
  have hfew := hg.few
  have hoo : ordL as < d + 1 := ho
  refine ix_p0 ?_
  refine ⟨by show (as.map plain).length ≤ _; rw [List.length_map]; exact size_small (by omega), lc_of plain typeD as _ (fun j hj K hK => ⟨_, rfl, rfl, j, rfl, hg.kid hj, by have := ord_lt hj; omega, hK⟩) ?_⟩
  refine tupL ?_
  refine ix_p1 ?_
  refine ⟨rfl, as, rfl, hg, ?_⟩
  rw [typeD_eq] at hq
  exact hq
theorem rs__law_made_kind {P : Program} {w : World} {mg : Gm} {base : Heap} {Z : Ads} (A : All mg Z) (G_Type___init__ : InitOk P w mg base 2 "Type" Z.a_Type 2 f_init) : ∀ d : Nat, DefOk P w mg base (d + 4) "_law_made_kind" 1 (f_plainK typeD d)
  | 0 => nv__law_made_kind A
  | d + 1 => ok__law_made_kind A G_Type___init__ (rs__law_made_kind A G_Type___init__ d)
theorem nv__law_kind {P : Program} {w : World} {mg : Gm} {base : Heap} {Z : Ads} {k : Nat} (A : All mg Z) : DefOk P w mg base k "_law_kind" 4 (f_kind 0) :=
  (DefOk.never (ps := ["_law_dice_here", "_law_atoms", "_law_order_here", "_law_most"]) A.d__law_kind (fun _ _ _ _ _ _ us hl => by obtain ⟨_, _, _, _, rfl⟩ := FP.ex4 hl; rfl)).mono (Nat.le_refl _) nope_kind
theorem ok__law_kind {P : Program} {w : World} {mg : Gm} {base : Heap} {Z : Ads} {d : Nat} (A : All mg Z) (G__law_atoms_of : DefOk P w mg base 6 "_law_atoms_of" 1 (f_plainK d_places 5)) (G__law_kind : DefOk P w mg base (d + 6) "_law_kind" 4 (f_kind d)) (G__law_pick : DefOk P w mg base 2 "_law_pick" 2 f_pick) (G__law_roll : DefOk P w mg base 1 "_law_roll" 2 f_roll) : DefOk P w mg base (d + 7) "_law_kind" 4 (f_kind (d + 1)) := by
  refine mkDef (N := ["_law_dice_here", "_law_atoms", "_law_order_here", "_law_most", "_law_inputs", "_law_left", "_law_turn", "_law_size", "_law_one"]) (ps := ["_law_dice_here", "_law_atoms", "_law_order_here", "_law_most"]) A.d__law_kind sc__law_kind (fun _ _ _ _ _ _ us hl => by obtain ⟨_, _, _, _, rfl⟩ := FP.ex4 hl; rfl) fun fa cdv Ar outer s H E hr => ⟨_,
    (dss_cons (ds_parO (i := 4) (j := 5) (do_lst da_nil) (de_op ok_sub (de_var 3) de_int) (fun _ => sc__law_kind.nd))
    (dss_cons (ds_for (di_range1 A.n_range (da_cons (de_if (dt_cmp ok_gt (de_var 2) de_int) (de_call G__law_roll (fun _ => hr.mono (by omega)) (fun _ => pas (takes_of rfl rfl rfl rfl)) (da_cons (de_var 0) (da_cons de_int da_nil))) de_int) da_nil)) (dg_name (i := 6) (fun _ => sc__law_kind.nd))
    (dss_one (ds_if (dt_cmp ok_gt (de_var 5) de_int)
    (dss_cons (ds_set (i := 7) (de_call G__law_pick (fun _ => hr.mono (by omega)) (fun _ => pas (takes_of rfl rfl rfl rfl)) (da_cons (de_var 0) (da_cons (de_lst (da_cons de_int (da_cons (de_callB ok_min A.n_min FP.boot_min (da_cons de_int (da_cons (de_var 5) da_nil))) (da_cons (de_var 5) da_nil)))) da_nil))) (fun _ => sc__law_kind.nd))
    (dss_cons (ds_set (i := 8) (de_call G__law_kind (fun _ => hr.mono (by omega)) (fun _ => pas (takes_of rfl rfl rfl rfl)) (da_cons (de_var 0) (da_cons (de_var 1) (da_cons (de_call G__law_pick (fun _ => hr.mono (by omega)) (fun _ => pas (takes_of rfl rfl rfl rfl)) (da_cons (de_var 0) (da_cons (de_lst (da_cons de_int (da_cons de_int (da_cons (de_op ok_sub (de_var 2) de_int) da_nil)))) da_nil))) (da_cons (de_var 7) da_nil))))) (fun _ => sc__law_kind.nd))
    (dss_cons (ds_append 4 (de_var 8) (pe := fun _ _ h => ps_expr (pe_bm PySem.F.plainAttrs_list PySem.F.slot_list_append PySem.F.type_list_append mt_append (pv 4) (pa_cons h pa_nil))))
    (dss_one (ds_set (i := 5) (de_op ok_sub (de_var 5) (de_callB ok_len A.n_len FP.boot_len (da_cons (de_call G__law_atoms_of (fun _ => hr.mono (by omega)) (fun _ => pas (takes_of rfl rfl rfl rfl)) (da_cons (de_var 8) da_nil)) da_nil))) (fun _ => sc__law_kind.nd))))))
    dss_nil)) (fun _ => passes_of rfl))
    (dss_one (ds_frz 4 (ds_ret (de_tup (da_cons (de_callTy ok_tuple A.n_tuple FP.boot_tuple (da_cons (de_var 4) da_nil)) (da_cons (de_call G__law_pick (fun _ => hr.mono (by omega)) (fun _ => pas (takes_of rfl rfl rfl rfl)) (da_cons (de_var 0) (da_cons (de_var 1) da_nil))) da_nil)))))))),  fun ds Q Ex hl hf => ?_⟩
  obtain ⟨d0q, d1q, d2q, d3q, rfl⟩ := FP.ex4 hl
  obtain rfl : d0q = .tok := by cases d0q <;> first | rfl | exact False.elim hf
  obtain ⟨_, rfl⟩ : ∃ w0, d1q = .lst w0 := by cases d1q <;> first | exact ⟨_, rfl⟩ | exact False.elim hf
  obtain ⟨o, rfl⟩ : ∃ w0, d2q = .int w0 := by cases d2q <;> first | exact ⟨_, rfl⟩ | exact False.elim hf
  obtain ⟨m, rfl⟩ : ∃ w0, d3q = .int w0 := by cases d3q <;> first | exact ⟨_, rfl⟩ | exact False.elim hf
  obtain ⟨zs, rfl, ⟨hz0, hz1⟩, hw, ⟨ho0, ho4, hod⟩, ⟨hm1, hm15⟩, hq⟩ := hf
  change (_ : DTS) _ [Sl.d .tok, Sl.d (.lst (zs.map .str)), Sl.d (.int o), Sl.d (.int m), Sl.no, Sl.no, Sl.no, Sl.no, Sl.no]
  refine ⟨line rfl, ?_⟩
  show bit (decide (o > 0)) _ _
  by_cases hop : o > 0
  · rw [decide_eq_true hop]
    refine ⟨rfl, ⟨by decide, by decide⟩, fun r hr0 hr1 => ⟨by omega, by omega, ?_⟩⟩
    refine forD_inv (fun ρ => ∃ (ks : List Kd) (l : Int) (a b c : Sl), ρ = [Sl.d .tok, Sl.d (.lst (zs.map .str)), Sl.d (.int o), Sl.d (.int m), Sl.own (ks.map plain), Sl.d (.int l), a, b, c] ∧ (∀ k ∈ ks, (ord k : Int) < o ∧ ∀ z ∈ places k, z ∈ zs) ∧ l = m - 1 - ((placesL ks).length : Int) ∧ 0 ≤ l) _ _ ⟨[], m - 1, _, _, _, rfl, fun _ h => absurd h List.not_mem_nil, by rw [placesL]; simp, by omega⟩ ?_ ?_
    · rintro x hx ρ K ⟨ks, l, a, b, c, rfl, hk, hl, h0⟩ hK
      refine ⟨_, rfl, ?_⟩
      show bit (decide (l > 0)) _ _
      by_cases hlp : l > 0
      · rw [decide_eq_true hlp]
        refine ⟨line rfl, rfl, ⟨show 0 < 3 by decide, show 3 < 1073741824 by decide⟩, fun sz hsz => ?_⟩
        have hsz2 : ∃ s : Int, sz = .int s ∧ 1 ≤ s ∧ s ≤ l := by
          simp only [List.mem_cons, List.not_mem_nil, or_false] at hsz
          rcases hsz with rfl | rfl | rfl
          · exact ⟨1, rfl, by omega, by omega⟩
          · exact ⟨_, rfl, by split <;> omega, by split <;> omega⟩
          · exact ⟨l, rfl, by omega, by omega⟩
        obtain ⟨s, rfl, hs1, hs2⟩ := hsz2
        refine ⟨line rfl, rfl, ⟨show 0 < 3 by decide, show 3 < 1073741824 by decide⟩, fun oo hoo => ?_⟩
        have hoo2 : ∃ o2 : Int, oo = .int o2 ∧ 0 ≤ o2 ∧ o2 < o := by
          simp only [List.mem_cons, List.not_mem_nil, or_false] at hoo
          rcases hoo with rfl | rfl | rfl
          · exact ⟨0, rfl, by omega, by omega⟩
          · exact ⟨0, rfl, by omega, by omega⟩
          · exact ⟨o - 1, rfl, by omega, by omega⟩
        obtain ⟨o2, rfl, ho1, ho2⟩ := hoo2
        refine ⟨rfl, zs, rfl, ⟨hz0, hz1⟩, hw, ⟨ho1, by omega, by omega⟩, ⟨hs1, by omega⟩, fun k h1 h2 h3 => ?_⟩
        have hgk : Good k := ⟨fun z hz => hw z (h3 z hz), by omega, by omega⟩
        have hkl := length_placesL ks
        refine ⟨by rw [List.length_map]; exact Nat.lt_of_le_of_lt (show ks.length ≤ 15 by omega) (by decide), rfl, k, rfl, hgk, by have := hgk.o; omega, hK _ ⟨ks ++ [k], l - (((places k).map D.str).length : Int), Sl.d x, Sl.d (.int s), Sl.d (plain k), ?_, fun j hj => ?_, ?_, ?_⟩⟩
        · rw [List.map_append]
          rfl
        · rcases List.mem_append.mp hj with q | q
          · exact hk j q
          · rw [List.mem_singleton.mp q]
            exact ⟨by omega, h3⟩
        · rw [placesL_app, placesL_one, List.length_append, List.length_map]
          omega
        · rw [List.length_map]
          omega
      · rw [decide_eq_false hlp]
        exact hK _ ⟨ks, l, _, b, c, rfl, hk, hl, h0⟩
    · intro ρ hI
      obtain ⟨ks, l, a, b, c, rfl, hk, hl, h0⟩ := hI
      refine ⟨rfl, ⟨by rw [List.length_map]; omega, by rw [List.length_map]; omega⟩, fun y hy => ⟨line rfl, ?_⟩⟩
      obtain ⟨z, hz, rfl⟩ := List.mem_map.mp hy
      have hqk := hq (.mk ks z) (by
        have h1 : ordL ks ≤ o.toNat := ordL_le fun k hkk => by have := (hk k hkk).1; omega
        show ((ordL ks : Nat) : Int) ≤ o
        omega) (by
        rw [places, List.length_append]
        have e : [z].length = 1 := rfl
        omega) (fun y hy => by
        rw [places] at hy
        rcases List.mem_append.mp hy with q | q
        · rw [placesL_map] at q
          obtain ⟨w, hw1, hw2⟩ := List.mem_flatten.mp q
          obtain ⟨k, hk1, rfl⟩ := List.mem_map.mp hw1
          exact (hk k hk1).2 y hw2
        · rw [List.mem_singleton.mp q]
          exact hz)
      rw [plain_mk] at hqk
      exact hqk
  · rw [decide_eq_false hop]
    refine ⟨by decide, by decide, ?_⟩
    have hI : ∃ (ks : List Kd) (l : Int) (a b c : Sl), [Sl.d .tok, Sl.d (.lst (zs.map .str)), Sl.d (.int o), Sl.d (.int m), Sl.own [], Sl.d (.int (m - 1)), Sl.no, Sl.no, Sl.no] = [Sl.d .tok, Sl.d (.lst (zs.map .str)), Sl.d (.int o), Sl.d (.int m), Sl.own (ks.map plain), Sl.d (.int l), a, b, c] ∧ (∀ k ∈ ks, (ord k : Int) < o ∧ ∀ z ∈ places k, z ∈ zs) ∧ l = m - 1 - ((placesL ks).length : Int) ∧ 0 ≤ l := ⟨[], m - 1, _, _, _, rfl, fun _ h => absurd h List.not_mem_nil, by rw [placesL]; simp, by omega⟩
    refine ⟨rfl, ⟨by rw [List.length_map]; omega, by rw [List.length_map]; omega⟩, fun y hy => ⟨line rfl, ?_⟩⟩
    obtain ⟨z, hz, rfl⟩ := List.mem_map.mp hy
    have hqk := hq (.mk [] z) (by show ((ordL [] : Nat) : Int) ≤ o; rw [ordL]; omega) (by rw [places, placesL]; show ((1 : Nat) : Int) ≤ m; omega) (fun y hy => by
      rw [places, placesL] at hy
      rw [List.mem_singleton.mp hy]
      exact hz)
    rw [plain_mk] at hqk
    exact hqk
theorem rs__law_kind {P : Program} {w : World} {mg : Gm} {base : Heap} {Z : Ads} (A : All mg Z) (G__law_atoms_of : DefOk P w mg base 6 "_law_atoms_of" 1 (f_plainK d_places 5)) (G__law_pick : DefOk P w mg base 2 "_law_pick" 2 f_pick) (G__law_roll : DefOk P w mg base 1 "_law_roll" 2 f_roll) : ∀ d : Nat, DefOk P w mg base (d + 6) "_law_kind" 4 (f_kind d)
  | 0 => nv__law_kind A
  | d + 1 => ok__law_kind A G__law_atoms_of (rs__law_kind A G__law_atoms_of G__law_pick G__law_roll d) G__law_pick G__law_roll
theorem ok__law_made {P : Program} {w : World} {mg : Gm} {base : Heap} {Z : Ads} (A : All mg Z) (G_Library___init__ : InitDf P w mg base 4 "Library" Z.a_Library 1 f_initL) (G__law_made_kind : DefOk P w mg base 9 "_law_made_kind" 1 (f_plainK typeD 5)) : DefOk P w mg base 13 "_law_made" 1 f_madeL := by
  refine mkDef (N := ["_law_library_here", "_law_name"]) (ps := ["_law_library_here"]) A.d__law_made sc__law_made (fun _ _ _ _ _ _ us hl => by obtain ⟨_, rfl⟩ := FP.ex1 hl; rfl) fun fa cdv Ar outer s H E hr => ⟨_,
    (dss_one (ds_ret (de_make A.kc_Library G_Library___init__.one (fun _ => hr.mono (by omega)) (fun _ => pas (takes_of rfl rfl rfl rfl)) (da_cons (de_dictP (de_lc (own := [("_law_name", 1)]) (fun _ => sc__law_made.nd) (di_keys (de_var 0)) (fun _ => blkOk_by (by kernel_rfl)) (dg_name (i := 1) (fun _ => sc__law_made.nd)) dts_nil (de_tup (da_cons (de_var 1) (da_cons (de_call G__law_made_kind (fun _ => hr.mono (by omega)) (fun _ => pas takes0) (da_cons (de_dget (k := 0) (fun _ => hr.mono (by omega)) (de_var 0) (de_var 1)) da_nil)) da_nil)))) A.n_dict FP.boot_dict) da_nil)))),  fun ds Q Ex hl hf => ?_⟩
  obtain ⟨d0q, rfl⟩ := FP.ex1 hl
  obtain ⟨_, rfl⟩ : ∃ w0, d0q = .dct w0 := by cases d0q <;> first | exact ⟨_, rfl⟩ | exact False.elim hf
  obtain ⟨L, rfl, hg, hn, hq⟩ := hf
  have e0 : startD 2 [.dct (rowsL plain L)] = [Sl.d (.dct (rowsL plain L)), Sl.no] := rfl
  have hnN : (["_law_library_here", "_law_name"] : List Str).length = 2 := rfl
  rw [hnN, e0]
  clear e0 hnN
  refine ret_v (libD L) (ev_make (ds := [libT L]) (a1 ?_ a0) rfl fun Q E q => initL_ok hg hn q) hq
  have e := evPairs (ρ := [Sl.d (libP L), Sl.no]) (f := dVar 0) (i := 1) (vs := [1]) (h := plain) (h2 := typeD) (ft := dYes) hg.nd (by omega) (fun _ => true) (fun Q E q => q) (fv := dTup (dCons (dVar 1) (dCons (dCall (f_plainK typeD 5) 1 (dCons (dOp rdDGet (dVar 0) (dVar 1)) dNil)) dNil))) fun p hp => ⟨fun Q E q => q, fun _ => ?_⟩
  · rw [List.filter_eq_self.mpr fun _ _ => rfl] at e
    exact e
  · have hk := hg.g p hp
    refine ev_tup (a1 (fun Q E q => q) (a1 (ev_call (a1 (evGet (h := plain) (L := L) (k := p.2) (fun Q E q => q) (fun Q E q => q) (getL_of hg.nd hp)) a0) rfl fun Q E q => ⟨p.2, rfl, hk, Nat.lt_succ_of_le hk.o, q⟩) a0)) (line rfl)
theorem ok__law_known_library {P : Program} {w : World} {mg : Gm} {base : Heap} {Z : Ads} (A : All mg Z) (G__law_pick : DefOk P w mg base 2 "_law_pick" 2 f_pick) : DefOk P w mg base 3 "_law_known_library" 1 f_libr := by
  refine mkDef (N := ["_law_dice_here", "_law_a", "_law_b", "_law_c", "_law_n", "_law_some_here", "_law_found"]) (ps := ["_law_dice_here"]) A.d__law_known_library sc__law_known_library (fun _ _ _ _ _ _ us hl => by obtain ⟨_, rfl⟩ := FP.ex1 hl; rfl) fun fa cdv Ar outer s H E hr => ⟨_,
    (dss_cons (ds_asg (de_tup (da_cons (de_tup (da_cons (de_tup da_nil) (da_cons de_str da_nil))) (da_cons (de_tup (da_cons (de_tup da_nil) (da_cons de_str da_nil))) (da_cons (de_tup (da_cons (de_tup da_nil) (da_cons de_str da_nil))) (da_cons (de_tup (da_cons (de_tup da_nil) (da_cons de_str da_nil))) da_nil))))) (dg_tup (dgs_cons (dg_name (i := 1) (fun _ => sc__law_known_library.nd)) (dgs_cons (dg_name (i := 2) (fun _ => sc__law_known_library.nd)) (dgs_cons (dg_name (i := 3) (fun _ => sc__law_known_library.nd)) (dgs_cons (dg_name (i := 4) (fun _ => sc__law_known_library.nd)) dgs_nil))))))
    (dss_cons (ds_setO (i := 5) (do_lst (da_cons (de_disp (dps_cons de_str (de_var 4) (dps_cons de_str (de_tup (da_cons (de_tup (da_cons (de_var 4) da_nil)) (da_cons de_str da_nil))) dps_nil))) (da_cons (de_disp (dps_cons de_str (de_tup (da_cons (de_tup (da_cons (de_var 1) da_nil)) (da_cons de_str da_nil))) (dps_cons de_str (de_tup (da_cons (de_tup (da_cons (de_var 2) da_nil)) (da_cons de_str da_nil))) dps_nil))) (da_cons (de_disp (dps_cons de_str (de_tup (da_cons (de_tup (da_cons (de_tup (da_cons (de_tup (da_cons (de_var 1) da_nil)) (da_cons de_str da_nil))) da_nil)) (da_cons de_str da_nil))) (dps_cons de_str (de_var 2) dps_nil))) da_nil)))) (fun _ => sc__law_known_library.nd))
    (dss_cons (ds_append 5 (de_disp (dps_cons de_str (de_tup (da_cons (de_tup (da_cons (de_tup (da_cons (de_tup (da_cons (de_var 1) da_nil)) (da_cons de_str da_nil))) da_nil)) (da_cons de_str da_nil))) (dps_cons de_str (de_tup (da_cons (de_tup (da_cons (de_var 1) da_nil)) (da_cons de_str da_nil))) (dps_cons de_str (de_var 1) dps_nil)))) (pe := fun _ _ h => ps_expr (pe_bm PySem.F.plainAttrs_list PySem.F.slot_list_append PySem.F.type_list_append mt_append (pv 5) (pa_cons h pa_nil))))
    (dss_cons (ds_append 5 (de_disp (dps_cons de_str (de_tup (da_cons (de_tup (da_cons (de_var 1) (da_cons (de_var 2) da_nil))) (da_cons de_str da_nil))) (dps_cons de_str (de_var 1) (dps_cons de_str (de_var 2) (dps_cons de_str (de_tup (da_cons (de_tup (da_cons (de_var 3) da_nil)) (da_cons de_str da_nil))) dps_nil))))) (pe := fun _ _ h => ps_expr (pe_bm PySem.F.plainAttrs_list PySem.F.slot_list_append PySem.F.type_list_append mt_append (pv 5) (pa_cons h pa_nil))))
    (dss_cons (ds_frz 5 (ds_setOD (i := 6) (dod_pairs (de_li A.n_list (de_call G__law_pick (fun _ => hr.mono (by omega)) (fun _ => pas (takes_of rfl rfl rfl rfl)) (da_cons (de_var 0) (da_cons (de_var 5) da_nil)))) A.n_dict FP.boot_dict) (fun _ => sc__law_known_library.nd)))
    (dss_cons (ds_odPop 6 de_str de_non)
    (dss_cons (ds_if (dt_w (dw_and (dt_inOD 6 (m := 0) (fun _ => hr.mono (by omega)) de_str) (dw_and1 (dt_notInOD 6 (m := 0) (fun _ => hr.mono (by omega)) de_str))))
    (dss_one (ds_odPut 6 (m := 0) (fun _ => hr.mono (by omega)) de_str (de_var 2)))
    dss_nil)
    (dss_one (ds_frzD 6 (ds_ret (de_var 6))))))))))),  fun ds Q Ex hl hf => ?_⟩
  obtain ⟨d0q, rfl⟩ := FP.ex1 hl
  obtain rfl : d0q = .tok := by cases d0q <;> first | rfl | exact False.elim hf
  have hq := hf
  have e0 : startD 7 [.tok] = [Sl.d (.tok), Sl.no, Sl.no, Sl.no, Sl.no, Sl.no, Sl.no] := rfl
  have hnN : (["_law_dice_here", "_law_a", "_law_b", "_law_c", "_law_n", "_law_some_here", "_law_found"] : List Str).length = 7 := rfl
  rw [hnN, e0]
  clear e0 hnN
  refine seq_as (.tup [plain qa, plain qb, plain qc, plain qn]) (fun Q E q => by repeat (first | exact q | refine ⟨line rfl, ?_⟩)) rfl ?_
  refine seq_oN (ds := [libP q1, libP q2, libP q3]) (a1 (evDispL (by repeat' (first | exact kv0 | exact a0 | refine kv1 (fun Q E q => q) rfl ?_ ?_ | exact (fun Q E q => q) | refine evPl ?_ (by decide) | refine a1 ?_ ?_)) (by decide +kernel) (by decide)) (a1 (evDispL (by repeat' (first | exact kv0 | exact a0 | refine kv1 (fun Q E q => q) rfl ?_ ?_ | exact (fun Q E q => q) | refine evPl ?_ (by decide) | refine a1 ?_ ?_)) (by decide +kernel) (by decide)) (a1 (evDispL (by repeat' (first | exact kv0 | exact a0 | refine kv1 (fun Q E q => q) rfl ?_ ?_ | exact (fun Q E q => q) | refine evPl ?_ (by decide) | refine a1 ?_ ?_)) (by decide +kernel) (by decide)) a0))) (line rfl) ?_
  refine seq_app rfl (libP q4) (line_lt rfl) (evDispL (by repeat' (first | exact kv0 | exact a0 | refine kv1 (fun Q E q => q) rfl ?_ ?_ | exact (fun Q E q => q) | refine evPl ?_ (by decide) | refine a1 ?_ ?_)) (by decide +kernel) (by decide)) ?_
  refine seq_app rfl (libP q5) (line_lt rfl) (evDispL (by repeat' (first | exact kv0 | exact a0 | refine kv1 (fun Q E q => q) rfl ?_ ?_ | exact (fun Q E q => q) | refine evPl ?_ (by decide) | refine a1 ?_ ?_)) (by decide +kernel) (by decide)) ?_
  refine seq_frz rfl ?_
  refine seq_setODP (fun kvs => ∃ L, L ∈ [q1, q2, q3, q4, q5] ∧ kvs = rowsL plain L) (fun Q E q => ⟨rfl, pkN rfl, fun d hd => ?_⟩) ?_
  · obtain ⟨L, hL, rfl⟩ : ∃ L, L ∈ [q1, q2, q3, q4, q5] ∧ d = libP L := by
      simp only [List.mem_append, List.mem_cons, List.not_mem_nil, or_false] at hd
      rcases hd with ((rfl | rfl | rfl) | rfl) | rfl
      · exact ⟨q1, by simp, rfl⟩
      · exact ⟨q2, by simp, rfl⟩
      · exact ⟨q3, by simp, rfl⟩
      · exact ⟨q4, by simp, rfl⟩
      · exact ⟨q5, by simp, rfl⟩
    have hg := q_good hL
    refine ⟨by rw [len_rows]; exact size_small (by omega), _, pairs_items L, ?_⟩
    rw [show mergeD [] (rowsL plain L) = rowsL plain L from merge_F hg.1.nd]
    exact q _ ⟨L, hL, rfl⟩
  rintro _ ⟨L, hL, rfl⟩
  refine seq_odPop rfl (.inr "x") (.str "x") .non rfl (fun Q E q => q) (fun Q E q => q) ?_
  obtain ⟨hg, hd1, hl4⟩ := q_good hL
  have hgd := dropL_g hg "x"
  have hdl := dropL_len L "x"
  rw [drop_rows]
  have ev := and_v (c := dB (dInOD false 6 (dC (.str "k")))) (d := dB (dInOD true 6 (dC (.str "g")))) (b_v (ev_inOD (ρ := [Sl.d .tok, Sl.d (plain qa), Sl.d (plain qb), Sl.d (plain qc), Sl.d (plain qn), Sl.d (.lst [libP q1, libP q2, libP q3, libP q4, libP q5]), Sl.od (rowsL plain (dropL L "x"))]) (neg := false) (kk := .inr "k") rfl (fun Q E q => q) rfl)) fun _ => b_v (ev_inOD (neg := true) (kk := .inr "g") rfl (fun Q E q => q) rfl)
  refine seq_if _ ev ?_
  refine bitS (fun _ => ?_) (fun _ => ?_)
  · refine seq_odPut rfl (.inr "w") (.str "w") (plain qb) rfl (by rw [len_rows]; exact Nat.lt_of_le_of_lt (show _ ≤ 4 by omega) (by decide)) (fun Q E q => q) (fun Q E q => q) ?_
    rw [put_rows]
    have hp := len_put (dropL L "x") "w" qb
    exact frzD rfl (ret_v _ (fun Q E q => q) (hq _ (hgd.put (by decide +kernel) qb_good) (by omega) (by omega)))
  · refine seq_next ?_
    refine frzD rfl ?_
    exact ret_v (libP (dropL L "x")) (fun Q E q => q) (hq _ hgd hd1 (by omega))
theorem ok__law_library {P : Program} {w : World} {mg : Gm} {base : Heap} {Z : Ads} (A : All mg Z) (G__law_kind : DefOk P w mg base 11 "_law_kind" 4 (f_kind 5)) (G__law_known_library : DefOk P w mg base 3 "_law_known_library" 1 f_libr) (G__law_pick : DefOk P w mg base 2 "_law_pick" 2 f_pick) (G__law_roll : DefOk P w mg base 1 "_law_roll" 2 f_roll) (G__law_some : DefOk P w mg base 2 "_law_some" 3 f_some) : DefOk P w mg base 13 "_law_library" 1 f_libr := by
  refine mkDef (N := ["_law_dice_here", "_law_way", "_law_found", "_law_atoms", "_law_name"]) (ps := ["_law_dice_here"]) A.d__law_library sc__law_library (fun _ _ _ _ _ _ us hl => by obtain ⟨_, rfl⟩ := FP.ex1 hl; rfl) fun fa cdv Ar outer s H E hr => ⟨_,
    (dss_cons (ds_parOD (i := 1) (j := 2) (de_call G__law_roll (fun _ => hr.mono (by omega)) (fun _ => pas (takes_of rfl rfl rfl rfl)) (da_cons (de_var 0) (da_cons de_int da_nil))) dod_new (fun _ => sc__law_library.nd))
    (dss_cons (ds_if (dt_cmp (ok_eq (fun _ => hr.r.units)) (de_var 1) de_int)
    (dss_one (ds_ret (de_call G__law_known_library (fun _ => hr.mono (by omega)) (fun _ => pas (takes_of rfl rfl rfl rfl)) (da_cons (de_var 0) da_nil))))
    dss_nil)
    (dss_cons (ds_set (i := 3) (de_call G__law_pick (fun _ => hr.mono (by omega)) (fun _ => pas (takes_of rfl rfl rfl rfl)) (da_cons (de_var 0) (da_cons (de_lst (da_cons (de_lst (da_cons de_str (da_cons de_str da_nil))) (da_cons (de_lst (da_cons de_str (da_cons de_str (da_cons de_str da_nil)))) (da_cons (de_lst (da_cons de_str (da_cons de_str (da_cons de_str da_nil)))) da_nil)))) da_nil))) (fun _ => sc__law_library.nd))
    (dss_cons (ds_for (di_list (de_call G__law_some (fun _ => hr.mono (by omega)) (fun _ => pas (takes_of rfl rfl rfl rfl)) (da_cons (de_var 0) (da_cons (de_lst (da_cons de_str (da_cons de_str (da_cons de_str (da_cons de_str (da_cons de_str da_nil)))))) (da_cons (de_op ok_add de_int (de_call G__law_roll (fun _ => hr.mono (by omega)) (fun _ => pas (takes_of rfl rfl rfl rfl)) (da_cons (de_var 0) (da_cons de_int da_nil)))) da_nil))))) (dg_name (i := 4) (fun _ => sc__law_library.nd))
    (dss_one (ds_odPut 2 (m := 0) (fun _ => hr.mono (by omega)) (de_var 4) (de_call G__law_kind (fun _ => hr.mono (by omega)) (fun _ => pas (takes_of rfl rfl rfl rfl)) (da_cons (de_var 0) (da_cons (de_var 3) (da_cons (de_call G__law_pick (fun _ => hr.mono (by omega)) (fun _ => pas (takes_of rfl rfl rfl rfl)) (da_cons (de_var 0) (da_cons (de_lst (da_cons de_int (da_cons de_int (da_cons de_int (da_cons de_int da_nil))))) da_nil))) (da_cons de_int da_nil))))))) (fun _ => passes_of rfl))
    (dss_one (ds_frzD 2 (ds_ret (de_var 2)))))))),  fun ds Q Ex hl hf => ?_⟩
  obtain ⟨d0q, rfl⟩ := FP.ex1 hl
  obtain rfl : d0q = .tok := by cases d0q <;> first | rfl | exact False.elim hf
  have hq := hf
  have e0 : startD 5 [.tok] = [Sl.d (.tok), Sl.no, Sl.no, Sl.no, Sl.no] := rfl
  have hnN : (["_law_dice_here", "_law_way", "_law_found", "_law_atoms", "_law_name"] : List Str).length = 5 := rfl
  rw [hnN, e0]
  clear e0 hnN
  refine seq_parOD (fun d => ∃ r : Int, d = .int r) (fun Q E q => ⟨rfl, ⟨by decide, by decide⟩, fun r _ _ => q _ ⟨r, rfl⟩⟩) ?_
  rintro _ ⟨r, rfl⟩
  refine seq_if (decide (r = 0)) (b_v (ev_op (fun Q E q => q) (fun Q E q => q) fun Q q => eq_int q)) ?_
  refine bitS (fun _ => ?_) (fun _ => ?_)
  · exact seq_ret (ret_call (a1 (fun Q E q => q) a0) rfl hq)
  refine seq_next ?_
  refine seq_p (fun d => ∃ zs : List Str, d = .lst (zs.map .str) ∧ (0 < zs.length ∧ zs.length < 1000) ∧ ∀ z ∈ zs, isWordS z = true) (fun Q E q => ⟨line rfl, line rfl, line rfl, line rfl, rfl, pkN rfl, fun d hd => q d ?_⟩) ?_
  · simp only [List.mem_cons, List.not_mem_nil, or_false] at hd
    rcases hd with rfl | rfl | rfl
    · exact ⟨["a", "b"], rfl, ⟨by decide, by decide⟩, by decide +kernel⟩
    · exact ⟨["a", "b", "c"], rfl, ⟨by decide, by decide⟩, by decide +kernel⟩
    · exact ⟨["a", "b", "c"], rfl, ⟨by decide, by decide⟩, by decide +kernel⟩
  rintro _ ⟨zs, rfl, hz, hw⟩
  refine seq_forP (fun ds => ∃ ys us : List Str, ds = ys.map .str ∧ (ys ++ us).Perm ["f", "g", "h", "k", "z"] ∧ 1 ≤ ys.length ∧ ys.length ≤ 5) (fun Q E q => ⟨line rfl, rfl, ⟨by decide, by decide⟩, fun r hr0 hr1 => ⟨rfl, by decide, ⟨by omega, by omega⟩, fun ys us hp hn => ?_⟩⟩) ?_
  · obtain ⟨ys', us', rfl, rfl, hp2⟩ := perm_strs (ws := ["f", "g", "h", "k", "z"]) hp
    rw [List.length_map] at hn
    have hn2 : ys'.length = min (1 + r).toNat 5 := hn
    exact q _ ⟨ys', us', rfl, hp2, by omega, by omega⟩
  rintro _ ⟨ys, us, rfl, hp, hy1, hy5⟩
  have hnd : ys.Nodup := (List.nodup_append.mp (hp.nodup_iff.mpr (by decide +kernel))).1
  have hyw : ∀ y ∈ ys, isWordS y = true := fun y hy => (by decide +kernel : ∀ z ∈ (["f", "g", "h", "k", "z"] : List Str), isWordS z = true) y (hp.mem_iff.mp (List.mem_append_left _ hy))
  refine for_of D.str (fun pre ρ => ∃ M u, ρ = [Sl.d .tok, Sl.d (.int r), Sl.od (rowsL plain M), Sl.d (.lst (zs.map .str)), u] ∧ LibG M ∧ keysL M = pre) ys [] _ ⟨[], _, rfl, LibG.nil, rfl⟩ ?_ ?_
  · rintro y pre post eq ρ K ⟨M, u, rfl, hM, hk⟩ hK
    rw [List.nil_append] at eq
    have hml : M.length ≤ 5 := by
      have h1 := congrArg List.length hk
      have h2 := congrArg List.length eq
      unfold keysL at h1
      rw [List.length_map] at h1
      rw [List.length_append, List.length_cons] at h2
      omega
    have hny : y ∉ keysL M := fun m => by
      rw [hk] at m
      rw [eq] at hnd
      exact (List.nodup_append.mp hnd).2.2 y m y List.mem_cons_self rfl
    refine ⟨_, rfl, ?_⟩
    refine odPutP rfl (.inr y) (.str y) (fun d => ∃ k, d = plain k ∧ Good k) rfl (by rw [len_rows]; exact Nat.lt_of_le_of_lt (show _ ≤ 5 by omega) (by decide)) (fun Q E q => q) (fun Q E q => ⟨line rfl, rfl, pkN rfl, fun o ho => ?_⟩) ?_
    · obtain ⟨n, rfl, h0, h1⟩ : ∃ n : Int, o = .int n ∧ 0 ≤ n ∧ n ≤ 2 := by
        simp only [List.mem_cons, List.not_mem_nil, or_false] at ho
        rcases ho with rfl | rfl | rfl | rfl
        · exact ⟨0, rfl, by decide, by decide⟩
        · exact ⟨1, rfl, by decide, by decide⟩
        · exact ⟨1, rfl, by decide, by decide⟩
        · exact ⟨2, rfl, by decide, by decide⟩
      exact ⟨rfl, zs, rfl, hz, hw, ⟨h0, by omega, by omega⟩, ⟨by decide, by decide⟩, fun k e1 e2 e3 => q _ ⟨k, rfl, ⟨fun x hx => hw x (e3 x hx), by omega, by omega⟩⟩⟩
    · rintro _ ⟨k, rfl, hgk⟩
      rw [put_rows]
      refine hK _ ⟨putL1 M y k, _, rfl, hM.put (hyw y (by rw [eq]; simp)) hgk, ?_⟩
      rw [keys_put, if_neg hny, hk]
  · rintro ρ ⟨M, u, rfl, hM, hk⟩
    have hml : M.length = ys.length := by
      have h1 := congrArg List.length hk
      unfold keysL at h1
      rw [List.length_map] at h1
      exact h1
    dsimp only
    refine frzD rfl ?_
    exact ret_v (libP M) (fun Q E q => q) (hq M hM (by omega) (by omega))
theorem ok__law_lines {P : Program} {w : World} {mg : Gm} {base : Heap} {Z : Ads} (A : All mg Z) (G__law_text : DefOk P w mg base 6 "_law_text" 1 (f_plainK d_text 5)) : DefOk P w mg base 8 "_law_lines" 1 f_linesP := by
  refine mkDef (N := ["_law_library_here", "_law_name"]) (ps := ["_law_library_here"]) A.d__law_lines sc__law_lines (fun _ _ _ _ _ _ us hl => by obtain ⟨_, rfl⟩ := FP.ex1 hl; rfl) fun fa cdv Ar outer s H E hr => ⟨_,
    (dss_one (ds_ret (de_lc (own := [("_law_name", 1)]) (fun _ => sc__law_lines.nd) (di_list (de_callB ok_sortedD A.n_sorted FP.boot_sorted (da_cons (de_var 0) da_nil))) (fun _ => blkOk_by (by kernel_rfl)) (dg_name (i := 1) (fun _ => sc__law_lines.nd)) dts_nil (de_op ok_add (de_op ok_add (de_var 1) de_str) (de_call G__law_text (fun _ => hr.mono (by omega)) (fun _ => pas takes0) (da_cons (de_dget (k := 0) (fun _ => hr.mono (by omega)) (de_var 0) (de_var 1)) da_nil)))))),  fun ds Q Ex hl hf => ?_⟩
  obtain ⟨d0q, rfl⟩ := FP.ex1 hl
  obtain ⟨_, rfl⟩ : ∃ w0, d0q = .dct w0 := by cases d0q <;> first | exact ⟨_, rfl⟩ | exact False.elim hf
  obtain ⟨L, rfl, hL, h1, hq⟩ := hf
  have e0 : startD 2 [.dct (rowsL plain L)] = [Sl.d (.dct (rowsL plain L)), Sl.no] := rfl
  have hnN : (["_law_library_here", "_law_name"] : List Str).length = 2 := rfl
  rw [hnN, e0]
  clear e0 hnN
  have hks : (sortS (keysL L)).length = L.length := by rw [(sortS_perm _).length_eq]; exact List.length_map _
  refine ret_v (.lst ((linesL L).map .str)) ?_ hq
  have e := ev_lc (ρ := [Sl.d (.dct (rowsL plain L)), Sl.no]) (w := dIList (dCB rdSortedD (dCons (dVar 0) dNil))) (T := .one 1) (vs := [1]) (f := dOp rdAdd (dOp rdAdd (dVar 1) (dC (.str " : "))) (dCall (f_plainK d_text 5) 1 (dCons (dOp rdDGet (dVar 0) (dVar 1)) dNil))) (fun z : Str => D.str z) (fun z => .str (lineS (z, kindAt L z))) (xs := sortS (keysL L)) (fun Q E q => ⟨keysL L, keys_F _ _ L, by rw [show (keysL L).length = L.length from List.length_map _]; omega, q⟩) (size_small (by omega)) fun z hz => ⟨_, rfl, ?_⟩
  · have el : (linesL L).map D.str = (sortS (keysL L)).map fun z => D.str (lineS (z, kindAt L z)) := by
      unfold linesL sortL pickL
      rw [List.map_map, List.map_map]
      rfl
    rw [el]
    exact e
  · obtain ⟨k, hk, hm⟩ := getL_in ((sortS_perm _).mem_iff.mp hz)
    rw [kindAt_of hk]
    have hg := hL.g _ hm
    have hwz : z.length ≤ 8 := (word_len (hL.w _ hm)).2
    have htl : (text k).length ≤ 300 := Good.text_len hg
    have e3 : (" : " : Str).length = 3 := by decide +kernel
    refine ev_op (x := .str (z ++ " : ")) (y := .str (text k)) (ev_op (x := .str z) (y := .str " : ") (fun Q E q => q) (fun Q E q => q) fun Q q => ⟨by rw [e3]; exact size_small (by omega), q⟩) (ev_call (a1 (evGet (h := plain) (L := L) (fun Q E q => q) (fun Q E q => q) hk) a0) rfl fun Q E q => ⟨k, rfl, hg, Nat.lt_succ_of_le hg.o, q⟩) fun Q q => ⟨by rw [len_app, e3]; exact size_small (by omega), q⟩
theorem ok__law_library_atoms {P : Program} {w : World} {mg : Gm} {base : Heap} {Z : Ads} (A : All mg Z) (G__law_atoms_of : DefOk P w mg base 6 "_law_atoms_of" 1 (f_plainK d_places 5)) : DefOk P w mg base 8 "_law_library_atoms" 1 f_atomsP := by
  refine mkDef (N := ["_law_library_here", "_law_found", "_law_name"]) (ps := ["_law_library_here"]) A.d__law_library_atoms sc__law_library_atoms (fun _ _ _ _ _ _ us hl => by obtain ⟨_, rfl⟩ := FP.ex1 hl; rfl) fun fa cdv Ar outer s H E hr => ⟨_,
    (dss_cons (ds_set (i := 1) (de_lst da_nil) (fun _ => sc__law_library_atoms.nd))
    (dss_cons (ds_for (di_keys (de_var 0)) (dg_name (i := 2) (fun _ => sc__law_library_atoms.nd))
    (dss_one (ds_set (i := 1) (de_op ok_add (de_var 1) (de_call G__law_atoms_of (fun _ => hr.mono (by omega)) (fun _ => pas (takes_of rfl rfl rfl rfl)) (da_cons (de_dget (k := 0) (fun _ => hr.mono (by omega)) (de_var 0) (de_var 2)) da_nil))) (fun _ => sc__law_library_atoms.nd))) (fun _ => passes_of rfl))
    (dss_one (ds_ret (de_sortSet (de_var 1) A.n_sorted A.n_set FP.boot_sorted FP.boot_set))))),  fun ds Q Ex hl hf => ?_⟩
  obtain ⟨d0q, rfl⟩ := FP.ex1 hl
  obtain ⟨_, rfl⟩ : ∃ w0, d0q = .dct w0 := by cases d0q <;> first | exact ⟨_, rfl⟩ | exact False.elim hf
  obtain ⟨L, rfl, hL, h1, hq⟩ := hf
  have e0 : startD 3 [.dct (rowsL plain L)] = [Sl.d (.dct (rowsL plain L)), Sl.no, Sl.no] := rfl
  have hnN : (["_law_library_here", "_law_found", "_law_name"] : List Str).length = 3 := rfl
  rw [hnN, e0]
  clear e0 hnN
  have hpl : ∀ p ∈ L, (places p.2).length ≤ 15 := fun p hp => (hL.g p hp).p
  refine seq_v (.lst []) (ev_lst a0 (line rfl)) ?_
  refine seq_for (L.map fun p => .str p.1) (evKeys (h := plain) fun Q E q => q) ?_
  refine for_of (fun p : Str × Kd => D.str p.1) (fun pre ρ => ∃ u, ρ = [Sl.d (.dct (rowsL plain L)), Sl.d (.lst (((pre.map fun p => places p.2).flatten).map .str)), u]) L [] _ ⟨_, rfl⟩ ?_ ?_
  · rintro p pre post eq ρ K ⟨u, rfl⟩ hK
    rw [List.nil_append] at eq
    have hp : p ∈ L := by rw [eq]; simp
    have hfl := flat_len (fun p : Str × Kd => places p.2) 15 pre fun r hr => hpl r (by rw [eq]; exact List.mem_append_left _ hr)
    have hpre : pre.length ≤ 8 := by
      have e := congrArg List.length eq
      rw [List.length_append, List.length_cons] at e
      omega
    have hg := hL.g p hp
    have hp15 := hg.p
    refine ⟨_, rfl, ?_⟩
    refine ⟨.inr p.1, plain p.2, rfl, by rw [val_rows, getL_of hL.nd hp]; rfl, rfl, p.2, rfl, hg, Nat.lt_succ_of_le hg.o, ?_, hK _ ⟨Sl.d (.str p.1), ?_⟩⟩
    · rw [List.length_map, List.length_map]
      exact size_small (by omega)
    · have e : ((pre ++ [p]).map fun p => places p.2).flatten = (pre.map fun p => places p.2).flatten ++ places p.2 := by simp
      rw [e, List.map_append]
      rfl
  rintro ρ ⟨u, rfl⟩
  rw [List.nil_append]
  have hfl := flat_len (fun p : Str × Kd => places p.2) 15 L hpl
  dsimp only
  refine ret_v (.lst ((atomsL L).map .str)) (fun Q E q => ?_) hq
  refine ⟨((L.map fun p => places p.2).flatten), strsD_map _, by omega, ?_⟩
  have e : sortU ((L.map fun p => places p.2).flatten) = atomsL L := sortU_congr fun z => by
    rw [List.mem_flatten, List.mem_flatten]
    constructor
    · rintro ⟨xs, hxs, hz⟩
      obtain ⟨p, hp, rfl⟩ := List.mem_map.mp hxs
      exact ⟨_, List.mem_map.mpr ⟨p, (mem_sort hL.nd p).mpr hp, rfl⟩, atomsK_mem.mpr hz⟩
    · rintro ⟨xs, hxs, hz⟩
      obtain ⟨p, hp, rfl⟩ := List.mem_map.mp hxs
      exact ⟨_, List.mem_map.mpr ⟨p, (mem_sort hL.nd p).mp hp, rfl⟩, atomsK_mem.mp hz⟩
  rw [e]
  exact q
theorem nv__law_order {P : Program} {w : World} {mg : Gm} {base : Heap} {Z : Ads} {k : Nat} (A : All mg Z) : DefOk P w mg base k "_law_order" 1 (f_plainK d_order 0) :=
  (DefOk.never (ps := ["_law_kind_here"]) A.d__law_order (fun _ _ _ _ _ _ us hl => by obtain ⟨_, rfl⟩ := FP.ex1 hl; rfl)).mono (Nat.le_refl _) (nope_plainK _)
theorem ok__law_order {P : Program} {w : World} {mg : Gm} {base : Heap} {Z : Ads} {d : Nat} (A : All mg Z) (G__law_order : DefOk P w mg base (d + 1) "_law_order" 1 (f_plainK d_order d)) : DefOk P w mg base (d + 2) "_law_order" 1 (f_plainK d_order (d + 1)) := by
  refine mkDef (N := ["_law_kind_here", "_law_one"]) (ps := ["_law_kind_here"]) A.d__law_order sc__law_order (fun _ _ _ _ _ _ us hl => by obtain ⟨_, rfl⟩ := FP.ex1 hl; rfl) fun fa cdv Ar outer s H E hr => ⟨_,
    (dss_one (ds_ret (de_if (dt_cmp (ok_neT0 (fun _ => hr.r.units)) (de_ix (de_var 0) de_int) (de_tup da_nil)) (de_op ok_add de_int (de_callB ok_maxL A.n_max FP.boot_max (da_cons (de_lc (own := [("_law_one", 1)]) (fun _ => sc__law_order.nd) (di_tup (de_ix (de_var 0) de_int)) (fun _ => blkOk_by (by kernel_rfl)) (dg_name (i := 1) (fun _ => sc__law_order.nd)) dts_nil (de_call G__law_order (fun _ => hr.mono (by omega)) (fun _ => pas takes0) (da_cons (de_var 1) da_nil))) da_nil))) de_int))),  fun ds Q Ex hl hf => ?_⟩
  obtain ⟨d0q, rfl⟩ := FP.ex1 hl
  obtain ⟨k, rfl, hg, ho, hq⟩ := hf
  change (_ : DTS) _ [Sl.d (plain k), Sl.no]
  cases k with
  | mk as a =>
  have hfew := hg.few
  have hoo : ordL as < d + 1 := ho
  refine ix_p0 (k := .mk as a) ?_
  refine ⟨line rfl, ?_⟩
  show bit (!(as.map plain).isEmpty) _ _
  have hq2 : Q (.int (ordL as)) := hq
  cases as with
  | nil => exact hq2
  | cons k0 r =>
    refine ix_p0 (k := .mk (k0 :: r) a) ?_
    refine ⟨by show ((k0 :: r).map plain).length ≤ _; rw [List.length_map]; exact size_small (by omega), lc_of plain (fun k => .int (ord k)) (k0 :: r) _ (fun j hj K hK => ⟨_, rfl, rfl, j, rfl, hg.kid hj, by have := ord_lt hj; omega, hK⟩) ⟨(k0 :: r).map fun k => (ord k : Int), ?_, ?_, fun m hm hy => ?_⟩⟩
    · have e := intsD_map ((k0 :: r).map fun k => (ord k : Int))
      rw [List.map_map] at e
      exact e
    · simp
    · have e := ordL_max hm hy
      show Q (.int (1 + m))
      rw [e]
      exact hq2
theorem rs__law_order {P : Program} {w : World} {mg : Gm} {base : Heap} {Z : Ads} (A : All mg Z) : ∀ d : Nat, DefOk P w mg base (d + 1) "_law_order" 1 (f_plainK d_order d)
  | 0 => nv__law_order A
  | d + 1 => ok__law_order A (rs__law_order A d)
end K10
namespace K10
open PySem L2 FP
variable [FP.Tabl]
open KP
theorem ok__law_told_right {P : Program} {w : World} {mg : Gm} {base : Heap} {Z : Ads} (A : All mg Z) (G_Library___contains__ : SpecOk P w mg base 1 Z.a_Library "__contains__" 2 f_contL) (G_Library___getitem__ : SpecOk P w mg base 3 Z.a_Library "__getitem__" 2 f_itemL) (G_Library___iter__ : IterOk P w mg base 1 Z.a_Library "own_names") (G_Library___len__ : SpecOk P w mg base 1 Z.a_Library "__len__" 1 f_lenL) (G_Library___str__ : SpecOk P w mg base 11 Z.a_Library "__str__" 1 f_str10) (G_Library_atoms : PropOk P w mg base 10 Z.a_Library "atoms" f_atomsL) (G_Library_heads : MethOk P w mg base 3 Z.a_Library "heads" 2 f_heads10) (G_Library_lines : PropOk P w mg base 1 Z.a_Library "lines" f_linesL) (G_Library_names : PropOk P w mg base 1 Z.a_Library "names" f_namesL) (G_Library_order : PropOk P w mg base 1 Z.a_Library "order" f_order10) (G_Library_parts : PropOk P w mg base 1 Z.a_Library "parts" f_parts10) (G_Library_scope : PropOk P w mg base 1 Z.a_Library "scope" f_scope10) (G_Type_plain : CMethOk P w mg base 4 Z.a_Type "plain" 2 f_plain) (G_Type_text : PropOk P w mg base 1 Z.a_Type "text" (f_tell d_text)) (G__law_library_atoms : DefOk P w mg base 8 "_law_library_atoms" 1 f_atomsP) (G__law_lines : DefOk P w mg base 8 "_law_lines" 1 f_linesP) (G__law_order : DefOk P w mg base 6 "_law_order" 1 (f_plainK d_order 5)) (G__law_text : DefOk P w mg base 6 "_law_text" 1 (f_plainK d_text 5)) : DefOk P w mg base 14 "_law_told_right" 2 f_told10 := by
  refine mkDef (N := ["_law_made_here", "_law_library_here", "_law_names", "_law_atoms", "_law_told", "_law_due", "_law_order_here", "_law_text_here", "_law_name", "_law_atom", "_law_odd", "_law_one"]) (ps := ["_law_made_here", "_law_library_here"]) A.d__law_told_right sc__law_told_right (fun _ _ _ _ _ _ us hl => by obtain ⟨_, _, rfl⟩ := FP.ex2 hl; rfl) fun fa cdv Ar outer s H E hr => ⟨_,
    (dss_cons (ds_par (i := 2) (j := 3) (da_cons (de_callB ok_sortedD A.n_sorted FP.boot_sorted (da_cons (de_var 1) da_nil)) (da_cons (de_call G__law_library_atoms (fun _ => hr.mono (by omega)) (fun _ => pas (takes_of rfl rfl rfl rfl)) (da_cons (de_var 1) da_nil)) da_nil)) (fun _ => sc__law_told_right.nd))
    (dss_cons (ds_set (i := 4) (de_lst (da_cons (de_lc (own := [("_law_name", 8)]) (fun _ => sc__law_told_right.nd) (di_keys (de_prop A.kc_Library G_Library_parts (fun _ => hr.mono (by omega)) (de_var 0))) (fun _ => blkOk_by (by kernel_rfl)) (dg_name (i := 8) (fun _ => sc__law_told_right.nd)) dts_nil (de_tup (da_cons (de_var 8) (da_cons (de_prop A.kc_Type G_Type_text (fun _ => hr.mono (by omega)) (de_dget (k := 0) (fun _ => hr.mono (by omega)) (de_prop A.kc_Library G_Library_parts (fun _ => hr.mono (by omega)) (de_var 0)) (de_var 8))) da_nil)))) (da_cons (de_prop A.kc_Library G_Library_names (fun _ => hr.mono (by omega)) (de_var 0)) (da_cons (de_prop A.kc_Library G_Library_lines (fun _ => hr.mono (by omega)) (de_var 0)) (da_cons (de_prop A.kc_Library G_Library_atoms (fun _ => hr.mono (by omega)) (de_var 0)) (da_cons (de_prop A.kc_Library G_Library_scope (fun _ => hr.mono (by omega)) (de_var 0)) da_nil)))))) (fun _ => sc__law_told_right.nd))
    (dss_cons (ds_setO (i := 5) (do_lst (da_cons (de_lc (own := [("_law_name", 8)]) (fun _ => sc__law_told_right.nd) (di_list (de_var 2)) (fun _ => blkOk_by (by kernel_rfl)) (dg_name (i := 8) (fun _ => sc__law_told_right.nd)) dts_nil (de_tup (da_cons (de_var 8) (da_cons (de_call G__law_text (fun _ => hr.mono (by omega)) (fun _ => pas takes0) (da_cons (de_dget (k := 0) (fun _ => hr.mono (by omega)) (de_var 1) (de_var 8)) da_nil)) da_nil)))) (da_cons (de_callTy ok_tuple A.n_tuple FP.boot_tuple (da_cons (de_var 2) da_nil)) (da_cons (de_callTy ok_tuple A.n_tuple FP.boot_tuple (da_cons (de_call G__law_lines (fun _ => hr.mono (by omega)) (fun _ => pas (takes_of rfl rfl rfl rfl)) (da_cons (de_var 1) da_nil)) da_nil)) (da_cons (de_callTy ok_tuple A.n_tuple FP.boot_tuple (da_cons (de_var 3) da_nil)) da_nil))))) (fun _ => sc__law_told_right.nd))
    (dss_cons (ds_append 5 (de_callTy ok_tuple A.n_tuple FP.boot_tuple (da_cons (de_sortSet (de_lc (own := [("_law_name", 8)]) (fun _ => sc__law_told_right.nd) (di_list (de_var 2)) (fun _ => blkOk_by (by kernel_rfl)) (dg_name (i := 8) (fun _ => sc__law_told_right.nd)) dts_nil (de_call G__law_text (fun _ => hr.mono (by omega)) (fun _ => pas takes0) (da_cons (de_dget (k := 0) (fun _ => hr.mono (by omega)) (de_var 1) (de_var 8)) da_nil))) A.n_sorted A.n_set FP.boot_sorted FP.boot_set) da_nil)) (pe := fun _ _ h => ps_expr (pe_bm PySem.F.plainAttrs_list PySem.F.slot_list_append PySem.F.type_list_append mt_append (pv 5) (pa_cons h pa_nil))))
    (dss_cons (ds_set (i := 6) (de_maxD (de_lc (own := [("_law_name", 8)]) (fun _ => sc__law_told_right.nd) (di_list (de_var 2)) (fun _ => blkOk_by (by kernel_rfl)) (dg_name (i := 8) (fun _ => sc__law_told_right.nd)) dts_nil (de_call G__law_order (fun _ => hr.mono (by omega)) (fun _ => pas takes0) (da_cons (de_dget (k := 0) (fun _ => hr.mono (by omega)) (de_var 1) (de_var 8)) da_nil))) de_int A.n_max FP.boot_max) (fun _ => sc__law_told_right.nd))
    (dss_cons (ds_set (i := 7) (de_op ok_add (de_op ok_add (de_op ok_add (de_callTy ok_str A.n_str FP.boot_str (da_cons (de_callB ok_len A.n_len FP.boot_len (da_cons (de_var 2) da_nil)) da_nil)) de_str) (de_callTy ok_str A.n_str FP.boot_str (da_cons (de_callB ok_len A.n_len FP.boot_len (da_cons (de_var 3) da_nil)) da_nil))) de_str) (fun _ => sc__law_told_right.nd))
    (dss_cons (ds_frz 5 (ds_if (dt_w (dw_or (dt_cmp (ok_ne (fun _ => hr.r.units)) (de_var 4) (de_var 5)) (dw_or1 (dt_cmp (ok_ne (fun _ => hr.r.units)) (de_lst (da_cons (de_prop A.kc_Library G_Library_order (fun _ => hr.mono (by omega)) (de_var 0)) (da_cons (de_callB (ok_lenM A.kc_Library G_Library___len__ (fun _ => hr.mono (by omega))) A.n_len FP.boot_len (da_cons (de_var 0) da_nil)) (da_cons (de_callTy (ok_strM A.kc_Library G_Library___str__ (fun _ => hr.mono (by omega))) A.n_str FP.boot_str (da_cons (de_var 0) da_nil)) da_nil)))) (de_lst (da_cons (de_var 6) (da_cons (de_callB ok_len A.n_len FP.boot_len (da_cons (de_var 2) da_nil)) (da_cons (de_var 7) da_nil))))))))
    (dss_one (ds_ret de_bl))
    dss_nil))
    (dss_cons (ds_if (dt_cmp (ok_ne (fun _ => hr.r.units)) (de_lc (own := [("_law_name", 8)]) (fun _ => sc__law_told_right.nd) (di_own A.kc_Library G_Library___iter__ (fun _ => hr.mono (by omega)) (de_var 0)) (fun _ => blkOk_by (by kernel_rfl)) (dg_name (i := 8) (fun _ => sc__law_told_right.nd)) dts_nil (de_var 8)) (de_var 2))
    (dss_one (ds_ret de_bl))
    dss_nil)
    (dss_cons (ds_for (di_list (de_op ok_add (de_var 2) (de_lst (da_cons de_str (da_cons de_str da_nil))))) (dg_name (i := 8) (fun _ => sc__law_told_right.nd))
    (dss_cons (ds_if (dt_cmp (ok_ne (fun _ => hr.r.units)) (de_cmp (ok_inM A.kc_Library G_Library___contains__ (fun _ => hr.mono (by omega))) (de_var 8) (de_var 0)) (de_cmp (ok_inD (k := 0) (fun _ => hr.mono (by omega))) (de_var 8) (de_var 1)))
    (dss_one (ds_ret de_bl))
    dss_nil)
    (dss_one (ds_if (dt_w (dw_and (dt_cmp (ok_inD (k := 0) (fun _ => hr.mono (by omega))) (de_var 8) (de_var 1)) (dw_and1 (dt_cmp (ok_ne (fun _ => hr.r.units)) (de_prop A.kc_Type G_Type_text (fun _ => hr.mono (by omega)) (de_ixM A.kc_Library G_Library___getitem__ (fun _ => hr.mono (by omega)) (de_var 0) (de_var 8))) (de_call G__law_text (fun _ => hr.mono (by omega)) (fun _ => pas (takes_of rfl rfl rfl rfl)) (da_cons (de_dget (k := 0) (fun _ => hr.mono (by omega)) (de_var 1) (de_var 8)) da_nil))))))
    (dss_one (ds_ret de_bl))
    dss_nil))) (fun _ => passes_of rfl))
    (dss_cons (ds_for (di_list (de_op ok_add (de_var 3) (de_lst (da_cons de_str da_nil)))) (dg_name (i := 9) (fun _ => sc__law_told_right.nd))
    (dss_one (ds_if (dt_cmp (ok_ne (fun _ => hr.r.units)) (de_meth A.kc_Library G_Library_heads (fun _ => hr.mono (by omega)) (fun _ => pas (takes_of rfl rfl rfl rfl)) (de_var 0) (da_cons (de_var 9) da_nil)) (de_callTy ok_tuple A.n_tuple FP.boot_tuple (da_cons (de_lc (own := [("_law_name", 8)]) (fun _ => sc__law_told_right.nd) (di_list (de_var 2)) (fun _ => blkOk_by (by kernel_rfl)) (dg_name (i := 8) (fun _ => sc__law_told_right.nd)) (dts_one (dt_cmp (ok_eq (fun _ => hr.r.units)) (de_ix (de_dget (k := 0) (fun _ => hr.mono (by omega)) (de_var 1) (de_var 8)) de_int) (de_var 9))) (de_var 8)) da_nil)))
    (dss_one (ds_ret de_bl))
    dss_nil)) (fun _ => passes_of rfl))
    (dss_cons (ds_set (i := 10) (de_lst (da_cons de_non (da_cons de_int (da_cons de_str (da_cons de_str (da_cons (de_tup da_nil) (da_cons (de_tup (da_cons de_str da_nil)) (da_cons (de_var 0) (da_cons de_dnew (da_cons (de_lst (da_cons de_str da_nil)) (da_cons (de_cmeth A.kc_Type G_Type_plain (fun _ => hr.mono (by omega)) (fun _ => pas (takes_of rfl rfl rfl rfl)) (da_cons de_str da_nil)) da_nil))))))))))) (fun _ => sc__law_told_right.nd))
    (dss_one (ds_ret (de_cmp (ok_eq (fun _ => hr.r.units)) (de_lc (own := [("_law_one", 11)]) (fun _ => sc__law_told_right.nd) (di_list (de_var 10)) (fun _ => blkOk_by (by kernel_rfl)) (dg_name (i := 11) (fun _ => sc__law_told_right.nd)) (dts_one (dt_cmp (ok_inM A.kc_Library G_Library___contains__ (fun _ => hr.mono (by omega))) (de_var 11) (de_var 0))) (de_var 11)) (de_lst da_nil))))))))))))))),  fun ds Q Ex hl hf => ?_⟩
  obtain ⟨d0q, d1q, rfl⟩ := FP.ex2 hl
  obtain ⟨_, rfl⟩ : ∃ w0, d1q = .dct w0 := by cases d1q <;> first | exact ⟨_, rfl⟩ | exact False.elim hf
  obtain ⟨L, rfl, rfl, hL, h8, hq⟩ := hf
  have e0 : startD 12 [libD L, .dct (rowsL plain L)] = [Sl.d (libD L), Sl.d (.dct (rowsL plain L)), Sl.no, Sl.no, Sl.no, Sl.no, Sl.no, Sl.no, Sl.no, Sl.no, Sl.no, Sl.no] := rfl
  have hnN : (["_law_made_here", "_law_library_here", "_law_names", "_law_atoms", "_law_told", "_law_due", "_law_order_here", "_law_text_here", "_law_name", "_law_atom", "_law_odd", "_law_one"] : List Str).length = 12 := rfl
  rw [hnN, e0]
  clear e0 hnN
  have hkl : (keysL L).length = L.length := List.length_map _
  have hks : (sortS (keysL L)).length = L.length := by rw [(sortS_perm _).length_eq]; exact hkl
  have hls := len_sort L
  have hkm : ((sortS (keysL L)).map D.str).length = L.length := by rw [List.length_map]; exact hks
  have hfl := flat_len (fun p : Str × Kd => atomsK p.2) 15 (sortL L) fun p hp => atomsK_len (hL.sort.g p hp)
  have hal : (atomsL L).length ≤ 200 := Nat.le_trans (sortU_len _) (by omega)
  have ham : ((atomsL L).map D.str).length ≤ 200 := by rw [List.length_map]; exact hal
  have hin : ∀ z ∈ sortS (keysL L), z ∈ keysL L := fun z hz => (sortS_perm _).mem_iff.mp hz
  refine seq_par (.lst ((sortS (keysL L)).map .str)) (.lst ((atomsL L).map .str)) (a1 (fun Q E q => ⟨keysL L, keys_F _ _ L, by rw [hkl]; omega, q⟩) (a1 (ev_call (a1 (fun Q E q => q) a0) rfl fun Q E q => ⟨L, rfl, hL, h8, q⟩) a0)) ?_
  refine seq_v (toldD10 L) (ev_lst (a1 (Ev.eq (ev_lc (fun p : Str × Kd => D.str p.1) (fun p => .tup [.str p.1, .str (text p.2)]) (xs := sortL L) (evKeys (h := typeD) (L := sortL L) (ev_parts10 (fun Q E q => q))) (size_small (by omega)) fun p hp => ⟨_, rfl, ev_tup (a1 (fun Q E q => q) (a1 (ev_text10 (hL.sort.g p hp) (evGet (h := typeD) (L := sortL L) (ev_parts10 (fun Q E q => q)) (fun Q E q => q) (getL_of hL.sort.nd hp))) a0)) (line rfl)⟩) (by rw [sort_map])) (a1 (ev_prop (fs := libF L) (fun Q E q => q) fun Q q => ⟨L, rfl, by rw [keys_sort]; exact q⟩) (a1 (ev_prop (fs := libF L) (fun Q E q => q) fun Q q => ⟨L, rfl, q⟩) (a1 (ev_prop (fs := libF L) (fun Q E q => q) fun Q q => ⟨L, rfl, hL, h8, q⟩) (a1 (ev_prop (fs := libF L) (fun Q E q => q) fun Q q => ⟨L, rfl, q⟩) a0))))) (line rfl)) ?_
  have evt : ∀ (ρ : FP.Env) (f : DTE) (z : Str), z ∈ sortS (keysL L) → Ev f ρ (.dct (rowsL plain L)) → ∀ g : DTE, Ev g ρ (.str z) → Ev (dCall (f_plainK d_text 5) 1 (dCons (dOp rdDGet f g) dNil)) ρ (.str (text (kindAt L z))) := fun ρ f z hz hf2 g hg => ev_call (a1 (evGet (h := plain) (L := L) hf2 hg (kind_of hL hz).1) a0) rfl fun Q E q => ⟨_, rfl, (kind_of hL hz).2, Nat.lt_succ_of_le (kind_of hL hz).2.o, q⟩
  refine seq_oN (ds := [.lst ((sortS (keysL L)).map fun z => .tup [.str z, .str (text (kindAt L z))]), .tup ((sortS (keysL L)).map .str), .tup ((linesL L).map .str), .tup ((atomsL L).map .str)]) (a1 (ev_lc (fun z : Str => D.str z) (fun z => .tup [.str z, .str (text (kindAt L z))]) (xs := sortS (keysL L)) (fun Q E q => q) (size_small (by omega)) fun z hz => ⟨_, rfl, ev_tup (a1 (fun Q E q => q) (a1 (evt _ _ z hz (fun Q E q => q) _ (fun Q E q => q)) a0)) (line rfl)⟩) (a1 (ev_cb (a1 (fun Q E q => q) a0) fun Q q => q) (a1 (ev_cb (a1 (ev_call (a1 (fun Q E q => q) a0) rfl fun Q E q => ⟨L, rfl, hL, h8, q⟩) a0) fun Q q => q) (a1 (ev_cb (a1 (fun Q E q => q) a0) fun Q q => q) a0)))) (line rfl) ?_
  refine seq_app rfl (.tup ((scopeL L).map .str)) (line_lt rfl) (ev_cb (a1 (d := .lst ((scopeL L).map .str)) (fun Q E q => ?_) a0) fun Q q => q) ?_
  · refine ev_lc (fun z : Str => D.str z) (fun z => .str (text (kindAt L z))) (xs := sortS (keysL L)) (fun Q E q => q) (size_small (by omega)) (fun z hz => ⟨_, rfl, evt _ _ z hz (fun Q E q => q) _ (fun Q E q => q)⟩) _ _ ?_
    refine ⟨(sortS (keysL L)).map fun z => text (kindAt L z), strsD_map2 _ _, by rw [List.length_map]; omega, ?_⟩
    rw [← sort_map (fun p : Str × Kd => text p.2) L]
    exact q
  obtain ⟨mo, hmo⟩ : ∃ n, maxN ((sortL L).map fun p : Str × Kd => ord p.2) = n := ⟨_, rfl⟩
  refine seq_v (.int (mo : Nat)) (Ev.eq (ev_maxD (Ev.eq (ev_lc (fun z : Str => D.str z) (fun z => D.int (ord (kindAt L z) : Nat)) (xs := sortS (keysL L)) (fun Q E q => q) (size_small (by omega)) fun z hz => ⟨_, rfl, ev_call (a1 (evGet (h := plain) (L := L) (fun Q E q => q) (fun Q E q => q) (kind_of hL hz).1) a0) rfl fun Q E q => ⟨_, rfl, (kind_of hL hz).2, Nat.lt_succ_of_le (kind_of hL hz).2.o, q⟩⟩) (by rw [List.map_map]; rfl)) (fun Q E q => q)) (by rw [← hmo, sort_map])) ?_
  refine seq_v (.str (tellL L.length (atomsL L).length)) (ev_tellS10 (by omega) (by omega) (Ev.eq (ev_lenL10 (fun Q E q => q)) (by rw [hkm])) (Ev.eq (ev_lenL10 (fun Q E q => q)) (by rw [List.length_map]))) ?_
  have sh2 : ∀ (n m : Int) (z : Str), PyData.strOk z = true → shD 64 (.lst [.int n, .int m, .str z]) = true := fun n m z hz => sh_lst (sh_cons sh_int (sh_cons sh_int (sh_cons (sh_str hz) sh_nil)))
  refine seq_frz rfl (seq_ifF (or_f (b_v (ev_op (x := toldD10 L) (y := toldD10 L) (fun Q E q => q) (fun Q E q => q) fun Q q => ne_refl (told_sh hL) rfl q)) (b_v (ev_op (x := .lst [.int (mo : Nat), .int (L.length : Nat), .str (tellL L.length (atomsL L).length)]) (y := .lst [.int (mo : Nat), .int (L.length : Nat), .str (tellL L.length (atomsL L).length)]) (ev_lst (a1 (ev_prop (fs := libF L) (fun Q E q => q) fun Q q => ⟨L, rfl, hL, by omega, by rw [hmo]; exact q⟩) (a1 (fun Q E q => ⟨rfl, L, rfl, hL, by omega, ⟨by omega, by omega⟩, q⟩) (a1 (fun Q E q => ⟨rfl, L, rfl, hL, h8, by omega, q⟩) a0))) (line rfl)) (ev_lst (a1 (fun Q E q => q) (a1 (Ev.eq (ev_lenL10 (fun Q E q => q)) (by rw [hkm])) (a1 (fun Q E q => q) a0))) (line rfl)) fun Q q => ne_refl (sh2 _ _ _ (tell_ok _ _)) rfl q))) ?_)
  refine seq_ifF (b_v (ev_op (x := .lst ((sortS (keysL L)).map .str)) (y := .lst ((sortS (keysL L)).map .str)) (ev_lc (fun z : Str => D.str z) (fun z => D.str z) (xs := sortS (keysL L)) (fun Q E q => ⟨rfl, _, by rw [← keys_sort]; exact lk_names L, q⟩) (size_small (by omega)) fun z hz => ⟨_, rfl, (fun Q E q => q)⟩) (fun Q E q => q) fun Q q => ne_refl (sh_lst (sh_strs (names_str hL))) rfl q)) ?_
  refine seq_by (fun ρ => ∃ a b c d, ρ = [Sl.d (libD L), Sl.d (.dct (rowsL plain L)), Sl.d (.lst ((sortS (keysL L)).map .str)), Sl.d (.lst ((atomsL L).map .str)), Sl.d (toldD10 L), Sl.d (toldD10 L), Sl.d (.int (mo : Nat)), Sl.d (.str (tellL L.length (atomsL L).length)), a, b, c, d]) (fun nx hnx => ?_) ?_
  · refine ⟨line rfl, by rw [hkm]; exact size_small (by show _ + 2 ≤ _; omega), ?_⟩
    refine forD_inv (fun ρ => ∃ a b c d, ρ = [Sl.d (libD L), Sl.d (.dct (rowsL plain L)), Sl.d (.lst ((sortS (keysL L)).map .str)), Sl.d (.lst ((atomsL L).map .str)), Sl.d (toldD10 L), Sl.d (toldD10 L), Sl.d (.int (mo : Nat)), Sl.d (.str (tellL L.length (atomsL L).length)), a, b, c, d]) _ _ ⟨_, _, _, _, rfl⟩ ?_ hnx
    rintro x hx ρ K ⟨a, b, c, d, rfl⟩ hK
    obtain ⟨z, rfl⟩ : ∃ z, x = D.str z := by
      rcases List.mem_append.mp hx with h | h
      · obtain ⟨z, _, rfl⟩ := List.mem_map.mp h
        exact ⟨z, rfl⟩
      · simp only [List.mem_cons, List.not_mem_nil, or_false] at h
        rcases h with rfl | rfl <;> exact ⟨_, rfl⟩
    refine ⟨_, rfl, ?_⟩
    refine seq_ifF (b_v (ev_op (x := .bl (decide (z ∈ keysL L))) (y := .bl (decide (z ∈ keysL L))) (ev_in10 (L := L) (chk_str z) (fun Q E q => q) (fun Q E q => q)) (evIn (L := L) (h := plain) (fun Q E q => q) (fun Q E q => q)) fun Q q => ne_bl (by rw [decide_eq_true rfl]; exact q))) ?_
    refine end_if false (EvT.eq (and_v (b := decide (z ∈ keysL L)) (b2 := false) (b_v (evIn (L := L) (h := plain) (fun Q E q => q) (fun Q E q => q))) fun h => ?_) (Bool.and_false _)) (hK _ ⟨_, _, _, _, rfl⟩)
    have hz : z ∈ sortS (keysL L) := (sortS_perm _).mem_iff.mpr (of_decide_eq_true h)
    exact b_v (ev_op (x := .str (text (kindAt L z))) (y := .str (text (kindAt L z))) (ev_text10 (kind_of hL hz).2 (ev_item10 (L := L) (kind_of hL hz).1 (fun Q E q => q) (fun Q E q => q))) (evt _ _ z hz (fun Q E q => q) _ (fun Q E q => q)) fun Q q => ne_str (by rw [decide_eq_true rfl]; exact q))
  rintro ρ ⟨a, b, c, d, rfl⟩
  refine seq_by (fun ρ => ∃ a b c d, ρ = [Sl.d (libD L), Sl.d (.dct (rowsL plain L)), Sl.d (.lst ((sortS (keysL L)).map .str)), Sl.d (.lst ((atomsL L).map .str)), Sl.d (toldD10 L), Sl.d (toldD10 L), Sl.d (.int (mo : Nat)), Sl.d (.str (tellL L.length (atomsL L).length)), a, b, c, d]) (fun nx hnx => ?_) ?_
  · refine ⟨line rfl, size_small (by show _ + 1 ≤ _; omega), ?_⟩
    refine forD_inv (fun ρ => ∃ a b c d, ρ = [Sl.d (libD L), Sl.d (.dct (rowsL plain L)), Sl.d (.lst ((sortS (keysL L)).map .str)), Sl.d (.lst ((atomsL L).map .str)), Sl.d (toldD10 L), Sl.d (toldD10 L), Sl.d (.int (mo : Nat)), Sl.d (.str (tellL L.length (atomsL L).length)), a, b, c, d]) _ _ ⟨_, _, _, _, rfl⟩ ?_ hnx
    rintro x hx ρ K ⟨a, b, c, d, rfl⟩ hK
    obtain ⟨z, rfl, hw⟩ : ∃ z, x = D.str z ∧ isWordS z = true := by
      rcases List.mem_append.mp hx with h | h
      · obtain ⟨z, hz, rfl⟩ := List.mem_map.mp h
        exact ⟨z, rfl, atoms_w hL z hz⟩
      · rw [List.mem_singleton.mp h]
        exact ⟨_, rfl, by decide +kernel⟩
    refine ⟨_, rfl, ?_⟩
    refine end_if false (b_v (ev_op (x := .tup ((headsL L z).map .str)) (y := .tup ((headsL L z).map .str)) (ev_meth (fs := libF L) (fun Q E q => q) rfl (a1 (fun Q E q => q) a0) rfl fun Q E q => ⟨L, rfl, hL, by omega, hw, q⟩) (ev_cb (a1 (d := .lst ((headsL L z).map .str)) (Ev.eq (ev_lcF (fun z : Str => D.str z) (fun z => D.str z) (fun y => decide ((kindAt L y).a = z)) (xs := sortS (keysL L)) (fun Q E q => q) (size_small (by omega)) fun y hy => ⟨_, rfl, b_v (ev_op (x := .str (kindAt L y).a) (y := .str z) (ev_atom10 (evGet (h := plain) (L := L) (fun Q E q => q) (fun Q E q => q) (kind_of hL hy).1)) (fun Q E q => q) fun Q q => eq_str q), fun _ => (fun Q E q => q)⟩) (by rw [heads_eq])) a0) fun Q q => q) fun Q q => neStrs_same (fun y hy => by rw [heads_eq] at hy; exact names_str hL y (List.mem_filter.mp hy).1) q)) (hK _ ⟨_, _, _, _, rfl⟩)
  rintro ρ ⟨a, b, c, d, rfl⟩
  refine seq_v (.lst (odd10 L)) (ev_lst (a1 (fun Q E q => q) (a1 (fun Q E q => q) (a1 (fun Q E q => q) (a1 (fun Q E q => q) (a1 (ev_tup a0 (line rfl)) (a1 (ev_tup (a1 (fun Q E q => q) a0) (line rfl)) (a1 (fun Q E q => q) (a1 (fun Q E q => q) (a1 (ev_lst (a1 (fun Q E q => q) a0) (line rfl)) (a1 (fun Q E q => ⟨rfl, rfl, by decide +kernel, q⟩) a0)))))))))) (line rfl)) ?_
  refine ret_v (.bl true) (ev_op (x := .lst []) (y := .lst []) (Ev.eq (ev_lcF (fun d : D => d) (fun d => d) (inLib L) (xs := odd10 L) (fun Q E q => by rw [List.map_id'] at q; exact q) (line rfl) fun x hx => ⟨_, rfl, b_v (ev_in10 (L := L) (odd_chk hx) (fun Q E q => q) (fun Q E q => q)), fun _ => (fun Q E q => q)⟩) (by rw [odd_none hL]; rfl)) (ev_lst a0 (line rfl)) fun Q q => eq_refl (by rw [shD]; exact sh_nil) rfl q) hq
end K10
namespace K10
open PySem L2 FP
variable [FP.Tabl]
open KP
theorem ok__law_right {P : Program} {w : World} {mg : Gm} {base : Heap} {Z : Ads} (A : All mg Z) (G_Library___contains__ : SpecOk P w mg base 1 Z.a_Library "__contains__" 2 f_contL) (G_Library___eq__ : SpecOk P w mg base 1 Z.a_Library "__eq__" 2 f_eqL) (G_Library___initB : InitB P w mg base 4 "Library" Z.a_Library f_initLB) (G_Library_lines : PropOk P w mg base 1 Z.a_Library "lines" f_linesL) (G_Library_parts : PropOk P w mg base 1 Z.a_Library "parts" f_parts10) (G_Library_partsN : PropN P w mg base 1 Z.a_Library "parts" f_partsNL) (G_Library_with_part : MethOk P w mg base 6 Z.a_Library "with_part" 3 f_withP) (G_Type_plain : CMethOk P w mg base 4 Z.a_Type "plain" 2 f_plain) (G__law_library : DefOk P w mg base 13 "_law_library" 1 f_libr) (G__law_lines : DefOk P w mg base 8 "_law_lines" 1 f_linesP) (G__law_made : DefOk P w mg base 13 "_law_made" 1 f_madeL) (G__law_made_kind : DefOk P w mg base 9 "_law_made_kind" 1 (f_plainK typeD 5)) (G__law_pick : DefOk P w mg base 2 "_law_pick" 2 f_pick) (G__law_roll : DefOk P w mg base 1 "_law_roll" 2 f_roll) (G__law_some : DefOk P w mg base 2 "_law_some" 3 f_some) (G__law_told_right : DefOk P w mg base 14 "_law_told_right" 2 f_told10) (G_fresh_names : DefOk P w mg base 4 "fresh_names" 2 f_fresh10) : DefOk P w mg base 16 "_law_right" 1 f_tokT := by
  refine mkDef (N := ["_law_dice_here", "_law_library_here", "_law_other", "_law_names", "_law_parts", "_law_made_here", "_law_words", "_law_more", "_law_count", "_law_letter", "_law_name", "_law_word"]) (ps := ["_law_dice_here"]) A.d__law_right sc__law_right (fun _ _ _ _ _ _ us hl => by obtain ⟨_, rfl⟩ := FP.ex1 hl; rfl) fun fa cdv Ar outer s H E hr => ⟨_,
    (dss_cons (ds_asg (de_tup (da_cons (de_call G__law_library (fun _ => hr.mono (by omega)) (fun _ => pas (takes_of rfl rfl rfl rfl)) (da_cons (de_var 0) da_nil)) (da_cons (de_call G__law_library (fun _ => hr.mono (by omega)) (fun _ => pas (takes_of rfl rfl rfl rfl)) (da_cons (de_var 0) da_nil)) da_nil))) (dg_tup (dgs_cons (dg_name (i := 1) (fun _ => sc__law_right.nd)) (dgs_cons (dg_name (i := 2) (fun _ => sc__law_right.nd)) dgs_nil))))
    (dss_cons (ds_set (i := 3) (de_call G__law_some (fun _ => hr.mono (by omega)) (fun _ => pas (takes_of rfl rfl rfl rfl)) (da_cons (de_var 0) (da_cons (de_callB ok_sortedD A.n_sorted FP.boot_sorted (da_cons (de_var 1) da_nil)) (da_cons (de_callB ok_len A.n_len FP.boot_len (da_cons (de_var 1) da_nil)) da_nil)))) (fun _ => sc__law_right.nd))
    (dss_cons (ds_setOD (i := 4) (dod_pairs (de_lc (own := [("_law_name", 10)]) (fun _ => sc__law_right.nd) (di_list (de_var 3)) (fun _ => blkOk_by (by kernel_rfl)) (dg_name (i := 10) (fun _ => sc__law_right.nd)) dts_nil (de_tup (da_cons (de_var 10) (da_cons (de_call G__law_made_kind (fun _ => hr.mono (by omega)) (fun _ => pas takes0) (da_cons (de_dget (k := 0) (fun _ => hr.mono (by omega)) (de_var 1) (de_var 10)) da_nil)) da_nil)))) A.n_dict FP.boot_dict) (fun _ => sc__law_right.nd))
    (dss_cons (ds_set (i := 5) (de_makeB 4 A.kc_Library G_Library___initB (fun _ => hr.mono (by omega)) (fun _ => pas (takes_of rfl rfl rfl rfl))) (fun _ => sc__law_right.nd))
    (dss_cons (ds_odClear 4)
    (dss_cons (ds_propClr A.kc_Library G_Library_partsN (fun _ => hr.mono (by omega)) (de_var 5))
    (dss_cons (ds_if (dt_w (dw_or (dt_not (dt_val (de_call G__law_told_right (fun _ => hr.mono (by omega)) (fun _ => pas (takes_of rfl rfl rfl rfl)) (da_cons (de_var 5) (da_cons (de_var 1) da_nil))))) (dw_or (dt_cmp (ok_neM A.kc_Library G_Library___eq__ A.eq_Library A.ne_Library (fun _ => hr.mono (by omega))) (de_var 5) (de_call G__law_made (fun _ => hr.mono (by omega)) (fun _ => pas (takes_of rfl rfl rfl rfl)) (da_cons (de_var 1) da_nil))) (dw_or (dt_cmp (ok_eqM A.kc_Library G_Library___eq__ A.eq_Library (fun _ => hr.mono (by omega))) (de_var 5) (de_prop A.kc_Library G_Library_parts (fun _ => hr.mono (by omega)) (de_var 5))) (dw_or1 (dt_cmp (ok_eqM A.kc_Library G_Library___eq__ A.eq_Library (fun _ => hr.mono (by omega))) (de_var 5) (de_prop A.kc_Library G_Library_lines (fun _ => hr.mono (by omega)) (de_var 5))))))))
    (dss_one (ds_ret de_bl))
    dss_nil)
    (dss_cons (ds_if (dt_cmp (ok_ne (fun _ => hr.r.units)) (de_cmp (ok_eqM A.kc_Library G_Library___eq__ A.eq_Library (fun _ => hr.mono (by omega))) (de_var 5) (de_call G__law_made (fun _ => hr.mono (by omega)) (fun _ => pas (takes_of rfl rfl rfl rfl)) (da_cons (de_var 2) da_nil))) (de_cmp (ok_eq (fun _ => hr.r.units)) (de_call G__law_lines (fun _ => hr.mono (by omega)) (fun _ => pas (takes_of rfl rfl rfl rfl)) (da_cons (de_var 1) da_nil)) (de_call G__law_lines (fun _ => hr.mono (by omega)) (fun _ => pas (takes_of rfl rfl rfl rfl)) (da_cons (de_var 2) da_nil))))
    (dss_one (ds_ret de_bl))
    dss_nil)
    (dss_cons (ds_setLc (i := 6) (own := [("_law_letter", 9)]) (fun _ => sc__law_right.nd) (di_str de_str) (fun _ => blkOk_by (by kernel_rfl)) (dg_name (i := 9) (fun _ => sc__law_right.nd)) dts_nil (de_op ok_add de_str (de_var 9)) (fun _ => sw_true rfl rfl rfl (by decide +kernel)))
    (dss_cons (ds_set (i := 7) (de_meth A.kc_Library G_Library_with_part (fun _ => hr.mono (by omega)) (fun _ => pas (takes_of rfl rfl rfl rfl)) (de_var 5) (da_cons (de_call G__law_pick (fun _ => hr.mono (by omega)) (fun _ => pas (takes_of rfl rfl rfl rfl)) (da_cons (de_var 0) (da_cons (de_slice (de_var 6) do_none (do_some de_int)) da_nil))) (da_cons (de_cmeth A.kc_Type G_Type_plain (fun _ => hr.mono (by omega)) (fun _ => pas (takes_of rfl rfl rfl rfl)) (da_cons de_str da_nil)) da_nil))) (fun _ => sc__law_right.nd))
    (dss_cons (ds_set (i := 8) (de_call G__law_roll (fun _ => hr.mono (by omega)) (fun _ => pas (takes_of rfl rfl rfl rfl)) (da_cons (de_var 0) (da_cons de_int da_nil))) (fun _ => sc__law_right.nd))
    (dss_one (ds_ret (de_cmp (ok_eq (fun _ => hr.r.units)) (de_call G_fresh_names (fun _ => hr.mono (by omega)) (fun _ => pas (takes_of rfl rfl rfl rfl)) (da_cons (de_var 7) (da_cons (de_var 8) da_nil))) (de_callTy ok_tuple A.n_tuple FP.boot_tuple (da_cons (de_slice (de_lc (own := [("_law_word", 11)]) (fun _ => sc__law_right.nd) (di_list (de_var 6)) (fun _ => blkOk_by (by kernel_rfl)) (dg_name (i := 11) (fun _ => sc__law_right.nd)) (dts_one (dt_cmp (ok_notInM A.kc_Library G_Library___contains__ (fun _ => hr.mono (by omega))) (de_var 11) (de_var 7))) (de_var 11)) do_none (do_some (de_var 8))) da_nil)))))))))))))))),  fun ds Q Ex hl hf => ?_⟩
  obtain ⟨d0q, rfl⟩ := FP.ex1 hl
  obtain rfl : d0q = .tok := by cases d0q <;> first | rfl | exact False.elim hf
  have hq := hf
  have e0 : startD 12 [.tok] = [Sl.d (.tok), Sl.no, Sl.no, Sl.no, Sl.no, Sl.no, Sl.no, Sl.no, Sl.no, Sl.no, Sl.no, Sl.no] := rfl
  have hnN : (["_law_dice_here", "_law_library_here", "_law_other", "_law_names", "_law_parts", "_law_made_here", "_law_words", "_law_more", "_law_count", "_law_letter", "_law_name", "_law_word"] : List Str).length = 12 := rfl
  rw [hnN, e0]
  clear e0 hnN
  refine seq_asP (fun d => ∃ L M : Lib, d = .tup [libP L, libP M] ∧ LibG L ∧ L.length ≤ 5 ∧ LibG M ∧ M.length ≤ 5) (fun Q E q => ⟨rfl, fun L hL _ h5 => ⟨rfl, fun M hM _ m5 => ⟨line rfl, q _ ⟨L, M, rfl, hL, h5, hM, m5⟩⟩⟩⟩) ?_
  rintro _ ⟨L, M, rfl, hL, h5, hM, m5⟩
  refine ⟨_, rfl, ?_⟩
  have hkl : (keysL L).length = L.length := List.length_map _
  have hks : (sortS (keysL L)).length = L.length := by rw [(sortS_perm _).length_eq]; exact hkl
  refine seq_p (fun d => ∃ ys : List Str, d = .lst (ys.map .str) ∧ ys.Perm (sortS (keysL L))) (fun Q E q => ⟨keysL L, keys_F _ _ L, by rw [hkl]; omega, lenD ?_⟩) ?_
  · refine ⟨rfl, some10 (by omega) (by rw [len_rows, hks]) fun ys hp => q _ ⟨ys, rfl, hp⟩⟩
  rintro _ ⟨ys, rfl, hp⟩
  have hys : ys.length = L.length := by rw [hp.length_eq]; exact hks
  have hyn : ys.Nodup := hp.nodup_iff.mpr ((sortS_perm _).nodup_iff.mpr hL.nd)
  have hyi : ∀ z ∈ ys, z ∈ keysL L := fun z hz => (sortS_perm _).mem_iff.mp (hp.mem_iff.mp hz)
  have hpg := pick_g hL hyn hyi
  have hpl : (pickL L ys).length = ys.length := List.length_map _
  have hps := pick_same hp
  refine seq_setOD (rowsL typeD (pickL L ys)) (fun Q E q => ?_) ?_
  · refine ev_lc (fun p : Str × Kd => D.str p.1) (fun p => .tup [.str p.1, typeD p.2]) (xs := pickL L ys) (fun Q E q => by
      rw [show (pickL L ys).map (fun p => D.str p.1) = ys.map D.str from by unfold pickL; rw [List.map_map]; rfl] at q
      exact q) (size_small (by omega)) (fun p hp2 => ⟨_, rfl, ?_⟩) _ _ ⟨_, pairs_F (fun p : Str × Kd => p.1) (fun p => typeD p.2) (pickL L ys), by rw [merge_self hpg.nd]; exact q⟩
    have e := getL_of hpg.nd (show (p.1, p.2) ∈ pickL L ys from hp2)
    have hg := hpg.g p hp2
    rw [hps p.1] at e
    exact ev_tup (a1 (fun Q E q => q) (a1 (ev_call (a1 (evGet (h := plain) (L := L) (fun Q E q => q) (fun Q E q => q) e) a0) rfl fun Q E q => ⟨p.2, rfl, hg, Nat.lt_succ_of_le hg.o, q⟩) a0)) (line rfl)
  refine seq_v (libD L) (Ev.eq (x := libD (pickL L ys)) (ev_lentOD (i := 4) rfl fun Q E q => ⟨pickL L ys, rfl, hpg, by omega, q⟩) (lib_same hps hpg.nd hL.nd)) ?_
  refine seq_odClear (i := 4) rfl ?_
  refine seq_propClr (L := L) (fun Q E q => q) ?_
  refine seq_ifF (or_f (not_v (b := true) (b_v (ev_call (a1 (fun Q E q => q) (a1 (fun Q E q => q) a0)) rfl fun Q E q => ⟨L, rfl, rfl, hL, by omega, q⟩))) (or_f (b_v (evNeLL hL hL (by omega) (by omega) (fun _ => rfl) (fun Q E q => q) (evMade hL (by omega) (fun Q E q => q)))) (or_f (b_v (evEqNo (y := libT (sortL L)) rfl trivial hL (by omega) (fun Q E q => q) (ev_parts10 (fun Q E q => q)))) (b_v (evEqNo (y := .tup ((linesL L).map .str)) rfl trivial hL (by omega) (fun Q E q => q) (ev_prop (fs := libF L) (fun Q E q => q) fun Q q => ⟨L, rfl, q⟩)))))) ?_
  refine seq_ifF (b_v (ev_op (x := .bl (decide (linesL L = linesL M))) (y := .bl (decide (linesL L = linesL M))) (ev_op (x := libD L) (y := libD M) (fun Q E q => q) (evMade hM (by omega) (fun Q E q => q)) fun Q q => eqLL hL hM (by omega) (by omega) q) (ev_op (x := .lst ((linesL L).map .str)) (y := .lst ((linesL M).map .str)) (ev_call (a1 (fun Q E q => q) a0) rfl fun Q E q => ⟨L, rfl, hL, by omega, q⟩) (ev_call (a1 (fun Q E q => q) a0) rfl fun Q E q => ⟨M, rfl, hM, by omega, q⟩) fun Q q => eqStrsL (lines_chars hL) (lines_chars hM) q) fun Q q => ne_bl (by rw [decide_eq_true rfl]; exact q))) ?_
  refine seq_v (.lst (zWords.map .str)) (Ev.eq (ev_lc (fun c : Nat => D.str ⟨#[c]⟩) (fun c => D.str (("z" : Str) ++ ⟨#[c]⟩)) (xs := ("abcdefghijklmnopqrstuvwxyz" : Str).cps.toList) (fun Q E q => q) (by decide +kernel) fun c hc => ⟨_, rfl, ev_op (x := .str "z") (y := .str ⟨#[c]⟩) (fun Q E q => q) (fun Q E q => q) fun Q q => ⟨(by rw [show ("z" : Str).length = 1 by decide +kernel]; show 1 + 1 ≤ sizeLine; decide), q⟩⟩) (by unfold zWords; rw [List.map_map]; rfl)) ?_
  have wa : isWordS "a" = true := by decide +kernel
  have hlp : ∀ z, (putL1 (sortL L) z (.mk [] "a")).length ≤ 8 := fun z => Nat.le_trans (len_put _ _ _).1 (by rw [len_sort]; omega)
  refine seq_p (fun d => ∃ z, isWordS z = true ∧ d = libD (putL1 (sortL L) z (.mk [] "a"))) (fun Q E q => ⟨rfl, rfl, rfl, pick10 fun z hz => ⟨rfl, rfl, wa, rfl, L, rfl, hL, by omega, word_ok hz, fun n => wordD_no hz n, fun y ey hy => ?_⟩⟩) ?_
  · cases ey
    exact .inr ⟨.mk [] "a", rfl, Good.leaf wa, fun l => q _ ⟨z, hz, rfl⟩, fun l => absurd (hlp z) (by omega)⟩
  rintro _ ⟨z, hz, rfl⟩
  have hg2 := hL.sort.put (z := z) (k := .mk [] "a") hz (Good.leaf wa)
  refine seq_p (fun d => ∃ r : Int, d = .int r ∧ 0 ≤ r ∧ r < 9) (fun Q E q => ⟨rfl, ⟨by decide, by decide⟩, fun r h0 h1 => q _ ⟨r, rfl, h0, h1⟩⟩) ?_
  rintro _ ⟨r, rfl, r0, r9⟩
  have hzl : zWords.length ≤ 30 := by decide +kernel
  refine ret_v (.bl true) (ev_op (x := .tup ((freshL (putL1 (sortL L) z (.mk [] "a")) r).map .str)) (y := .tup ((freshL (putL1 (sortL L) z (.mk [] "a")) r).map .str)) (ev_call (a1 (fun Q E q => q) (a1 (fun Q E q => q) a0)) rfl fun Q E q => ⟨_, rfl, r0, by omega, q⟩) (ev_cb (a1 (d := .lst ((freshL (putL1 (sortL L) z (.mk [] "a")) r).map .str)) (fun Q E q => ?_) a0) fun Q q => q) fun Q q => eqStrs (fresh_ok _ _) (fresh_ok _ _) (by rw [decide_eq_true rfl]; exact q)) hq
  refine (ev_lcF (fun z : Str => D.str z) (fun z => D.str z) (fun y => !decide (y ∈ keysL (putL1 (sortL L) z (.mk [] "a")))) (xs := zWords) (fun Q E q => q) (size_small (by omega)) fun y hy => ⟨_, rfl, b_v (evNotInL10 (fun Q E q => q) (fun Q E q => q)), fun _ => (fun Q E q => q)⟩) _ _ ?_
  show Q (.lst (cutD ((zWords.filter fun y => !decide (y ∈ keysL (putL1 (sortL L) z (.mk [] "a")))).map D.str) none (some r)))
  rw [cut_take _ r0, ← List.map_take]
  exact q
end K10
namespace K10
open PySem L2 FP
variable [FP.Tabl]
open KP
theorem ok_law {P : Program} {w : World} {mg : Gm} {base : Heap} {Z : Ads} (A : All mg Z) (G_Library___init__ : InitDf P w mg base 4 "Library" Z.a_Library 1 f_initL) (G_Library___str__ : SpecOk P w mg base 11 Z.a_Library "__str__" 1 f_str10) (G_Library_atoms : PropOk P w mg base 10 Z.a_Library "atoms" f_atomsL) (G_Library_lines : PropOk P w mg base 1 Z.a_Library "lines" f_linesL) (G_Library_names : PropOk P w mg base 1 Z.a_Library "names" f_namesL) (G_Library_order : PropOk P w mg base 1 Z.a_Library "order" f_order10) (G_Library_parts : PropOk P w mg base 1 Z.a_Library "parts" f_parts10) (G_Library_scope : PropOk P w mg base 1 Z.a_Library "scope" f_scope10) (G__law_dice : DefOk P w mg base 1 "_law_dice" 2 f_dice) (G__law_right : DefOk P w mg base 16 "_law_right" 1 f_tokT) : DefOk P w mg base 20 "law" 1 f_law := by
  refine mkDef (N := ["_law_script", "_law_spot", "_law_bare", "_law_told", "_law_dice_here", "_law_turn"]) (ps := ["_law_script"]) A.d_law sc_law (fun _ _ _ _ _ _ us hl => by obtain ⟨_, rfl⟩ := FP.ex1 hl; rfl) fun fa cdv Ar outer s H E hr => ⟨_,
    (dss_cons (ds_for (di_range1 A.n_range (da_cons (de_callB ok_max A.n_max FP.boot_max (da_cons de_int (da_cons (de_callB ok_min A.n_min FP.boot_min (da_cons de_int (da_cons (de_callB ok_len A.n_len FP.boot_len (da_cons (de_var 0) da_nil)) da_nil))) da_nil))) da_nil)) (dg_name (i := 1) (fun _ => sc_law.nd))
    (dss_cons (ds_set (i := 4) (de_call G__law_dice (fun _ => hr.mono (by omega)) (fun _ => pas (takes_of rfl rfl rfl rfl)) (da_cons (de_var 0) (da_cons (de_var 1) da_nil))) (fun _ => sc_law.nd))
    (dss_one (ds_for (di_range1 A.n_range (da_cons de_int da_nil)) (dg_name (i := 5) (fun _ => sc_law.nd))
    (dss_one (ds_if (dt_not (dt_val (de_call G__law_right (fun _ => hr.mono (by omega)) (fun _ => pas (takes_of rfl rfl rfl rfl)) (da_cons (de_var 4) da_nil))))
    (dss_one (ds_ret de_bl))
    dss_nil)) (fun _ => passes_of rfl)))) (fun _ => passes_of rfl))
    (dss_cons (ds_set (i := 2) (de_make0D A.kc_Library G_Library___init__ (fun _ => hr.mono (by omega)) (fun _ => pas (takes_of rfl rfl rfl rfl))) (fun _ => sc_law.nd))
    (dss_cons (ds_set (i := 3) (de_lst (da_cons (de_prop A.kc_Library G_Library_parts (fun _ => hr.mono (by omega)) (de_var 2)) (da_cons (de_prop A.kc_Library G_Library_names (fun _ => hr.mono (by omega)) (de_var 2)) (da_cons (de_prop A.kc_Library G_Library_lines (fun _ => hr.mono (by omega)) (de_var 2)) (da_cons (de_prop A.kc_Library G_Library_atoms (fun _ => hr.mono (by omega)) (de_var 2)) (da_cons (de_prop A.kc_Library G_Library_scope (fun _ => hr.mono (by omega)) (de_var 2)) (da_cons (de_prop A.kc_Library G_Library_order (fun _ => hr.mono (by omega)) (de_var 2)) (da_cons (de_callTy (ok_strM A.kc_Library G_Library___str__ (fun _ => hr.mono (by omega))) A.n_str FP.boot_str (da_cons (de_var 2) da_nil)) (da_cons (de_gint A.c_MAX_PARTS) da_nil))))))))) (fun _ => sc_law.nd))
    (dss_one (ds_ret (de_cmp (ok_eqXs (k := 0) (fun _ => hr.mono (by omega))) (de_var 3) (de_lst (da_cons de_dnew (da_cons (de_tup da_nil) (da_cons (de_tup da_nil) (da_cons (de_tup da_nil) (da_cons (de_tup da_nil) (da_cons de_int (da_cons de_str (da_cons de_int da_nil))))))))))))))),  fun ds Q Ex hl hf => ?_⟩
  obtain ⟨d0q, rfl⟩ := FP.ex1 hl
  obtain ⟨xs, rfl⟩ : ∃ w0, d0q = .fz w0 := by cases d0q <;> first | exact ⟨_, rfl⟩ | exact False.elim hf
  obtain ⟨⟨ns, hx, hn⟩, hq⟩ := hf
  subst hx
  have e0 : startD 6 [.fz (ns.map D.int)] = [Sl.d (.fz (ns.map D.int)), Sl.no, Sl.no, Sl.no, Sl.no, Sl.no] := rfl
  have hnN : (["_law_script", "_law_spot", "_law_bare", "_law_told", "_law_dice_here", "_law_turn"] : List Str).length = 6 := rfl
  rw [hnN, e0]
  clear e0 hnN
  have hm := spots (ns.map D.int).length
  refine seq_by (fun ρ => ∃ a b c, ρ = [Sl.d (.fz (ns.map D.int)), a, Sl.no, Sl.no, b, c]) (fun nx hnx => ?_) ?_
  · refine ⟨by omega, by omega, ?_⟩
    refine forD_inv (fun ρ => ∃ a b c, ρ = [Sl.d (.fz (ns.map D.int)), a, Sl.no, Sl.no, b, c]) _ _ ⟨_, _, _, rfl⟩ ?_ hnx
    rintro x hx ρ K ⟨a, b, c, rfl⟩ hK
    obtain ⟨j, rfl, hj⟩ := mem_range hx
    refine ⟨_, rfl, ?_⟩
    refine seq_v .tok (fun Q E q => ⟨rfl, ⟨ns, rfl⟩, ⟨by omega, by omega⟩, q⟩) ?_
    refine ⟨by decide, by decide, ?_⟩
    refine forD_inv (fun ρ => ∃ a e, ρ = [Sl.d (.fz (ns.map D.int)), a, Sl.no, Sl.no, Sl.d .tok, e]) _ _ ⟨_, _, rfl⟩ ?_ ?_
    · rintro y hy ρ' K' ⟨a, e, rfl⟩ hK'
      refine ⟨_, rfl, ?_⟩
      refine end_if false (not_v (b := true) (b_v (ev_call (a1 (fun Q E q => q) a0) rfl fun Q E q => q))) ?_
      exact hK' _ ⟨_, _, rfl⟩
    · rintro ρ' ⟨a, e, rfl⟩
      exact hK _ ⟨_, _, _, rfl⟩
  rintro ρ ⟨a, b, c, rfl⟩
  refine seq_v (libD []) (fun Q E q => q) ?_
  refine seq_v bareD (ev_lst (a1 (Ev.eq (ev_parts10 (L := []) (fun Q E q => q)) bare1) (a1 (ev_prop (fs := libF []) (fun Q E q => q) fun Q q => ⟨[], rfl, by rw [bare2]; exact q⟩) (a1 (ev_prop (fs := libF []) (fun Q E q => q) fun Q q => ⟨[], rfl, by rw [bare3]; exact q⟩) (a1 (ev_prop (fs := libF []) (fun Q E q => q) fun Q q => ⟨[], rfl, LibG.nil, by decide, by rw [bare4]; exact q⟩) (a1 (ev_prop (fs := libF []) (fun Q E q => q) fun Q q => ⟨[], rfl, by rw [bare5]; exact q⟩) (a1 (ev_prop (fs := libF []) (fun Q E q => q) fun Q q => ⟨[], rfl, LibG.nil, by decide, by rw [bare6]; exact q⟩) (a1 (fun Q E q => ⟨rfl, [], rfl, LibG.nil, by decide, by rw [bare7]; decide, by rw [bare7, bare8]; exact q⟩) (a1 (fun Q E q => q) a0)))))))) (line rfl)) ?_
  exact ret_v (.bl true) (ev_op (x := bareD) (y := bareD) (fun Q E q => q) (ev_lst (a1 (fun Q E q => q) (a1 (ev_tup a0 (line rfl)) (a1 (ev_tup a0 (line rfl)) (a1 (ev_tup a0 (line rfl)) (a1 (ev_tup a0 (line rfl)) (a1 (fun Q E q => q) (a1 (fun Q E q => q) (a1 (fun Q E q => q) a0)))))))) (line rfl)) fun Q q => ⟨bare_eq, q⟩) hq
end K10
namespace K10
open PySem L2 FP
variable [FP.Tabl]
theorem all_mk {K : PySem.W.Frag} {h : Heap} {mg : Str → Option Value} (X : K.In h) (G : h.Ns mainGlobals mg)
    {t_ARROW : Tok}
    {t_LETTERS : Tok}
    {t_LONGEST : Tok}
    {t_MAX_LETTERS : Tok}
    {t_MAX_ORDER : Tok}
    {t_MAX_PARTS : Tok}
    {t_MAX_PLACES : Tok}
    {C_Type : Addr}
    {C_Library : Addr}
    {f_is_integer : Addr} {od_is_integer an_is_integer : Option Addr} {sl_is_integer : Array (Option Value)} {oc_is_integer kV_is_integer dc_is_integer pm_is_integer cd_is_integer ct_is_integer : Value}
    {f_is_within : Addr} {od_is_within an_is_within : Option Addr} {sl_is_within : Array (Option Value)} {oc_is_within kV_is_within dc_is_within pm_is_within cd_is_within ct_is_within : Value}
    {f_is_word : Addr} {od_is_word an_is_word : Option Addr} {sl_is_word : Array (Option Value)} {oc_is_word kV_is_word dc_is_word pm_is_word cd_is_word ct_is_word : Value}
    {f_ascending_rows : Addr} {od_ascending_rows an_ascending_rows : Option Addr} {sl_ascending_rows : Array (Option Value)} {oc_ascending_rows kV_ascending_rows dc_ascending_rows pm_ascending_rows cd_ascending_rows ct_ascending_rows : Value}
    {f_order_of : Addr} {od_order_of an_order_of : Option Addr} {sl_order_of : Array (Option Value)} {oc_order_of kV_order_of dc_order_of pm_order_of cd_order_of ct_order_of : Value}
    {f_input_text : Addr} {od_input_text an_input_text : Option Addr} {sl_input_text : Array (Option Value)} {oc_input_text kV_input_text dc_input_text pm_input_text cd_input_text ct_input_text : Value}
    {f_Type___init__ : Addr} {od_Type___init__ an_Type___init__ : Option Addr} {sl_Type___init__ : Array (Option Value)} {oc_Type___init__ kV_Type___init__ dc_Type___init__ pm_Type___init__ cd_Type___init__ ct_Type___init__ : Value}
    {f_Type_plain : Addr} {od_Type_plain an_Type_plain : Option Addr} {sl_Type_plain : Array (Option Value)} {oc_Type_plain kV_Type_plain dc_Type_plain pm_Type_plain cd_Type_plain ct_Type_plain : Value}
    {p_Type_plain : Addr} {rs_Type_plain : List Value}
    {f_Type_text : Addr} {od_Type_text an_Type_text : Option Addr} {sl_Type_text : Array (Option Value)} {oc_Type_text kV_Type_text dc_Type_text pm_Type_text cd_Type_text ct_Type_text : Value}
    {p_Type_text : Addr} {rs_Type_text : List Value}
    {f_Type_atoms : Addr} {od_Type_atoms an_Type_atoms : Option Addr} {sl_Type_atoms : Array (Option Value)} {oc_Type_atoms kV_Type_atoms dc_Type_atoms pm_Type_atoms cd_Type_atoms ct_Type_atoms : Value}
    {p_Type_atoms : Addr} {rs_Type_atoms : List Value}
    {f_Type___str__ : Addr} {od_Type___str__ an_Type___str__ : Option Addr} {sl_Type___str__ : Array (Option Value)} {oc_Type___str__ kV_Type___str__ dc_Type___str__ pm_Type___str__ cd_Type___str__ ct_Type___str__ : Value}
    {f_signed_atoms : Addr} {od_signed_atoms an_signed_atoms : Option Addr} {sl_signed_atoms : Array (Option Value)} {oc_signed_atoms kV_signed_atoms dc_signed_atoms pm_signed_atoms cd_signed_atoms ct_signed_atoms : Value}
    {f_is_parts : Addr} {od_is_parts an_is_parts : Option Addr} {sl_is_parts : Array (Option Value)} {oc_is_parts kV_is_parts dc_is_parts pm_is_parts cd_is_parts ct_is_parts : Value}
    {f_Library___init__ : Addr} {od_Library___init__ an_Library___init__ : Option Addr} {sl_Library___init__ : Array (Option Value)} {oc_Library___init__ kV_Library___init__ dc_Library___init__ pm_Library___init__ cd_Library___init__ ct_Library___init__ : Value} {dT_Library___init__ : Addr} {dc1_Library___init__ : Value} {dd_Library___init__ : Option Addr} {dn_Library___init__ : Nat} {ds_Library___init__ : Array (Option Value)}
    {f_Library_parts : Addr} {od_Library_parts an_Library_parts : Option Addr} {sl_Library_parts : Array (Option Value)} {oc_Library_parts kV_Library_parts dc_Library_parts pm_Library_parts cd_Library_parts ct_Library_parts : Value}
    {p_Library_parts : Addr} {rs_Library_parts : List Value}
    {f_Library_names : Addr} {od_Library_names an_Library_names : Option Addr} {sl_Library_names : Array (Option Value)} {oc_Library_names kV_Library_names dc_Library_names pm_Library_names cd_Library_names ct_Library_names : Value}
    {p_Library_names : Addr} {rs_Library_names : List Value}
    {f_Library_lines : Addr} {od_Library_lines an_Library_lines : Option Addr} {sl_Library_lines : Array (Option Value)} {oc_Library_lines kV_Library_lines dc_Library_lines pm_Library_lines cd_Library_lines ct_Library_lines : Value}
    {p_Library_lines : Addr} {rs_Library_lines : List Value}
    {f_Library_atoms : Addr} {od_Library_atoms an_Library_atoms : Option Addr} {sl_Library_atoms : Array (Option Value)} {oc_Library_atoms kV_Library_atoms dc_Library_atoms pm_Library_atoms cd_Library_atoms ct_Library_atoms : Value}
    {p_Library_atoms : Addr} {rs_Library_atoms : List Value}
    {f_Library_scope : Addr} {od_Library_scope an_Library_scope : Option Addr} {sl_Library_scope : Array (Option Value)} {oc_Library_scope kV_Library_scope dc_Library_scope pm_Library_scope cd_Library_scope ct_Library_scope : Value}
    {p_Library_scope : Addr} {rs_Library_scope : List Value}
    {f_Library_order : Addr} {od_Library_order an_Library_order : Option Addr} {sl_Library_order : Array (Option Value)} {oc_Library_order kV_Library_order dc_Library_order pm_Library_order cd_Library_order ct_Library_order : Value}
    {p_Library_order : Addr} {rs_Library_order : List Value}
    {f_Library_with_part : Addr} {od_Library_with_part an_Library_with_part : Option Addr} {sl_Library_with_part : Array (Option Value)} {oc_Library_with_part kV_Library_with_part dc_Library_with_part pm_Library_with_part cd_Library_with_part ct_Library_with_part : Value}
    {f_Library_heads : Addr} {od_Library_heads an_Library_heads : Option Addr} {sl_Library_heads : Array (Option Value)} {oc_Library_heads kV_Library_heads dc_Library_heads pm_Library_heads cd_Library_heads ct_Library_heads : Value}
    {f_Library___getitem__ : Addr} {od_Library___getitem__ an_Library___getitem__ : Option Addr} {sl_Library___getitem__ : Array (Option Value)} {oc_Library___getitem__ kV_Library___getitem__ dc_Library___getitem__ pm_Library___getitem__ cd_Library___getitem__ ct_Library___getitem__ : Value}
    {f_Library___contains__ : Addr} {od_Library___contains__ an_Library___contains__ : Option Addr} {sl_Library___contains__ : Array (Option Value)} {oc_Library___contains__ kV_Library___contains__ dc_Library___contains__ pm_Library___contains__ cd_Library___contains__ ct_Library___contains__ : Value}
    {f_Library___len__ : Addr} {od_Library___len__ an_Library___len__ : Option Addr} {sl_Library___len__ : Array (Option Value)} {oc_Library___len__ kV_Library___len__ dc_Library___len__ pm_Library___len__ cd_Library___len__ ct_Library___len__ : Value}
    {f_Library___iter__ : Addr} {od_Library___iter__ an_Library___iter__ : Option Addr} {sl_Library___iter__ : Array (Option Value)} {oc_Library___iter__ kV_Library___iter__ dc_Library___iter__ pm_Library___iter__ cd_Library___iter__ ct_Library___iter__ : Value}
    {f_Library___eq__ : Addr} {od_Library___eq__ an_Library___eq__ : Option Addr} {sl_Library___eq__ : Array (Option Value)} {oc_Library___eq__ kV_Library___eq__ dc_Library___eq__ pm_Library___eq__ cd_Library___eq__ ct_Library___eq__ : Value}
    {f_Library___str__ : Addr} {od_Library___str__ an_Library___str__ : Option Addr} {sl_Library___str__ : Array (Option Value)} {oc_Library___str__ kV_Library___str__ dc_Library___str__ pm_Library___str__ cd_Library___str__ ct_Library___str__ : Value}
    {f_require_library : Addr} {od_require_library an_require_library : Option Addr} {sl_require_library : Array (Option Value)} {oc_require_library kV_require_library dc_require_library pm_require_library cd_require_library ct_require_library : Value}
    {f_atoms_in : Addr} {od_atoms_in an_atoms_in : Option Addr} {sl_atoms_in : Array (Option Value)} {oc_atoms_in kV_atoms_in dc_atoms_in pm_atoms_in cd_atoms_in ct_atoms_in : Value}
    {f_fresh_list : Addr} {od_fresh_list an_fresh_list : Option Addr} {sl_fresh_list : Array (Option Value)} {oc_fresh_list kV_fresh_list dc_fresh_list pm_fresh_list cd_fresh_list ct_fresh_list : Value}
    {f_fresh_names : Addr} {od_fresh_names an_fresh_names : Option Addr} {sl_fresh_names : Array (Option Value)} {oc_fresh_names kV_fresh_names dc_fresh_names pm_fresh_names cd_fresh_names ct_fresh_names : Value}
    {f__law_dice : Addr} {od__law_dice an__law_dice : Option Addr} {sl__law_dice : Array (Option Value)} {oc__law_dice kV__law_dice dc__law_dice pm__law_dice cd__law_dice ct__law_dice : Value}
    {f__law_roll : Addr} {od__law_roll an__law_roll : Option Addr} {sl__law_roll : Array (Option Value)} {oc__law_roll kV__law_roll dc__law_roll pm__law_roll cd__law_roll ct__law_roll : Value}
    {f__law_pick : Addr} {od__law_pick an__law_pick : Option Addr} {sl__law_pick : Array (Option Value)} {oc__law_pick kV__law_pick dc__law_pick pm__law_pick cd__law_pick ct__law_pick : Value}
    {f__law_some : Addr} {od__law_some an__law_some : Option Addr} {sl__law_some : Array (Option Value)} {oc__law_some kV__law_some dc__law_some pm__law_some cd__law_some ct__law_some : Value}
    {f__law_text : Addr} {od__law_text an__law_text : Option Addr} {sl__law_text : Array (Option Value)} {oc__law_text kV__law_text dc__law_text pm__law_text cd__law_text ct__law_text : Value}
    {f__law_atoms_of : Addr} {od__law_atoms_of an__law_atoms_of : Option Addr} {sl__law_atoms_of : Array (Option Value)} {oc__law_atoms_of kV__law_atoms_of dc__law_atoms_of pm__law_atoms_of cd__law_atoms_of ct__law_atoms_of : Value}
    {f__law_order : Addr} {od__law_order an__law_order : Option Addr} {sl__law_order : Array (Option Value)} {oc__law_order kV__law_order dc__law_order pm__law_order cd__law_order ct__law_order : Value}
    {f__law_kind : Addr} {od__law_kind an__law_kind : Option Addr} {sl__law_kind : Array (Option Value)} {oc__law_kind kV__law_kind dc__law_kind pm__law_kind cd__law_kind ct__law_kind : Value}
    {f__law_made_kind : Addr} {od__law_made_kind an__law_made_kind : Option Addr} {sl__law_made_kind : Array (Option Value)} {oc__law_made_kind kV__law_made_kind dc__law_made_kind pm__law_made_kind cd__law_made_kind ct__law_made_kind : Value}
    {f__law_library : Addr} {od__law_library an__law_library : Option Addr} {sl__law_library : Array (Option Value)} {oc__law_library kV__law_library dc__law_library pm__law_library cd__law_library ct__law_library : Value}
    {f__law_known_library : Addr} {od__law_known_library an__law_known_library : Option Addr} {sl__law_known_library : Array (Option Value)} {oc__law_known_library kV__law_known_library dc__law_known_library pm__law_known_library cd__law_known_library ct__law_known_library : Value}
    {f__law_lines : Addr} {od__law_lines an__law_lines : Option Addr} {sl__law_lines : Array (Option Value)} {oc__law_lines kV__law_lines dc__law_lines pm__law_lines cd__law_lines ct__law_lines : Value}
    {f__law_made : Addr} {od__law_made an__law_made : Option Addr} {sl__law_made : Array (Option Value)} {oc__law_made kV__law_made dc__law_made pm__law_made cd__law_made ct__law_made : Value}
    {f__law_library_atoms : Addr} {od__law_library_atoms an__law_library_atoms : Option Addr} {sl__law_library_atoms : Array (Option Value)} {oc__law_library_atoms kV__law_library_atoms dc__law_library_atoms pm__law_library_atoms cd__law_library_atoms ct__law_library_atoms : Value}
    {f__law_told_right : Addr} {od__law_told_right an__law_told_right : Option Addr} {sl__law_told_right : Array (Option Value)} {oc__law_told_right kV__law_told_right dc__law_told_right pm__law_told_right cd__law_told_right ct__law_told_right : Value}
    {f__law_right : Addr} {od__law_right an__law_right : Option Addr} {sl__law_right : Array (Option Value)} {oc__law_right kV__law_right dc__law_right pm__law_right cd__law_right ct__law_right : Value}
    {f_law : Addr} {od_law an_law : Option Addr} {sl_law : Array (Option Value)} {oc_law kV_law dc_law pm_law cd_law ct_law : Value}
    {Cx_InvalidLibrary : Addr}
    {Cx_InvalidType : Addr}
    {Cx_InvalidWord : Addr}
    (z_abs : PySem.W.nsIn K mainGlobals "abs" = some none)
    (z_all : PySem.W.nsIn K mainGlobals "all" = some none)
    (z_bool : PySem.W.nsIn K mainGlobals "bool" = some none)
    (z_dict : PySem.W.nsIn K mainGlobals "dict" = some none)
    (z_int : PySem.W.nsIn K mainGlobals "int" = some none)
    (z_isinstance : PySem.W.nsIn K mainGlobals "isinstance" = some none)
    (z_iter : PySem.W.nsIn K mainGlobals "iter" = some none)
    (z_len : PySem.W.nsIn K mainGlobals "len" = some none)
    (z_list : PySem.W.nsIn K mainGlobals "list" = some none)
    (z_max : PySem.W.nsIn K mainGlobals "max" = some none)
    (z_min : PySem.W.nsIn K mainGlobals "min" = some none)
    (z_range : PySem.W.nsIn K mainGlobals "range" = some none)
    (z_set : PySem.W.nsIn K mainGlobals "set" = some none)
    (z_sorted : PySem.W.nsIn K mainGlobals "sorted" = some none)
    (z_str : PySem.W.nsIn K mainGlobals "str" = some none)
    (z_tuple : PySem.W.nsIn K mainGlobals "tuple" = some none)
    (y_ARROW : PySem.W.nsIn K mainGlobals "ARROW" = some (some (.str " -> " t_ARROW)))
    (y_LETTERS : PySem.W.nsIn K mainGlobals "LETTERS" = some (some (.str "abcdefghijklmnopqrstuvwxyz" t_LETTERS)))
    (y_LONGEST : PySem.W.nsIn K mainGlobals "LONGEST" = some (some (.int 1000000000000000000000000000000000000000000000000000000000000 t_LONGEST)))
    (y_MAX_LETTERS : PySem.W.nsIn K mainGlobals "MAX_LETTERS" = some (some (.int 8 t_MAX_LETTERS)))
    (y_MAX_ORDER : PySem.W.nsIn K mainGlobals "MAX_ORDER" = some (some (.int 4 t_MAX_ORDER)))
    (y_MAX_PARTS : PySem.W.nsIn K mainGlobals "MAX_PARTS" = some (some (.int 8 t_MAX_PARTS)))
    (y_MAX_PLACES : PySem.W.nsIn K mainGlobals "MAX_PLACES" = some (some (.int 15 t_MAX_PLACES)))
    (aC_Type : PySem.W.nsIn K mainGlobals "Type" = some (some (.ref C_Type)))
    (pg_Type : PySem.W.plainGet K C_Type Str.empty = true)
    (hd_Type : PySem.W.hasDictIn K C_Type = true)
    (po_Type : PySem.W.plainOver K C_Type = true)
    (sa_Type : PySem.W.findIn K (.ref C_Type) "__setattr__" = some (some (.builtin "object.__setattr__")))
    (ha_Type : PySem.W.findIn K (.ref C_Type) "__class__" = some (some (.builtin "object.__class__")))
    (hn_Type : PySem.W.specialIn K (.builtin "object.__class__") "__get__" = some (some (.builtin "getset_descriptor.__get__")))
    (ht_Type : PySem.W.takesIn K (.builtin "object.__class__") = some true)
    (hm_Type : PySem.W.mroIn K C_Type (.type "object") = some true)
    (fa_Type_own_args : PySem.W.findIn K (.ref C_Type) "own_args" = some none)
    (fa_Type_own_atom : PySem.W.findIn K (.ref C_Type) "own_atom" = some none)
    (fa_Type_own_places : PySem.W.findIn K (.ref C_Type) "own_places" = some none)
    (fa_Type_own_order : PySem.W.findIn K (.ref C_Type) "own_order" = some none)
    (fa_Type_own_text : PySem.W.findIn K (.ref C_Type) "own_text" = some none)
    (ic_Type : PySem.W.isClsIn K C_Type = true)
    (ty_Type : PySem.W.typeIn K (.ref C_Type) = some (.type "type"))
    (ki0_Type : PySem.W.subIn K (.type "NoneType") (.ref C_Type) = some false)
    (ki1_Type : PySem.W.subIn K (.type "bool") (.ref C_Type) = some false)
    (ki2_Type : PySem.W.subIn K (.type "int") (.ref C_Type) = some false)
    (ki3_Type : PySem.W.subIn K (.type "str") (.ref C_Type) = some false)
    (ki4_Type : PySem.W.subIn K (.type "tuple") (.ref C_Type) = some false)
    (ki5_Type : PySem.W.subIn K (.type "list") (.ref C_Type) = some false)
    (ki6_Type : PySem.W.subIn K (.type "dict") (.ref C_Type) = some false)
    (aC_Library : PySem.W.nsIn K mainGlobals "Library" = some (some (.ref C_Library)))
    (pg_Library : PySem.W.plainGet K C_Library Str.empty = true)
    (hd_Library : PySem.W.hasDictIn K C_Library = true)
    (po_Library : PySem.W.plainOver K C_Library = true)
    (sa_Library : PySem.W.findIn K (.ref C_Library) "__setattr__" = some (some (.builtin "object.__setattr__")))
    (ha_Library : PySem.W.findIn K (.ref C_Library) "__class__" = some (some (.builtin "object.__class__")))
    (hn_Library : PySem.W.specialIn K (.builtin "object.__class__") "__get__" = some (some (.builtin "getset_descriptor.__get__")))
    (ht_Library : PySem.W.takesIn K (.builtin "object.__class__") = some true)
    (hm_Library : PySem.W.mroIn K C_Library (.type "object") = some true)
    (fa_Library_own_parts : PySem.W.findIn K (.ref C_Library) "own_parts" = some none)
    (fa_Library_own_names : PySem.W.findIn K (.ref C_Library) "own_names" = some none)
    (fa_Library_own_lines : PySem.W.findIn K (.ref C_Library) "own_lines" = some none)
    (fa_Library_own_scope : PySem.W.findIn K (.ref C_Library) "own_scope" = some none)
    (ic_Library : PySem.W.isClsIn K C_Library = true)
    (ty_Library : PySem.W.typeIn K (.ref C_Library) = some (.type "type"))
    (ki0_Library : PySem.W.subIn K (.type "NoneType") (.ref C_Library) = some false)
    (ki1_Library : PySem.W.subIn K (.type "bool") (.ref C_Library) = some false)
    (ki2_Library : PySem.W.subIn K (.type "int") (.ref C_Library) = some false)
    (ki3_Library : PySem.W.subIn K (.type "str") (.ref C_Library) = some false)
    (ki4_Library : PySem.W.subIn K (.type "tuple") (.ref C_Library) = some false)
    (ki5_Library : PySem.W.subIn K (.type "list") (.ref C_Library) = some false)
    (ki6_Library : PySem.W.subIn K (.type "dict") (.ref C_Library) = some false)
    (nf0_Library : PySem.W.notFirst K C_Library (.type "NoneType") = true)
    (nf1_Library : PySem.W.notFirst K C_Library (.type "bool") = true)
    (nf2_Library : PySem.W.notFirst K C_Library (.type "int") = true)
    (nf3_Library : PySem.W.notFirst K C_Library (.type "str") = true)
    (nf4_Library : PySem.W.notFirst K C_Library (.type "tuple") = true)
    (nf5_Library : PySem.W.notFirst K C_Library (.type "list") = true)
    (nf6_Library : PySem.W.notFirst K C_Library (.type "dict") = true)
    (nf7_Library : PySem.W.notFirst K C_Library (.ref C_Library) = true)
    (nn_Library : PySem.W.findIn K (.ref C_Library) "__ne__" = some (some (.builtin "object.__ne__")))
    (fm_Type : PySem.W.findIn K (.ref C_Type) "__format__" = some (some (.builtin "object.__format__")))
    (sb_str_Library : PySem.W.subIn K (.ref C_Library) (.type "str") = some false)
    (sb_str_Type : PySem.W.subIn K (.ref C_Type) (.type "str") = some false)
    (a_is_integer : PySem.W.nsIn K mainGlobals "is_integer" = some (some (.ref f_is_integer)))
    (l_is_integer : K.lookup f_is_integer = some ⟨oc_is_integer, od_is_integer, .func (PySem.W.fnOf "is_integer" "is_integer" (defArgs s_is_integer) (defBody s_is_integer) (defScope s_is_integer) .none kV_is_integer dc_is_integer pm_is_integer an_is_integer cd_is_integer ct_is_integer), sl_is_integer⟩)
    (c_is_integer : PySem.W.codeIn K cd_is_integer "is_integer" = true)
    (k_is_integer : PySem.W.keepIn K (.ref f_is_integer) = true)
    (a_is_within : PySem.W.nsIn K mainGlobals "is_within" = some (some (.ref f_is_within)))
    (l_is_within : K.lookup f_is_within = some ⟨oc_is_within, od_is_within, .func (PySem.W.fnOf "is_within" "is_within" (defArgs s_is_within) (defBody s_is_within) (defScope s_is_within) .none kV_is_within dc_is_within pm_is_within an_is_within cd_is_within ct_is_within), sl_is_within⟩)
    (c_is_within : PySem.W.codeIn K cd_is_within "is_within" = true)
    (k_is_within : PySem.W.keepIn K (.ref f_is_within) = true)
    (a_is_word : PySem.W.nsIn K mainGlobals "is_word" = some (some (.ref f_is_word)))
    (l_is_word : K.lookup f_is_word = some ⟨oc_is_word, od_is_word, .func (PySem.W.fnOf "is_word" "is_word" (defArgs s_is_word) (defBody s_is_word) (defScope s_is_word) .none kV_is_word dc_is_word pm_is_word an_is_word cd_is_word ct_is_word), sl_is_word⟩)
    (c_is_word : PySem.W.codeIn K cd_is_word "is_word" = true)
    (k_is_word : PySem.W.keepIn K (.ref f_is_word) = true)
    (a_ascending_rows : PySem.W.nsIn K mainGlobals "ascending_rows" = some (some (.ref f_ascending_rows)))
    (l_ascending_rows : K.lookup f_ascending_rows = some ⟨oc_ascending_rows, od_ascending_rows, .func (PySem.W.fnOf "ascending_rows" "ascending_rows" (defArgs s_ascending_rows) (defBody s_ascending_rows) (defScope s_ascending_rows) .none kV_ascending_rows dc_ascending_rows pm_ascending_rows an_ascending_rows cd_ascending_rows ct_ascending_rows), sl_ascending_rows⟩)
    (c_ascending_rows : PySem.W.codeIn K cd_ascending_rows "ascending_rows" = true)
    (k_ascending_rows : PySem.W.keepIn K (.ref f_ascending_rows) = true)
    (a_order_of : PySem.W.nsIn K mainGlobals "order_of" = some (some (.ref f_order_of)))
    (l_order_of : K.lookup f_order_of = some ⟨oc_order_of, od_order_of, .func (PySem.W.fnOf "order_of" "order_of" (defArgs s_order_of) (defBody s_order_of) (defScope s_order_of) .none kV_order_of dc_order_of pm_order_of an_order_of cd_order_of ct_order_of), sl_order_of⟩)
    (c_order_of : PySem.W.codeIn K cd_order_of "order_of" = true)
    (k_order_of : PySem.W.keepIn K (.ref f_order_of) = true)
    (a_input_text : PySem.W.nsIn K mainGlobals "input_text" = some (some (.ref f_input_text)))
    (l_input_text : K.lookup f_input_text = some ⟨oc_input_text, od_input_text, .func (PySem.W.fnOf "input_text" "input_text" (defArgs s_input_text) (defBody s_input_text) (defScope s_input_text) .none kV_input_text dc_input_text pm_input_text an_input_text cd_input_text ct_input_text), sl_input_text⟩)
    (c_input_text : PySem.W.codeIn K cd_input_text "input_text" = true)
    (k_input_text : PySem.W.keepIn K (.ref f_input_text) = true)
    (a_Type___init__ : PySem.W.findIn K (.ref C_Type) "__init__" = some (some (.ref f_Type___init__)))
    (i_Type___init__ : PySem.W.isFn K (.ref f_Type___init__) = true)
    (l_Type___init__ : K.lookup f_Type___init__ = some ⟨oc_Type___init__, od_Type___init__, .func (PySem.W.fnOf "__init__" "Type.__init__" (defArgs s_Type___init__) (defBody s_Type___init__) (defScope s_Type___init__) .none kV_Type___init__ dc_Type___init__ pm_Type___init__ an_Type___init__ cd_Type___init__ ct_Type___init__), sl_Type___init__⟩)
    (c_Type___init__ : PySem.W.codeIn K cd_Type___init__ "Type.__init__" = true)
    (k_Type___init__ : PySem.W.keepIn K (.ref f_Type___init__) = true)
    (mk_Type : PySem.W.makesIn K C_Type = true)
    (kk_Type : PySem.W.keepIn K (.ref C_Type) = true)
    (rd_Type_plain : PySem.W.readsIn K C_Type (.type "type") = true)
    (ga_Type_plain : PySem.W.specialIn K (.ref C_Type) "__getattribute__" = some (some (.builtin "type.__getattribute__")))
    (a_Type_plain : PySem.W.findCls K (.ref C_Type) (.type "type") "plain" = some (.get (.builtin "classmethod.__get__") (.ref p_Type_plain) .none (.ref C_Type)))
    (r_Type_plain : PySem.W.recIn K p_Type_plain "classmethod" = some (.ref f_Type_plain :: rs_Type_plain))
    (fi_Type_plain : PySem.W.fnIn K f_Type_plain = true)
    (l_Type_plain : K.lookup f_Type_plain = some ⟨oc_Type_plain, od_Type_plain, .func (PySem.W.fnOf "plain" "Type.plain" (defArgs s_Type_plain) (defBody s_Type_plain) (defScope s_Type_plain) .none kV_Type_plain dc_Type_plain pm_Type_plain an_Type_plain cd_Type_plain ct_Type_plain), sl_Type_plain⟩)
    (c_Type_plain : PySem.W.codeIn K cd_Type_plain "Type.plain" = true)
    (k_Type_plain : PySem.W.keepIn K (.ref f_Type_plain) = true)
    (a_Type_text : PySem.W.findIn K (.ref C_Type) "text" = some (some (.ref p_Type_text)))
    (g_Type_text : PySem.W.specialIn K (.ref p_Type_text) "__get__" = some (some (.builtin "property.__get__")))
    (t_Type_text : PySem.W.takesIn K (.ref p_Type_text) = some true)
    (r_Type_text : PySem.W.recIn K p_Type_text "property" = some (.ref f_Type_text :: rs_Type_text))
    (l_Type_text : K.lookup f_Type_text = some ⟨oc_Type_text, od_Type_text, .func (PySem.W.fnOf "text" "Type.text" (defArgs s_Type_text) (defBody s_Type_text) (defScope s_Type_text) .none kV_Type_text dc_Type_text pm_Type_text an_Type_text cd_Type_text ct_Type_text), sl_Type_text⟩)
    (c_Type_text : PySem.W.codeIn K cd_Type_text "Type.text" = true)
    (k_Type_text : PySem.W.keepIn K (.ref f_Type_text) = true)
    (a_Type_atoms : PySem.W.findIn K (.ref C_Type) "atoms" = some (some (.ref p_Type_atoms)))
    (g_Type_atoms : PySem.W.specialIn K (.ref p_Type_atoms) "__get__" = some (some (.builtin "property.__get__")))
    (t_Type_atoms : PySem.W.takesIn K (.ref p_Type_atoms) = some true)
    (r_Type_atoms : PySem.W.recIn K p_Type_atoms "property" = some (.ref f_Type_atoms :: rs_Type_atoms))
    (l_Type_atoms : K.lookup f_Type_atoms = some ⟨oc_Type_atoms, od_Type_atoms, .func (PySem.W.fnOf "atoms" "Type.atoms" (defArgs s_Type_atoms) (defBody s_Type_atoms) (defScope s_Type_atoms) .none kV_Type_atoms dc_Type_atoms pm_Type_atoms an_Type_atoms cd_Type_atoms ct_Type_atoms), sl_Type_atoms⟩)
    (c_Type_atoms : PySem.W.codeIn K cd_Type_atoms "Type.atoms" = true)
    (k_Type_atoms : PySem.W.keepIn K (.ref f_Type_atoms) = true)
    (a_Type___str__ : PySem.W.findIn K (.ref C_Type) "__str__" = some (some (.ref f_Type___str__)))
    (i_Type___str__ : PySem.W.isFn K (.ref f_Type___str__) = true)
    (fi_Type___str__ : PySem.W.fnIn K f_Type___str__ = true)
    (l_Type___str__ : K.lookup f_Type___str__ = some ⟨oc_Type___str__, od_Type___str__, .func (PySem.W.fnOf "__str__" "Type.__str__" (defArgs s_Type___str__) (defBody s_Type___str__) (defScope s_Type___str__) .none kV_Type___str__ dc_Type___str__ pm_Type___str__ an_Type___str__ cd_Type___str__ ct_Type___str__), sl_Type___str__⟩)
    (c_Type___str__ : PySem.W.codeIn K cd_Type___str__ "Type.__str__" = true)
    (k_Type___str__ : PySem.W.keepIn K (.ref f_Type___str__) = true)
    (a_signed_atoms : PySem.W.nsIn K mainGlobals "signed_atoms" = some (some (.ref f_signed_atoms)))
    (l_signed_atoms : K.lookup f_signed_atoms = some ⟨oc_signed_atoms, od_signed_atoms, .func (PySem.W.fnOf "signed_atoms" "signed_atoms" (defArgs s_signed_atoms) (defBody s_signed_atoms) (defScope s_signed_atoms) .none kV_signed_atoms dc_signed_atoms pm_signed_atoms an_signed_atoms cd_signed_atoms ct_signed_atoms), sl_signed_atoms⟩)
    (c_signed_atoms : PySem.W.codeIn K cd_signed_atoms "signed_atoms" = true)
    (k_signed_atoms : PySem.W.keepIn K (.ref f_signed_atoms) = true)
    (a_is_parts : PySem.W.nsIn K mainGlobals "is_parts" = some (some (.ref f_is_parts)))
    (l_is_parts : K.lookup f_is_parts = some ⟨oc_is_parts, od_is_parts, .func (PySem.W.fnOf "is_parts" "is_parts" (defArgs s_is_parts) (defBody s_is_parts) (defScope s_is_parts) .none kV_is_parts dc_is_parts pm_is_parts an_is_parts cd_is_parts ct_is_parts), sl_is_parts⟩)
    (c_is_parts : PySem.W.codeIn K cd_is_parts "is_parts" = true)
    (k_is_parts : PySem.W.keepIn K (.ref f_is_parts) = true)
    (a_Library___init__ : PySem.W.findIn K (.ref C_Library) "__init__" = some (some (.ref f_Library___init__)))
    (i_Library___init__ : PySem.W.isFn K (.ref f_Library___init__) = true)
    (l_Library___init__ : K.lookup f_Library___init__ = some ⟨oc_Library___init__, od_Library___init__, .func (PySem.W.fnOf "__init__" "Library.__init__" (defArgs s_Library___init__) (defBody s_Library___init__) (defScope s_Library___init__) (.ref dT_Library___init__) kV_Library___init__ dc_Library___init__ pm_Library___init__ an_Library___init__ cd_Library___init__ ct_Library___init__), sl_Library___init__⟩)
    (c_Library___init__ : PySem.W.codeIn K cd_Library___init__ "Library.__init__" = true)
    (k_Library___init__ : PySem.W.keepIn K (.ref f_Library___init__) = true)
    (dv_Library___init__ : K.lookup dT_Library___init__ = some ⟨dc1_Library___init__, dd_Library___init__, .seq #[.none] dn_Library___init__, ds_Library___init__⟩)
    (mk_Library : PySem.W.makesIn K C_Library = true)
    (kk_Library : PySem.W.keepIn K (.ref C_Library) = true)
    (a_Library_parts : PySem.W.findIn K (.ref C_Library) "parts" = some (some (.ref p_Library_parts)))
    (g_Library_parts : PySem.W.specialIn K (.ref p_Library_parts) "__get__" = some (some (.builtin "property.__get__")))
    (t_Library_parts : PySem.W.takesIn K (.ref p_Library_parts) = some true)
    (r_Library_parts : PySem.W.recIn K p_Library_parts "property" = some (.ref f_Library_parts :: rs_Library_parts))
    (l_Library_parts : K.lookup f_Library_parts = some ⟨oc_Library_parts, od_Library_parts, .func (PySem.W.fnOf "parts" "Library.parts" (defArgs s_Library_parts) (defBody s_Library_parts) (defScope s_Library_parts) .none kV_Library_parts dc_Library_parts pm_Library_parts an_Library_parts cd_Library_parts ct_Library_parts), sl_Library_parts⟩)
    (c_Library_parts : PySem.W.codeIn K cd_Library_parts "Library.parts" = true)
    (k_Library_parts : PySem.W.keepIn K (.ref f_Library_parts) = true)
    (a_Library_names : PySem.W.findIn K (.ref C_Library) "names" = some (some (.ref p_Library_names)))
    (g_Library_names : PySem.W.specialIn K (.ref p_Library_names) "__get__" = some (some (.builtin "property.__get__")))
    (t_Library_names : PySem.W.takesIn K (.ref p_Library_names) = some true)
    (r_Library_names : PySem.W.recIn K p_Library_names "property" = some (.ref f_Library_names :: rs_Library_names))
    (l_Library_names : K.lookup f_Library_names = some ⟨oc_Library_names, od_Library_names, .func (PySem.W.fnOf "names" "Library.names" (defArgs s_Library_names) (defBody s_Library_names) (defScope s_Library_names) .none kV_Library_names dc_Library_names pm_Library_names an_Library_names cd_Library_names ct_Library_names), sl_Library_names⟩)
    (c_Library_names : PySem.W.codeIn K cd_Library_names "Library.names" = true)
    (k_Library_names : PySem.W.keepIn K (.ref f_Library_names) = true)
    (a_Library_lines : PySem.W.findIn K (.ref C_Library) "lines" = some (some (.ref p_Library_lines)))
    (g_Library_lines : PySem.W.specialIn K (.ref p_Library_lines) "__get__" = some (some (.builtin "property.__get__")))
    (t_Library_lines : PySem.W.takesIn K (.ref p_Library_lines) = some true)
    (r_Library_lines : PySem.W.recIn K p_Library_lines "property" = some (.ref f_Library_lines :: rs_Library_lines))
    (l_Library_lines : K.lookup f_Library_lines = some ⟨oc_Library_lines, od_Library_lines, .func (PySem.W.fnOf "lines" "Library.lines" (defArgs s_Library_lines) (defBody s_Library_lines) (defScope s_Library_lines) .none kV_Library_lines dc_Library_lines pm_Library_lines an_Library_lines cd_Library_lines ct_Library_lines), sl_Library_lines⟩)
    (c_Library_lines : PySem.W.codeIn K cd_Library_lines "Library.lines" = true)
    (k_Library_lines : PySem.W.keepIn K (.ref f_Library_lines) = true)
    (a_Library_atoms : PySem.W.findIn K (.ref C_Library) "atoms" = some (some (.ref p_Library_atoms)))
    (g_Library_atoms : PySem.W.specialIn K (.ref p_Library_atoms) "__get__" = some (some (.builtin "property.__get__")))
    (t_Library_atoms : PySem.W.takesIn K (.ref p_Library_atoms) = some true)
    (r_Library_atoms : PySem.W.recIn K p_Library_atoms "property" = some (.ref f_Library_atoms :: rs_Library_atoms))
    (l_Library_atoms : K.lookup f_Library_atoms = some ⟨oc_Library_atoms, od_Library_atoms, .func (PySem.W.fnOf "atoms" "Library.atoms" (defArgs s_Library_atoms) (defBody s_Library_atoms) (defScope s_Library_atoms) .none kV_Library_atoms dc_Library_atoms pm_Library_atoms an_Library_atoms cd_Library_atoms ct_Library_atoms), sl_Library_atoms⟩)
    (c_Library_atoms : PySem.W.codeIn K cd_Library_atoms "Library.atoms" = true)
    (k_Library_atoms : PySem.W.keepIn K (.ref f_Library_atoms) = true)
    (a_Library_scope : PySem.W.findIn K (.ref C_Library) "scope" = some (some (.ref p_Library_scope)))
    (g_Library_scope : PySem.W.specialIn K (.ref p_Library_scope) "__get__" = some (some (.builtin "property.__get__")))
    (t_Library_scope : PySem.W.takesIn K (.ref p_Library_scope) = some true)
    (r_Library_scope : PySem.W.recIn K p_Library_scope "property" = some (.ref f_Library_scope :: rs_Library_scope))
    (l_Library_scope : K.lookup f_Library_scope = some ⟨oc_Library_scope, od_Library_scope, .func (PySem.W.fnOf "scope" "Library.scope" (defArgs s_Library_scope) (defBody s_Library_scope) (defScope s_Library_scope) .none kV_Library_scope dc_Library_scope pm_Library_scope an_Library_scope cd_Library_scope ct_Library_scope), sl_Library_scope⟩)
    (c_Library_scope : PySem.W.codeIn K cd_Library_scope "Library.scope" = true)
    (k_Library_scope : PySem.W.keepIn K (.ref f_Library_scope) = true)
    (a_Library_order : PySem.W.findIn K (.ref C_Library) "order" = some (some (.ref p_Library_order)))
    (g_Library_order : PySem.W.specialIn K (.ref p_Library_order) "__get__" = some (some (.builtin "property.__get__")))
    (t_Library_order : PySem.W.takesIn K (.ref p_Library_order) = some true)
    (r_Library_order : PySem.W.recIn K p_Library_order "property" = some (.ref f_Library_order :: rs_Library_order))
    (l_Library_order : K.lookup f_Library_order = some ⟨oc_Library_order, od_Library_order, .func (PySem.W.fnOf "order" "Library.order" (defArgs s_Library_order) (defBody s_Library_order) (defScope s_Library_order) .none kV_Library_order dc_Library_order pm_Library_order an_Library_order cd_Library_order ct_Library_order), sl_Library_order⟩)
    (c_Library_order : PySem.W.codeIn K cd_Library_order "Library.order" = true)
    (k_Library_order : PySem.W.keepIn K (.ref f_Library_order) = true)
    (a_Library_with_part : PySem.W.findIn K (.ref C_Library) "with_part" = some (some (.ref f_Library_with_part)))
    (i_Library_with_part : PySem.W.isFn K (.ref f_Library_with_part) = true)
    (l_Library_with_part : K.lookup f_Library_with_part = some ⟨oc_Library_with_part, od_Library_with_part, .func (PySem.W.fnOf "with_part" "Library.with_part" (defArgs s_Library_with_part) (defBody s_Library_with_part) (defScope s_Library_with_part) .none kV_Library_with_part dc_Library_with_part pm_Library_with_part an_Library_with_part cd_Library_with_part ct_Library_with_part), sl_Library_with_part⟩)
    (c_Library_with_part : PySem.W.codeIn K cd_Library_with_part "Library.with_part" = true)
    (k_Library_with_part : PySem.W.keepIn K (.ref f_Library_with_part) = true)
    (a_Library_heads : PySem.W.findIn K (.ref C_Library) "heads" = some (some (.ref f_Library_heads)))
    (i_Library_heads : PySem.W.isFn K (.ref f_Library_heads) = true)
    (l_Library_heads : K.lookup f_Library_heads = some ⟨oc_Library_heads, od_Library_heads, .func (PySem.W.fnOf "heads" "Library.heads" (defArgs s_Library_heads) (defBody s_Library_heads) (defScope s_Library_heads) .none kV_Library_heads dc_Library_heads pm_Library_heads an_Library_heads cd_Library_heads ct_Library_heads), sl_Library_heads⟩)
    (c_Library_heads : PySem.W.codeIn K cd_Library_heads "Library.heads" = true)
    (k_Library_heads : PySem.W.keepIn K (.ref f_Library_heads) = true)
    (a_Library___getitem__ : PySem.W.findIn K (.ref C_Library) "__getitem__" = some (some (.ref f_Library___getitem__)))
    (i_Library___getitem__ : PySem.W.isFn K (.ref f_Library___getitem__) = true)
    (fi_Library___getitem__ : PySem.W.fnIn K f_Library___getitem__ = true)
    (l_Library___getitem__ : K.lookup f_Library___getitem__ = some ⟨oc_Library___getitem__, od_Library___getitem__, .func (PySem.W.fnOf "__getitem__" "Library.__getitem__" (defArgs s_Library___getitem__) (defBody s_Library___getitem__) (defScope s_Library___getitem__) .none kV_Library___getitem__ dc_Library___getitem__ pm_Library___getitem__ an_Library___getitem__ cd_Library___getitem__ ct_Library___getitem__), sl_Library___getitem__⟩)
    (c_Library___getitem__ : PySem.W.codeIn K cd_Library___getitem__ "Library.__getitem__" = true)
    (k_Library___getitem__ : PySem.W.keepIn K (.ref f_Library___getitem__) = true)
    (a_Library___contains__ : PySem.W.findIn K (.ref C_Library) "__contains__" = some (some (.ref f_Library___contains__)))
    (i_Library___contains__ : PySem.W.isFn K (.ref f_Library___contains__) = true)
    (fi_Library___contains__ : PySem.W.fnIn K f_Library___contains__ = true)
    (l_Library___contains__ : K.lookup f_Library___contains__ = some ⟨oc_Library___contains__, od_Library___contains__, .func (PySem.W.fnOf "__contains__" "Library.__contains__" (defArgs s_Library___contains__) (defBody s_Library___contains__) (defScope s_Library___contains__) .none kV_Library___contains__ dc_Library___contains__ pm_Library___contains__ an_Library___contains__ cd_Library___contains__ ct_Library___contains__), sl_Library___contains__⟩)
    (c_Library___contains__ : PySem.W.codeIn K cd_Library___contains__ "Library.__contains__" = true)
    (k_Library___contains__ : PySem.W.keepIn K (.ref f_Library___contains__) = true)
    (a_Library___len__ : PySem.W.findIn K (.ref C_Library) "__len__" = some (some (.ref f_Library___len__)))
    (i_Library___len__ : PySem.W.isFn K (.ref f_Library___len__) = true)
    (fi_Library___len__ : PySem.W.fnIn K f_Library___len__ = true)
    (l_Library___len__ : K.lookup f_Library___len__ = some ⟨oc_Library___len__, od_Library___len__, .func (PySem.W.fnOf "__len__" "Library.__len__" (defArgs s_Library___len__) (defBody s_Library___len__) (defScope s_Library___len__) .none kV_Library___len__ dc_Library___len__ pm_Library___len__ an_Library___len__ cd_Library___len__ ct_Library___len__), sl_Library___len__⟩)
    (c_Library___len__ : PySem.W.codeIn K cd_Library___len__ "Library.__len__" = true)
    (k_Library___len__ : PySem.W.keepIn K (.ref f_Library___len__) = true)
    (a_Library___iter__ : PySem.W.findIn K (.ref C_Library) "__iter__" = some (some (.ref f_Library___iter__)))
    (i_Library___iter__ : PySem.W.isFn K (.ref f_Library___iter__) = true)
    (l_Library___iter__ : K.lookup f_Library___iter__ = some ⟨oc_Library___iter__, od_Library___iter__, .func (PySem.W.fnOf "__iter__" "Library.__iter__" (defArgs s_Library___iter__) (defBody s_Library___iter__) (defScope s_Library___iter__) .none kV_Library___iter__ dc_Library___iter__ pm_Library___iter__ an_Library___iter__ cd_Library___iter__ ct_Library___iter__), sl_Library___iter__⟩)
    (c_Library___iter__ : PySem.W.codeIn K cd_Library___iter__ "Library.__iter__" = true)
    (k_Library___iter__ : PySem.W.keepIn K (.ref f_Library___iter__) = true)
    (a_Library___eq__ : PySem.W.findIn K (.ref C_Library) "__eq__" = some (some (.ref f_Library___eq__)))
    (i_Library___eq__ : PySem.W.isFn K (.ref f_Library___eq__) = true)
    (fi_Library___eq__ : PySem.W.fnIn K f_Library___eq__ = true)
    (l_Library___eq__ : K.lookup f_Library___eq__ = some ⟨oc_Library___eq__, od_Library___eq__, .func (PySem.W.fnOf "__eq__" "Library.__eq__" (defArgs s_Library___eq__) (defBody s_Library___eq__) (defScope s_Library___eq__) .none kV_Library___eq__ dc_Library___eq__ pm_Library___eq__ an_Library___eq__ cd_Library___eq__ ct_Library___eq__), sl_Library___eq__⟩)
    (c_Library___eq__ : PySem.W.codeIn K cd_Library___eq__ "Library.__eq__" = true)
    (k_Library___eq__ : PySem.W.keepIn K (.ref f_Library___eq__) = true)
    (a_Library___str__ : PySem.W.findIn K (.ref C_Library) "__str__" = some (some (.ref f_Library___str__)))
    (i_Library___str__ : PySem.W.isFn K (.ref f_Library___str__) = true)
    (fi_Library___str__ : PySem.W.fnIn K f_Library___str__ = true)
    (l_Library___str__ : K.lookup f_Library___str__ = some ⟨oc_Library___str__, od_Library___str__, .func (PySem.W.fnOf "__str__" "Library.__str__" (defArgs s_Library___str__) (defBody s_Library___str__) (defScope s_Library___str__) .none kV_Library___str__ dc_Library___str__ pm_Library___str__ an_Library___str__ cd_Library___str__ ct_Library___str__), sl_Library___str__⟩)
    (c_Library___str__ : PySem.W.codeIn K cd_Library___str__ "Library.__str__" = true)
    (k_Library___str__ : PySem.W.keepIn K (.ref f_Library___str__) = true)
    (a_require_library : PySem.W.nsIn K mainGlobals "require_library" = some (some (.ref f_require_library)))
    (l_require_library : K.lookup f_require_library = some ⟨oc_require_library, od_require_library, .func (PySem.W.fnOf "require_library" "require_library" (defArgs s_require_library) (defBody s_require_library) (defScope s_require_library) .none kV_require_library dc_require_library pm_require_library an_require_library cd_require_library ct_require_library), sl_require_library⟩)
    (c_require_library : PySem.W.codeIn K cd_require_library "require_library" = true)
    (k_require_library : PySem.W.keepIn K (.ref f_require_library) = true)
    (a_atoms_in : PySem.W.nsIn K mainGlobals "atoms_in" = some (some (.ref f_atoms_in)))
    (l_atoms_in : K.lookup f_atoms_in = some ⟨oc_atoms_in, od_atoms_in, .func (PySem.W.fnOf "atoms_in" "atoms_in" (defArgs s_atoms_in) (defBody s_atoms_in) (defScope s_atoms_in) .none kV_atoms_in dc_atoms_in pm_atoms_in an_atoms_in cd_atoms_in ct_atoms_in), sl_atoms_in⟩)
    (c_atoms_in : PySem.W.codeIn K cd_atoms_in "atoms_in" = true)
    (k_atoms_in : PySem.W.keepIn K (.ref f_atoms_in) = true)
    (a_fresh_list : PySem.W.nsIn K mainGlobals "fresh_list" = some (some (.ref f_fresh_list)))
    (l_fresh_list : K.lookup f_fresh_list = some ⟨oc_fresh_list, od_fresh_list, .func (PySem.W.fnOf "fresh_list" "fresh_list" (defArgs s_fresh_list) (defBody s_fresh_list) (defScope s_fresh_list) .none kV_fresh_list dc_fresh_list pm_fresh_list an_fresh_list cd_fresh_list ct_fresh_list), sl_fresh_list⟩)
    (c_fresh_list : PySem.W.codeIn K cd_fresh_list "fresh_list" = true)
    (k_fresh_list : PySem.W.keepIn K (.ref f_fresh_list) = true)
    (a_fresh_names : PySem.W.nsIn K mainGlobals "fresh_names" = some (some (.ref f_fresh_names)))
    (l_fresh_names : K.lookup f_fresh_names = some ⟨oc_fresh_names, od_fresh_names, .func (PySem.W.fnOf "fresh_names" "fresh_names" (defArgs s_fresh_names) (defBody s_fresh_names) (defScope s_fresh_names) .none kV_fresh_names dc_fresh_names pm_fresh_names an_fresh_names cd_fresh_names ct_fresh_names), sl_fresh_names⟩)
    (c_fresh_names : PySem.W.codeIn K cd_fresh_names "fresh_names" = true)
    (k_fresh_names : PySem.W.keepIn K (.ref f_fresh_names) = true)
    (a__law_dice : PySem.W.nsIn K mainGlobals "_law_dice" = some (some (.ref f__law_dice)))
    (l__law_dice : K.lookup f__law_dice = some ⟨oc__law_dice, od__law_dice, .func (PySem.W.fnOf "_law_dice" "_law_dice" (defArgs s__law_dice) (defBody s__law_dice) (defScope s__law_dice) .none kV__law_dice dc__law_dice pm__law_dice an__law_dice cd__law_dice ct__law_dice), sl__law_dice⟩)
    (c__law_dice : PySem.W.codeIn K cd__law_dice "_law_dice" = true)
    (k__law_dice : PySem.W.keepIn K (.ref f__law_dice) = true)
    (a__law_roll : PySem.W.nsIn K mainGlobals "_law_roll" = some (some (.ref f__law_roll)))
    (l__law_roll : K.lookup f__law_roll = some ⟨oc__law_roll, od__law_roll, .func (PySem.W.fnOf "_law_roll" "_law_roll" (defArgs s__law_roll) (defBody s__law_roll) (defScope s__law_roll) .none kV__law_roll dc__law_roll pm__law_roll an__law_roll cd__law_roll ct__law_roll), sl__law_roll⟩)
    (c__law_roll : PySem.W.codeIn K cd__law_roll "_law_roll" = true)
    (k__law_roll : PySem.W.keepIn K (.ref f__law_roll) = true)
    (a__law_pick : PySem.W.nsIn K mainGlobals "_law_pick" = some (some (.ref f__law_pick)))
    (l__law_pick : K.lookup f__law_pick = some ⟨oc__law_pick, od__law_pick, .func (PySem.W.fnOf "_law_pick" "_law_pick" (defArgs s__law_pick) (defBody s__law_pick) (defScope s__law_pick) .none kV__law_pick dc__law_pick pm__law_pick an__law_pick cd__law_pick ct__law_pick), sl__law_pick⟩)
    (c__law_pick : PySem.W.codeIn K cd__law_pick "_law_pick" = true)
    (k__law_pick : PySem.W.keepIn K (.ref f__law_pick) = true)
    (a__law_some : PySem.W.nsIn K mainGlobals "_law_some" = some (some (.ref f__law_some)))
    (l__law_some : K.lookup f__law_some = some ⟨oc__law_some, od__law_some, .func (PySem.W.fnOf "_law_some" "_law_some" (defArgs s__law_some) (defBody s__law_some) (defScope s__law_some) .none kV__law_some dc__law_some pm__law_some an__law_some cd__law_some ct__law_some), sl__law_some⟩)
    (c__law_some : PySem.W.codeIn K cd__law_some "_law_some" = true)
    (k__law_some : PySem.W.keepIn K (.ref f__law_some) = true)
    (a__law_text : PySem.W.nsIn K mainGlobals "_law_text" = some (some (.ref f__law_text)))
    (l__law_text : K.lookup f__law_text = some ⟨oc__law_text, od__law_text, .func (PySem.W.fnOf "_law_text" "_law_text" (defArgs s__law_text) (defBody s__law_text) (defScope s__law_text) .none kV__law_text dc__law_text pm__law_text an__law_text cd__law_text ct__law_text), sl__law_text⟩)
    (c__law_text : PySem.W.codeIn K cd__law_text "_law_text" = true)
    (k__law_text : PySem.W.keepIn K (.ref f__law_text) = true)
    (a__law_atoms_of : PySem.W.nsIn K mainGlobals "_law_atoms_of" = some (some (.ref f__law_atoms_of)))
    (l__law_atoms_of : K.lookup f__law_atoms_of = some ⟨oc__law_atoms_of, od__law_atoms_of, .func (PySem.W.fnOf "_law_atoms_of" "_law_atoms_of" (defArgs s__law_atoms_of) (defBody s__law_atoms_of) (defScope s__law_atoms_of) .none kV__law_atoms_of dc__law_atoms_of pm__law_atoms_of an__law_atoms_of cd__law_atoms_of ct__law_atoms_of), sl__law_atoms_of⟩)
    (c__law_atoms_of : PySem.W.codeIn K cd__law_atoms_of "_law_atoms_of" = true)
    (k__law_atoms_of : PySem.W.keepIn K (.ref f__law_atoms_of) = true)
    (a__law_order : PySem.W.nsIn K mainGlobals "_law_order" = some (some (.ref f__law_order)))
    (l__law_order : K.lookup f__law_order = some ⟨oc__law_order, od__law_order, .func (PySem.W.fnOf "_law_order" "_law_order" (defArgs s__law_order) (defBody s__law_order) (defScope s__law_order) .none kV__law_order dc__law_order pm__law_order an__law_order cd__law_order ct__law_order), sl__law_order⟩)
    (c__law_order : PySem.W.codeIn K cd__law_order "_law_order" = true)
    (k__law_order : PySem.W.keepIn K (.ref f__law_order) = true)
    (a__law_kind : PySem.W.nsIn K mainGlobals "_law_kind" = some (some (.ref f__law_kind)))
    (l__law_kind : K.lookup f__law_kind = some ⟨oc__law_kind, od__law_kind, .func (PySem.W.fnOf "_law_kind" "_law_kind" (defArgs s__law_kind) (defBody s__law_kind) (defScope s__law_kind) .none kV__law_kind dc__law_kind pm__law_kind an__law_kind cd__law_kind ct__law_kind), sl__law_kind⟩)
    (c__law_kind : PySem.W.codeIn K cd__law_kind "_law_kind" = true)
    (k__law_kind : PySem.W.keepIn K (.ref f__law_kind) = true)
    (a__law_made_kind : PySem.W.nsIn K mainGlobals "_law_made_kind" = some (some (.ref f__law_made_kind)))
    (l__law_made_kind : K.lookup f__law_made_kind = some ⟨oc__law_made_kind, od__law_made_kind, .func (PySem.W.fnOf "_law_made_kind" "_law_made_kind" (defArgs s__law_made_kind) (defBody s__law_made_kind) (defScope s__law_made_kind) .none kV__law_made_kind dc__law_made_kind pm__law_made_kind an__law_made_kind cd__law_made_kind ct__law_made_kind), sl__law_made_kind⟩)
    (c__law_made_kind : PySem.W.codeIn K cd__law_made_kind "_law_made_kind" = true)
    (k__law_made_kind : PySem.W.keepIn K (.ref f__law_made_kind) = true)
    (a__law_library : PySem.W.nsIn K mainGlobals "_law_library" = some (some (.ref f__law_library)))
    (l__law_library : K.lookup f__law_library = some ⟨oc__law_library, od__law_library, .func (PySem.W.fnOf "_law_library" "_law_library" (defArgs s__law_library) (defBody s__law_library) (defScope s__law_library) .none kV__law_library dc__law_library pm__law_library an__law_library cd__law_library ct__law_library), sl__law_library⟩)
    (c__law_library : PySem.W.codeIn K cd__law_library "_law_library" = true)
    (k__law_library : PySem.W.keepIn K (.ref f__law_library) = true)
    (a__law_known_library : PySem.W.nsIn K mainGlobals "_law_known_library" = some (some (.ref f__law_known_library)))
    (l__law_known_library : K.lookup f__law_known_library = some ⟨oc__law_known_library, od__law_known_library, .func (PySem.W.fnOf "_law_known_library" "_law_known_library" (defArgs s__law_known_library) (defBody s__law_known_library) (defScope s__law_known_library) .none kV__law_known_library dc__law_known_library pm__law_known_library an__law_known_library cd__law_known_library ct__law_known_library), sl__law_known_library⟩)
    (c__law_known_library : PySem.W.codeIn K cd__law_known_library "_law_known_library" = true)
    (k__law_known_library : PySem.W.keepIn K (.ref f__law_known_library) = true)
    (a__law_lines : PySem.W.nsIn K mainGlobals "_law_lines" = some (some (.ref f__law_lines)))
    (l__law_lines : K.lookup f__law_lines = some ⟨oc__law_lines, od__law_lines, .func (PySem.W.fnOf "_law_lines" "_law_lines" (defArgs s__law_lines) (defBody s__law_lines) (defScope s__law_lines) .none kV__law_lines dc__law_lines pm__law_lines an__law_lines cd__law_lines ct__law_lines), sl__law_lines⟩)
    (c__law_lines : PySem.W.codeIn K cd__law_lines "_law_lines" = true)
    (k__law_lines : PySem.W.keepIn K (.ref f__law_lines) = true)
    (a__law_made : PySem.W.nsIn K mainGlobals "_law_made" = some (some (.ref f__law_made)))
    (l__law_made : K.lookup f__law_made = some ⟨oc__law_made, od__law_made, .func (PySem.W.fnOf "_law_made" "_law_made" (defArgs s__law_made) (defBody s__law_made) (defScope s__law_made) .none kV__law_made dc__law_made pm__law_made an__law_made cd__law_made ct__law_made), sl__law_made⟩)
    (c__law_made : PySem.W.codeIn K cd__law_made "_law_made" = true)
    (k__law_made : PySem.W.keepIn K (.ref f__law_made) = true)
    (a__law_library_atoms : PySem.W.nsIn K mainGlobals "_law_library_atoms" = some (some (.ref f__law_library_atoms)))
    (l__law_library_atoms : K.lookup f__law_library_atoms = some ⟨oc__law_library_atoms, od__law_library_atoms, .func (PySem.W.fnOf "_law_library_atoms" "_law_library_atoms" (defArgs s__law_library_atoms) (defBody s__law_library_atoms) (defScope s__law_library_atoms) .none kV__law_library_atoms dc__law_library_atoms pm__law_library_atoms an__law_library_atoms cd__law_library_atoms ct__law_library_atoms), sl__law_library_atoms⟩)
    (c__law_library_atoms : PySem.W.codeIn K cd__law_library_atoms "_law_library_atoms" = true)
    (k__law_library_atoms : PySem.W.keepIn K (.ref f__law_library_atoms) = true)
    (a__law_told_right : PySem.W.nsIn K mainGlobals "_law_told_right" = some (some (.ref f__law_told_right)))
    (l__law_told_right : K.lookup f__law_told_right = some ⟨oc__law_told_right, od__law_told_right, .func (PySem.W.fnOf "_law_told_right" "_law_told_right" (defArgs s__law_told_right) (defBody s__law_told_right) (defScope s__law_told_right) .none kV__law_told_right dc__law_told_right pm__law_told_right an__law_told_right cd__law_told_right ct__law_told_right), sl__law_told_right⟩)
    (c__law_told_right : PySem.W.codeIn K cd__law_told_right "_law_told_right" = true)
    (k__law_told_right : PySem.W.keepIn K (.ref f__law_told_right) = true)
    (a__law_right : PySem.W.nsIn K mainGlobals "_law_right" = some (some (.ref f__law_right)))
    (l__law_right : K.lookup f__law_right = some ⟨oc__law_right, od__law_right, .func (PySem.W.fnOf "_law_right" "_law_right" (defArgs s__law_right) (defBody s__law_right) (defScope s__law_right) .none kV__law_right dc__law_right pm__law_right an__law_right cd__law_right ct__law_right), sl__law_right⟩)
    (c__law_right : PySem.W.codeIn K cd__law_right "_law_right" = true)
    (k__law_right : PySem.W.keepIn K (.ref f__law_right) = true)
    (a_law : PySem.W.nsIn K mainGlobals "law" = some (some (.ref f_law)))
    (l_law : K.lookup f_law = some ⟨oc_law, od_law, .func (PySem.W.fnOf "law" "law" (defArgs s_law) (defBody s_law) (defScope s_law) .none kV_law dc_law pm_law an_law cd_law ct_law), sl_law⟩)
    (c_law : PySem.W.codeIn K cd_law "law" = true)
    (k_law : PySem.W.keepIn K (.ref f_law) = true)
    (xa_InvalidLibrary : PySem.W.nsIn K mainGlobals "InvalidLibrary" = some (some (.ref Cx_InvalidLibrary)))
    (xe_InvalidLibrary : PySem.W.excIn K Cx_InvalidLibrary veBm "ValueError.__new__" = true)
    (xk_InvalidLibrary : PySem.W.keepIn K (.ref Cx_InvalidLibrary) = true)
    (xs_InvalidLibrary : PySem.W.subIn K (.ref Cx_InvalidLibrary) (.type "BaseException") = some true)
    (xt_InvalidLibrary : PySem.W.typeIn K (.ref Cx_InvalidLibrary) = some (.type "type"))
    (xi_InvalidLibrary : PySem.W.isClsIn K Cx_InvalidLibrary = true)
    (xo_InvalidLibrary : PySem.W.subIn K (.ref Cx_InvalidLibrary) (.ref Cx_InvalidLibrary) = some true)
    (xa_InvalidType : PySem.W.nsIn K mainGlobals "InvalidType" = some (some (.ref Cx_InvalidType)))
    (xe_InvalidType : PySem.W.excIn K Cx_InvalidType veBm "ValueError.__new__" = true)
    (xk_InvalidType : PySem.W.keepIn K (.ref Cx_InvalidType) = true)
    (xs_InvalidType : PySem.W.subIn K (.ref Cx_InvalidType) (.type "BaseException") = some true)
    (xt_InvalidType : PySem.W.typeIn K (.ref Cx_InvalidType) = some (.type "type"))
    (xi_InvalidType : PySem.W.isClsIn K Cx_InvalidType = true)
    (xo_InvalidType : PySem.W.subIn K (.ref Cx_InvalidType) (.ref Cx_InvalidType) = some true)
    (xa_InvalidWord : PySem.W.nsIn K mainGlobals "InvalidWord" = some (some (.ref Cx_InvalidWord)))
    (xe_InvalidWord : PySem.W.excIn K Cx_InvalidWord veBm "ValueError.__new__" = true)
    (xk_InvalidWord : PySem.W.keepIn K (.ref Cx_InvalidWord) = true)
    (xs_InvalidWord : PySem.W.subIn K (.ref Cx_InvalidWord) (.type "BaseException") = some true)
    (xt_InvalidWord : PySem.W.typeIn K (.ref Cx_InvalidWord) = some (.type "type"))
    (xi_InvalidWord : PySem.W.isClsIn K Cx_InvalidWord = true)
    (xo_InvalidWord : PySem.W.subIn K (.ref Cx_InvalidWord) (.ref Cx_InvalidWord) = some true) : ∃ Z, All ⟨mg, K⟩ Z := by
  have kcF_Type : ClsF ⟨mg, K⟩ "Type" C_Type := ⟨PySem.W.mg_of X G aC_Type, ⟨pg_Type, hd_Type, po_Type, sa_Type⟩, ha_Type, hn_Type, ht_Type, hm_Type⟩
  have kcF_Library : ClsF ⟨mg, K⟩ "Library" C_Library := ⟨PySem.W.mg_of X G aC_Library, ⟨pg_Library, hd_Library, po_Library, sa_Library⟩, ha_Library, hn_Library, ht_Library, hm_Library⟩
  exact ⟨⟨C_Type, C_Library, Cx_InvalidLibrary, Cx_InvalidType, Cx_InvalidWord⟩, ⟨PySem.W.mg_none_of X G z_abs,
    PySem.W.mg_none_of X G z_all,
    PySem.W.mg_none_of X G z_bool,
    PySem.W.mg_none_of X G z_dict,
    PySem.W.mg_none_of X G z_int,
    PySem.W.mg_none_of X G z_isinstance,
    PySem.W.mg_none_of X G z_iter,
    PySem.W.mg_none_of X G z_len,
    PySem.W.mg_none_of X G z_list,
    PySem.W.mg_none_of X G z_max,
    PySem.W.mg_none_of X G z_min,
    PySem.W.mg_none_of X G z_range,
    PySem.W.mg_none_of X G z_set,
    PySem.W.mg_none_of X G z_sorted,
    PySem.W.mg_none_of X G z_str,
    PySem.W.mg_none_of X G z_tuple,
    ⟨_, PySem.W.mg_of X G y_ARROW⟩,
    ⟨_, PySem.W.mg_of X G y_LETTERS⟩,
    ⟨_, PySem.W.mg_of X G y_LONGEST⟩,
    ⟨_, PySem.W.mg_of X G y_MAX_LETTERS⟩,
    ⟨_, PySem.W.mg_of X G y_MAX_ORDER⟩,
    ⟨_, PySem.W.mg_of X G y_MAX_PARTS⟩,
    ⟨_, PySem.W.mg_of X G y_MAX_PLACES⟩,
    kcF_Type,
    fa_Type_own_args,
    fa_Type_own_atom,
    fa_Type_own_places,
    fa_Type_own_order,
    fa_Type_own_text,
    isi_mk kcF_Type ic_Type ty_Type ki0_Type ki1_Type ki2_Type ki3_Type ki4_Type ki5_Type ki6_Type,
    kcF_Library,
    fa_Library_own_parts,
    fa_Library_own_names,
    fa_Library_own_lines,
    fa_Library_own_scope,
    isi_mk kcF_Library ic_Library ty_Library ki0_Library ki1_Library ki2_Library ki3_Library ki4_Library ki5_Library ki6_Library,
    eqF_mk kcF_Library nf0_Library nf1_Library nf2_Library nf3_Library nf4_Library nf5_Library nf6_Library nf7_Library,
    nn_Library,
    fm_Type,
    (FP.isb_cons kcF_Type (by decide +kernel) sb_str_Type (FP.isb_cons kcF_Library (by decide +kernel) sb_str_Library FP.isb_nil)),
    ⟨_, _, PySem.W.mg_of X G a_is_integer, fun_mk (st := s_is_integer) l_is_integer c_is_integer k_is_integer⟩,
    ⟨_, _, PySem.W.mg_of X G a_is_within, fun_mk (st := s_is_within) l_is_within c_is_within k_is_within⟩,
    ⟨_, _, PySem.W.mg_of X G a_is_word, fun_mk (st := s_is_word) l_is_word c_is_word k_is_word⟩,
    ⟨_, _, PySem.W.mg_of X G a_ascending_rows, fun_mk (st := s_ascending_rows) l_ascending_rows c_ascending_rows k_ascending_rows⟩,
    ⟨_, _, PySem.W.mg_of X G a_order_of, fun_mk (st := s_order_of) l_order_of c_order_of k_order_of⟩,
    ⟨_, _, PySem.W.mg_of X G a_input_text, fun_mk (st := s_input_text) l_input_text c_input_text k_input_text⟩,
    ⟨_, _, ⟨mk_Type, a_Type___init__, i_Type___init__, kk_Type⟩, fun_mk (st := s_Type___init__) l_Type___init__ c_Type___init__ k_Type___init__⟩,
    ⟨_, _, _, _, ⟨rd_Type_plain, ga_Type_plain⟩, ⟨a_Type_plain, ⟨_, r_Type_plain⟩, fi_Type_plain⟩, fun_mk (st := s_Type_plain) l_Type_plain c_Type_plain k_Type_plain⟩,
    ⟨_, _, _, ⟨a_Type_text, g_Type_text, t_Type_text, _, r_Type_text⟩, fun_mk (st := s_Type_text) l_Type_text c_Type_text k_Type_text⟩,
    ⟨_, _, _, ⟨a_Type_atoms, g_Type_atoms, t_Type_atoms, _, r_Type_atoms⟩, fun_mk (st := s_Type_atoms) l_Type_atoms c_Type_atoms k_Type_atoms⟩,
    ⟨_, _, ⟨⟨a_Type___str__, i_Type___str__, k_Type___str__⟩, fi_Type___str__⟩, fun_mk (st := s_Type___str__) l_Type___str__ c_Type___str__ k_Type___str__⟩,
    ⟨_, _, PySem.W.mg_of X G a_signed_atoms, fun_mk (st := s_signed_atoms) l_signed_atoms c_signed_atoms k_signed_atoms⟩,
    ⟨_, _, PySem.W.mg_of X G a_is_parts, fun_mk (st := s_is_parts) l_is_parts c_is_parts k_is_parts⟩,
    ⟨_, _, ⟨mk_Library, a_Library___init__, i_Library___init__, kk_Library⟩, funDN_mk (st := s_Library___init__) l_Library___init__ c_Library___init__ k_Library___init__ dv_Library___init__⟩,
    ⟨_, _, _, ⟨a_Library_parts, g_Library_parts, t_Library_parts, _, r_Library_parts⟩, fun_mk (st := s_Library_parts) l_Library_parts c_Library_parts k_Library_parts⟩,
    ⟨_, _, _, ⟨a_Library_names, g_Library_names, t_Library_names, _, r_Library_names⟩, fun_mk (st := s_Library_names) l_Library_names c_Library_names k_Library_names⟩,
    ⟨_, _, _, ⟨a_Library_lines, g_Library_lines, t_Library_lines, _, r_Library_lines⟩, fun_mk (st := s_Library_lines) l_Library_lines c_Library_lines k_Library_lines⟩,
    ⟨_, _, _, ⟨a_Library_atoms, g_Library_atoms, t_Library_atoms, _, r_Library_atoms⟩, fun_mk (st := s_Library_atoms) l_Library_atoms c_Library_atoms k_Library_atoms⟩,
    ⟨_, _, _, ⟨a_Library_scope, g_Library_scope, t_Library_scope, _, r_Library_scope⟩, fun_mk (st := s_Library_scope) l_Library_scope c_Library_scope k_Library_scope⟩,
    ⟨_, _, _, ⟨a_Library_order, g_Library_order, t_Library_order, _, r_Library_order⟩, fun_mk (st := s_Library_order) l_Library_order c_Library_order k_Library_order⟩,
    ⟨_, _, ⟨a_Library_with_part, i_Library_with_part, k_Library_with_part⟩, fun_mk (st := s_Library_with_part) l_Library_with_part c_Library_with_part k_Library_with_part⟩,
    ⟨_, _, ⟨a_Library_heads, i_Library_heads, k_Library_heads⟩, fun_mk (st := s_Library_heads) l_Library_heads c_Library_heads k_Library_heads⟩,
    ⟨_, _, ⟨⟨a_Library___getitem__, i_Library___getitem__, k_Library___getitem__⟩, fi_Library___getitem__⟩, fun_mk (st := s_Library___getitem__) l_Library___getitem__ c_Library___getitem__ k_Library___getitem__⟩,
    ⟨_, _, ⟨⟨a_Library___contains__, i_Library___contains__, k_Library___contains__⟩, fi_Library___contains__⟩, fun_mk (st := s_Library___contains__) l_Library___contains__ c_Library___contains__ k_Library___contains__⟩,
    ⟨_, _, ⟨⟨a_Library___len__, i_Library___len__, k_Library___len__⟩, fi_Library___len__⟩, fun_mk (st := s_Library___len__) l_Library___len__ c_Library___len__ k_Library___len__⟩,
    ⟨_, _, a_Library___iter__, i_Library___iter__, fun_mk (st := s_Library___iter__) l_Library___iter__ c_Library___iter__ k_Library___iter__⟩,
    ⟨_, _, ⟨⟨a_Library___eq__, i_Library___eq__, k_Library___eq__⟩, fi_Library___eq__⟩, fun_mk (st := s_Library___eq__) l_Library___eq__ c_Library___eq__ k_Library___eq__⟩,
    ⟨_, _, ⟨⟨a_Library___str__, i_Library___str__, k_Library___str__⟩, fi_Library___str__⟩, fun_mk (st := s_Library___str__) l_Library___str__ c_Library___str__ k_Library___str__⟩,
    ⟨_, _, PySem.W.mg_of X G a_require_library, fun_mk (st := s_require_library) l_require_library c_require_library k_require_library⟩,
    ⟨_, _, PySem.W.mg_of X G a_atoms_in, fun_mk (st := s_atoms_in) l_atoms_in c_atoms_in k_atoms_in⟩,
    ⟨_, _, PySem.W.mg_of X G a_fresh_list, fun_mk (st := s_fresh_list) l_fresh_list c_fresh_list k_fresh_list⟩,
    ⟨_, _, PySem.W.mg_of X G a_fresh_names, fun_mk (st := s_fresh_names) l_fresh_names c_fresh_names k_fresh_names⟩,
    ⟨_, _, PySem.W.mg_of X G a__law_dice, fun_mk (st := s__law_dice) l__law_dice c__law_dice k__law_dice⟩,
    ⟨_, _, PySem.W.mg_of X G a__law_roll, fun_mk (st := s__law_roll) l__law_roll c__law_roll k__law_roll⟩,
    ⟨_, _, PySem.W.mg_of X G a__law_pick, fun_mk (st := s__law_pick) l__law_pick c__law_pick k__law_pick⟩,
    ⟨_, _, PySem.W.mg_of X G a__law_some, fun_mk (st := s__law_some) l__law_some c__law_some k__law_some⟩,
    ⟨_, _, PySem.W.mg_of X G a__law_text, fun_mk (st := s__law_text) l__law_text c__law_text k__law_text⟩,
    ⟨_, _, PySem.W.mg_of X G a__law_atoms_of, fun_mk (st := s__law_atoms_of) l__law_atoms_of c__law_atoms_of k__law_atoms_of⟩,
    ⟨_, _, PySem.W.mg_of X G a__law_order, fun_mk (st := s__law_order) l__law_order c__law_order k__law_order⟩,
    ⟨_, _, PySem.W.mg_of X G a__law_kind, fun_mk (st := s__law_kind) l__law_kind c__law_kind k__law_kind⟩,
    ⟨_, _, PySem.W.mg_of X G a__law_made_kind, fun_mk (st := s__law_made_kind) l__law_made_kind c__law_made_kind k__law_made_kind⟩,
    ⟨_, _, PySem.W.mg_of X G a__law_library, fun_mk (st := s__law_library) l__law_library c__law_library k__law_library⟩,
    ⟨_, _, PySem.W.mg_of X G a__law_known_library, fun_mk (st := s__law_known_library) l__law_known_library c__law_known_library k__law_known_library⟩,
    ⟨_, _, PySem.W.mg_of X G a__law_lines, fun_mk (st := s__law_lines) l__law_lines c__law_lines k__law_lines⟩,
    ⟨_, _, PySem.W.mg_of X G a__law_made, fun_mk (st := s__law_made) l__law_made c__law_made k__law_made⟩,
    ⟨_, _, PySem.W.mg_of X G a__law_library_atoms, fun_mk (st := s__law_library_atoms) l__law_library_atoms c__law_library_atoms k__law_library_atoms⟩,
    ⟨_, _, PySem.W.mg_of X G a__law_told_right, fun_mk (st := s__law_told_right) l__law_told_right c__law_told_right k__law_told_right⟩,
    ⟨_, _, PySem.W.mg_of X G a__law_right, fun_mk (st := s__law_right) l__law_right c__law_right k__law_right⟩,
    ⟨_, _, PySem.W.mg_of X G a_law, fun_mk (st := s_law) l_law c_law k_law⟩,
    ⟨PySem.W.mg_of X G xa_InvalidLibrary, xe_InvalidLibrary, xk_InvalidLibrary, xs_InvalidLibrary, xt_InvalidLibrary⟩,
    cat_of (PySem.W.mg_of X G xa_InvalidLibrary) xi_InvalidLibrary xt_InvalidLibrary xs_InvalidLibrary xo_InvalidLibrary,
    ⟨PySem.W.mg_of X G xa_InvalidType, xe_InvalidType, xk_InvalidType, xs_InvalidType, xt_InvalidType⟩,
    cat_of (PySem.W.mg_of X G xa_InvalidType) xi_InvalidType xt_InvalidType xs_InvalidType xo_InvalidType,
    ⟨PySem.W.mg_of X G xa_InvalidWord, xe_InvalidWord, xk_InvalidWord, xs_InvalidWord, xt_InvalidWord⟩,
    cat_of (PySem.W.mg_of X G xa_InvalidWord) xi_InvalidWord xt_InvalidWord xs_InvalidWord xo_InvalidWord⟩⟩
open KP
theorem ok_all {P : Program} {w : World} {mg : Gm} {base : Heap} (A : ∃ Z, All mg Z) : DefOk P w mg base 20 "law" 1 f_law := by
  obtain ⟨Z, A⟩ := A
  have g_Type___str__ := ok_Type___str__ (P := P) (w := w) (base := base) A 
  have g_ascending_rows := ok_ascending_rows (P := P) (w := w) (base := base) A 
  have g_is_word := ok_is_word (P := P) (w := w) (base := base) A 
  have g_is_parts := ok_is_parts (P := P) (w := w) (base := base) A g_is_word
  have g_Library___init__ := ok_Library___init__ (P := P) (w := w) (base := base) A g_Type___str__ g_ascending_rows g_is_parts
  have g_signed_atoms := rs_signed_atoms (P := P) (w := w) (base := base) A  5
  have g_Type_atoms := ok_Type_atoms (P := P) (w := w) (base := base) A g_signed_atoms
  have g_atoms_in := ok_atoms_in (P := P) (w := w) (base := base) A g_Type_atoms
  have g_Library___str__ := ok_Library___str__ (P := P) (w := w) (base := base) A g_atoms_in
  have g_Library_atoms := ok_Library_atoms (P := P) (w := w) (base := base) A g_atoms_in
  have g_Library_lines := ok_Library_lines (P := P) (w := w) (base := base) A 
  have g_Library_names := ok_Library_names (P := P) (w := w) (base := base) A 
  have g_Library_order := ok_Library_order (P := P) (w := w) (base := base) A 
  have g_Library_parts := ok_Library_parts (P := P) (w := w) (base := base) A 
  have g_Library_scope := ok_Library_scope (P := P) (w := w) (base := base) A 
  have g__law_dice := ok__law_dice (P := P) (w := w) (base := base) A 
  have g_Library___contains__ := ok_Library___contains__ (P := P) (w := w) (base := base) A 
  have g_Library___eq__ := ok_Library___eq__ (P := P) (w := w) (base := base) A 
  have g_ascending_rowsB := ok_ascending_rowsB (P := P) (w := w) (base := base) A 
  have g_Library___initB := ok_Library___initB (P := P) (w := w) (base := base) A g_Type___str__ g_ascending_rowsB g_is_parts
  have g_Library_partsN := ok_Library_partsN (P := P) (w := w) (base := base) A 
  have g_Library_with_part := ok_Library_with_part (P := P) (w := w) (base := base) A g_Library___init__ g_is_word
  have g_input_text := ok_input_text (P := P) (w := w) (base := base) A 
  have g_order_of := ok_order_of (P := P) (w := w) (base := base) A 
  have g_Type___init__ := ok_Type___init__ (P := P) (w := w) (base := base) A g_input_text g_is_word g_order_of
  have gK_Type___init__ := initK g_Type___init__
  have g_Type_plain := ok_Type_plain (P := P) (w := w) (base := base) A gK_Type___init__
  have g__law_atoms_of := rs__law_atoms_of (P := P) (w := w) (base := base) A  5
  have g__law_roll := ok__law_roll (P := P) (w := w) (base := base) A 
  have g__law_pick := ok__law_pick (P := P) (w := w) (base := base) A g__law_roll
  have g__law_kind := rs__law_kind (P := P) (w := w) (base := base) A g__law_atoms_of g__law_pick g__law_roll 5
  have g__law_known_library := ok__law_known_library (P := P) (w := w) (base := base) A g__law_pick
  have g__law_some := ok__law_some (P := P) (w := w) (base := base) A g__law_roll
  have g__law_library := ok__law_library (P := P) (w := w) (base := base) A g__law_kind g__law_known_library g__law_pick g__law_roll g__law_some
  have g__law_text := rs__law_text (P := P) (w := w) (base := base) A  5
  have g__law_lines := ok__law_lines (P := P) (w := w) (base := base) A g__law_text
  have g__law_made_kind := rs__law_made_kind (P := P) (w := w) (base := base) A gK_Type___init__ 5
  have g__law_made := ok__law_made (P := P) (w := w) (base := base) A g_Library___init__ g__law_made_kind
  have g_Library___getitem__ := ok_Library___getitem__ (P := P) (w := w) (base := base) A g_Library___contains__
  have g_Library___iter__ := ok_Library___iter__ (P := P) (w := w) (base := base) A 
  have g_Library___len__ := ok_Library___len__ (P := P) (w := w) (base := base) A 
  have g_Library_heads := ok_Library_heads (P := P) (w := w) (base := base) A g_is_word
  have g_Type_text := ok_Type_text (P := P) (w := w) (base := base) A 
  have g__law_library_atoms := ok__law_library_atoms (P := P) (w := w) (base := base) A g__law_atoms_of
  have g__law_order := rs__law_order (P := P) (w := w) (base := base) A  5
  have g__law_told_right := ok__law_told_right (P := P) (w := w) (base := base) A g_Library___contains__ g_Library___getitem__ g_Library___iter__ g_Library___len__ g_Library___str__ g_Library_atoms g_Library_heads g_Library_lines g_Library_names g_Library_order g_Library_parts g_Library_scope g_Type_plain g_Type_text g__law_library_atoms g__law_lines g__law_order g__law_text
  have g_fresh_list := ok_fresh_list (P := P) (w := w) (base := base) A 
  have g_is_integer := ok_is_integer (P := P) (w := w) (base := base) A 
  have g_is_within := ok_is_within (P := P) (w := w) (base := base) A g_is_integer
  have g_require_library := ok_require_library (P := P) (w := w) (base := base) A 
  have g_fresh_names := ok_fresh_names (P := P) (w := w) (base := base) A g_fresh_list g_is_within g_require_library
  have g__law_right := ok__law_right (P := P) (w := w) (base := base) A g_Library___contains__ g_Library___eq__ g_Library___initB g_Library_lines g_Library_parts g_Library_partsN g_Library_with_part g_Type_plain g__law_library g__law_lines g__law_made g__law_made_kind g__law_pick g__law_roll g__law_some g__law_told_right g_fresh_names
  have g_law := ok_law (P := P) (w := w) (base := base) A g_Library___init__ g_Library___str__ g_Library_atoms g_Library_lines g_Library_names g_Library_order g_Library_parts g_Library_scope g__law_dice g__law_right
  exact g_law
theorem all_H {K : PySem.W.Frag} {h : Heap} {mg : Str → Option Value} (X : K.In h) (G : h.Ns mainGlobals mg) (c : hdKB K = true) (v : hdKV K = hdKW) : ∃ Z, All ⟨mg, K⟩ Z := by
  have c0 := c
  have v0_ := v
  obtain ⟨g0, c0⟩ := He.ba c0
  obtain ⟨g1, c0⟩ := He.ba c0
  obtain ⟨g2, c0⟩ := He.ba c0
  obtain ⟨g3, c0⟩ := He.ba c0
  obtain ⟨g4, c0⟩ := He.ba c0
  obtain ⟨g5, c0⟩ := He.ba c0
  obtain ⟨g6, c0⟩ := He.ba c0
  obtain ⟨g7, c0⟩ := He.ba c0
  obtain ⟨g8, c0⟩ := He.ba c0
  obtain ⟨g9, c0⟩ := He.ba c0
  obtain ⟨g10, c0⟩ := He.ba c0
  obtain ⟨g11, c0⟩ := He.ba c0
  obtain ⟨g12, c0⟩ := He.ba c0
  obtain ⟨g13, c0⟩ := He.ba c0
  have g14 := c0
  obtain ⟨v0, v0_⟩ := List.append_inj (show hdkv0 K ++ _ = hdkw0 ++ _ from v0_) rfl
  have v1 := v0_
  obtain ⟨y_z_abs, g0⟩ := He.ba g0
  have h_z_abs := of_decide_eq_true y_z_abs
  obtain ⟨y_z_all, g0⟩ := He.ba g0
  have h_z_all := of_decide_eq_true y_z_all
  obtain ⟨y_z_bool, g0⟩ := He.ba g0
  have h_z_bool := of_decide_eq_true y_z_bool
  obtain ⟨y_z_dict, g0⟩ := He.ba g0
  have h_z_dict := of_decide_eq_true y_z_dict
  obtain ⟨y_z_int, g0⟩ := He.ba g0
  have h_z_int := of_decide_eq_true y_z_int
  obtain ⟨y_z_isinstance, g0⟩ := He.ba g0
  have h_z_isinstance := of_decide_eq_true y_z_isinstance
  obtain ⟨y_z_iter, g0⟩ := He.ba g0
  have h_z_iter := of_decide_eq_true y_z_iter
  obtain ⟨y_z_len, g0⟩ := He.ba g0
  have h_z_len := of_decide_eq_true y_z_len
  obtain ⟨y_z_list, g0⟩ := He.ba g0
  have h_z_list := of_decide_eq_true y_z_list
  obtain ⟨y_z_max, g0⟩ := He.ba g0
  have h_z_max := of_decide_eq_true y_z_max
  obtain ⟨y_z_min, g0⟩ := He.ba g0
  have h_z_min := of_decide_eq_true y_z_min
  obtain ⟨y_z_range, g0⟩ := He.ba g0
  have h_z_range := of_decide_eq_true y_z_range
  obtain ⟨y_z_set, g0⟩ := He.ba g0
  have h_z_set := of_decide_eq_true y_z_set
  obtain ⟨y_z_sorted, g0⟩ := He.ba g0
  have h_z_sorted := of_decide_eq_true y_z_sorted
  obtain ⟨y_z_str, g0⟩ := He.ba g0
  have h_z_str := of_decide_eq_true y_z_str
  obtain ⟨y_z_tuple, g0⟩ := He.ba g0
  have h_z_tuple := of_decide_eq_true y_z_tuple
  obtain ⟨y_y_ARROW, g0⟩ := He.ba g0
  have h_y_ARROW := of_decide_eq_true y_y_ARROW
  obtain ⟨y_y_LETTERS, g0⟩ := He.ba g0
  have h_y_LETTERS := of_decide_eq_true y_y_LETTERS
  obtain ⟨y_y_LONGEST, g0⟩ := He.ba g0
  have h_y_LONGEST := of_decide_eq_true y_y_LONGEST
  have h_y_MAX_LETTERS := of_decide_eq_true g0
  obtain ⟨y_y_MAX_ORDER, g1⟩ := He.ba g1
  have h_y_MAX_ORDER := of_decide_eq_true y_y_MAX_ORDER
  obtain ⟨y_y_MAX_PARTS, g1⟩ := He.ba g1
  have h_y_MAX_PARTS := of_decide_eq_true y_y_MAX_PARTS
  obtain ⟨y_y_MAX_PLACES, g1⟩ := He.ba g1
  have h_y_MAX_PLACES := of_decide_eq_true y_y_MAX_PLACES
  obtain ⟨y_aC_Type, g1⟩ := He.ba g1
  have h_aC_Type := of_decide_eq_true y_aC_Type
  obtain ⟨y_pg_Type, g1⟩ := He.ba g1
  have h_pg_Type := of_decide_eq_true y_pg_Type
  obtain ⟨y_hd_Type, g1⟩ := He.ba g1
  have h_hd_Type := of_decide_eq_true y_hd_Type
  obtain ⟨y_po_Type, g1⟩ := He.ba g1
  have h_po_Type := of_decide_eq_true y_po_Type
  obtain ⟨y_sa_Type, g1⟩ := He.ba g1
  have h_sa_Type := of_decide_eq_true y_sa_Type
  obtain ⟨y_ha_Type, g1⟩ := He.ba g1
  have h_ha_Type := of_decide_eq_true y_ha_Type
  obtain ⟨y_hn_Type, g1⟩ := He.ba g1
  have h_hn_Type := of_decide_eq_true y_hn_Type
  obtain ⟨y_ht_Type, g1⟩ := He.ba g1
  have h_ht_Type := of_decide_eq_true y_ht_Type
  obtain ⟨y_hm_Type, g1⟩ := He.ba g1
  have h_hm_Type := of_decide_eq_true y_hm_Type
  obtain ⟨y_fa_Type_own_args, g1⟩ := He.ba g1
  have h_fa_Type_own_args := of_decide_eq_true y_fa_Type_own_args
  obtain ⟨y_fa_Type_own_atom, g1⟩ := He.ba g1
  have h_fa_Type_own_atom := of_decide_eq_true y_fa_Type_own_atom
  obtain ⟨y_fa_Type_own_places, g1⟩ := He.ba g1
  have h_fa_Type_own_places := of_decide_eq_true y_fa_Type_own_places
  obtain ⟨y_fa_Type_own_order, g1⟩ := He.ba g1
  have h_fa_Type_own_order := of_decide_eq_true y_fa_Type_own_order
  obtain ⟨y_fa_Type_own_text, g1⟩ := He.ba g1
  have h_fa_Type_own_text := of_decide_eq_true y_fa_Type_own_text
  obtain ⟨y_ic_Type, g1⟩ := He.ba g1
  have h_ic_Type := of_decide_eq_true y_ic_Type
  obtain ⟨y_ty_Type, g1⟩ := He.ba g1
  have h_ty_Type := of_decide_eq_true y_ty_Type
  have h_ki0_Type := of_decide_eq_true g1
  obtain ⟨y_ki1_Type, g2⟩ := He.ba g2
  have h_ki1_Type := of_decide_eq_true y_ki1_Type
  obtain ⟨y_ki2_Type, g2⟩ := He.ba g2
  have h_ki2_Type := of_decide_eq_true y_ki2_Type
  obtain ⟨y_ki3_Type, g2⟩ := He.ba g2
  have h_ki3_Type := of_decide_eq_true y_ki3_Type
  obtain ⟨y_ki4_Type, g2⟩ := He.ba g2
  have h_ki4_Type := of_decide_eq_true y_ki4_Type
  obtain ⟨y_ki5_Type, g2⟩ := He.ba g2
  have h_ki5_Type := of_decide_eq_true y_ki5_Type
  obtain ⟨y_ki6_Type, g2⟩ := He.ba g2
  have h_ki6_Type := of_decide_eq_true y_ki6_Type
  obtain ⟨y_aC_Library, g2⟩ := He.ba g2
  have h_aC_Library := of_decide_eq_true y_aC_Library
  obtain ⟨y_pg_Library, g2⟩ := He.ba g2
  have h_pg_Library := of_decide_eq_true y_pg_Library
  obtain ⟨y_hd_Library, g2⟩ := He.ba g2
  have h_hd_Library := of_decide_eq_true y_hd_Library
  obtain ⟨y_po_Library, g2⟩ := He.ba g2
  have h_po_Library := of_decide_eq_true y_po_Library
  obtain ⟨y_sa_Library, g2⟩ := He.ba g2
  have h_sa_Library := of_decide_eq_true y_sa_Library
  obtain ⟨y_ha_Library, g2⟩ := He.ba g2
  have h_ha_Library := of_decide_eq_true y_ha_Library
  obtain ⟨y_hn_Library, g2⟩ := He.ba g2
  have h_hn_Library := of_decide_eq_true y_hn_Library
  obtain ⟨y_ht_Library, g2⟩ := He.ba g2
  have h_ht_Library := of_decide_eq_true y_ht_Library
  obtain ⟨y_hm_Library, g2⟩ := He.ba g2
  have h_hm_Library := of_decide_eq_true y_hm_Library
  obtain ⟨y_fa_Library_own_parts, g2⟩ := He.ba g2
  have h_fa_Library_own_parts := of_decide_eq_true y_fa_Library_own_parts
  obtain ⟨y_fa_Library_own_names, g2⟩ := He.ba g2
  have h_fa_Library_own_names := of_decide_eq_true y_fa_Library_own_names
  obtain ⟨y_fa_Library_own_lines, g2⟩ := He.ba g2
  have h_fa_Library_own_lines := of_decide_eq_true y_fa_Library_own_lines
  obtain ⟨y_fa_Library_own_scope, g2⟩ := He.ba g2
  have h_fa_Library_own_scope := of_decide_eq_true y_fa_Library_own_scope
  have h_ic_Library := of_decide_eq_true g2
  obtain ⟨y_ty_Library, g3⟩ := He.ba g3
  have h_ty_Library := of_decide_eq_true y_ty_Library
  obtain ⟨y_ki0_Library, g3⟩ := He.ba g3
  have h_ki0_Library := of_decide_eq_true y_ki0_Library
  obtain ⟨y_ki1_Library, g3⟩ := He.ba g3
  have h_ki1_Library := of_decide_eq_true y_ki1_Library
  obtain ⟨y_ki2_Library, g3⟩ := He.ba g3
  have h_ki2_Library := of_decide_eq_true y_ki2_Library
  obtain ⟨y_ki3_Library, g3⟩ := He.ba g3
  have h_ki3_Library := of_decide_eq_true y_ki3_Library
  obtain ⟨y_ki4_Library, g3⟩ := He.ba g3
  have h_ki4_Library := of_decide_eq_true y_ki4_Library
  obtain ⟨y_ki5_Library, g3⟩ := He.ba g3
  have h_ki5_Library := of_decide_eq_true y_ki5_Library
  obtain ⟨y_ki6_Library, g3⟩ := He.ba g3
  have h_ki6_Library := of_decide_eq_true y_ki6_Library
  obtain ⟨y_nf0_Library, g3⟩ := He.ba g3
  have h_nf0_Library := of_decide_eq_true y_nf0_Library
  obtain ⟨y_nf1_Library, g3⟩ := He.ba g3
  have h_nf1_Library := of_decide_eq_true y_nf1_Library
  obtain ⟨y_nf2_Library, g3⟩ := He.ba g3
  have h_nf2_Library := of_decide_eq_true y_nf2_Library
  obtain ⟨y_nf3_Library, g3⟩ := He.ba g3
  have h_nf3_Library := of_decide_eq_true y_nf3_Library
  obtain ⟨y_nf4_Library, g3⟩ := He.ba g3
  have h_nf4_Library := of_decide_eq_true y_nf4_Library
  obtain ⟨y_nf5_Library, g3⟩ := He.ba g3
  have h_nf5_Library := of_decide_eq_true y_nf5_Library
  obtain ⟨y_nf6_Library, g3⟩ := He.ba g3
  have h_nf6_Library := of_decide_eq_true y_nf6_Library
  obtain ⟨y_nf7_Library, g3⟩ := He.ba g3
  have h_nf7_Library := of_decide_eq_true y_nf7_Library
  obtain ⟨y_nn_Library, g3⟩ := He.ba g3
  have h_nn_Library := of_decide_eq_true y_nn_Library
  obtain ⟨y_fm_Type, g3⟩ := He.ba g3
  have h_fm_Type := of_decide_eq_true y_fm_Type
  obtain ⟨y_sb_str_Library, g3⟩ := He.ba g3
  have h_sb_str_Library := of_decide_eq_true y_sb_str_Library
  have h_sb_str_Type := of_decide_eq_true g3
  obtain ⟨y_a_is_integer, g4⟩ := He.ba g4
  have h_a_is_integer := of_decide_eq_true y_a_is_integer
  obtain ⟨y_is_integer, g4⟩ := He.ba g4
  have e_is_integer : fnV K Af_is_integer = fnX "is_integer" "is_integer" s_is_integer := Option.some.inj (congrArg (fun l : List He.FnV => l[0]?) v0)
  obtain ⟨_, _, _, _, _, _, _, _, _, h_l_is_integer, h_c_is_integer⟩ := fn_of e_is_integer y_is_integer
  obtain ⟨y_k_is_integer, g4⟩ := He.ba g4
  have h_k_is_integer := of_decide_eq_true y_k_is_integer
  obtain ⟨y_a_is_within, g4⟩ := He.ba g4
  have h_a_is_within := of_decide_eq_true y_a_is_within
  obtain ⟨y_is_within, g4⟩ := He.ba g4
  have e_is_within : fnV K Af_is_within = fnX "is_within" "is_within" s_is_within := Option.some.inj (congrArg (fun l : List He.FnV => l[1]?) v0)
  obtain ⟨_, _, _, _, _, _, _, _, _, h_l_is_within, h_c_is_within⟩ := fn_of e_is_within y_is_within
  obtain ⟨y_k_is_within, g4⟩ := He.ba g4
  have h_k_is_within := of_decide_eq_true y_k_is_within
  obtain ⟨y_a_is_word, g4⟩ := He.ba g4
  have h_a_is_word := of_decide_eq_true y_a_is_word
  obtain ⟨y_is_word, g4⟩ := He.ba g4
  have e_is_word : fnV K Af_is_word = fnX "is_word" "is_word" s_is_word := Option.some.inj (congrArg (fun l : List He.FnV => l[2]?) v0)
  obtain ⟨_, _, _, _, _, _, _, _, _, h_l_is_word, h_c_is_word⟩ := fn_of e_is_word y_is_word
  obtain ⟨y_k_is_word, g4⟩ := He.ba g4
  have h_k_is_word := of_decide_eq_true y_k_is_word
  obtain ⟨y_a_ascending_rows, g4⟩ := He.ba g4
  have h_a_ascending_rows := of_decide_eq_true y_a_ascending_rows
  obtain ⟨y_ascending_rows, g4⟩ := He.ba g4
  have e_ascending_rows : fnV K Af_ascending_rows = fnX "ascending_rows" "ascending_rows" s_ascending_rows := Option.some.inj (congrArg (fun l : List He.FnV => l[3]?) v0)
  obtain ⟨_, _, _, _, _, _, _, _, _, h_l_ascending_rows, h_c_ascending_rows⟩ := fn_of e_ascending_rows y_ascending_rows
  obtain ⟨y_k_ascending_rows, g4⟩ := He.ba g4
  have h_k_ascending_rows := of_decide_eq_true y_k_ascending_rows
  obtain ⟨y_a_order_of, g4⟩ := He.ba g4
  have h_a_order_of := of_decide_eq_true y_a_order_of
  obtain ⟨y_order_of, g4⟩ := He.ba g4
  have e_order_of : fnV K Af_order_of = fnX "order_of" "order_of" s_order_of := Option.some.inj (congrArg (fun l : List He.FnV => l[4]?) v0)
  obtain ⟨_, _, _, _, _, _, _, _, _, h_l_order_of, h_c_order_of⟩ := fn_of e_order_of y_order_of
  obtain ⟨y_k_order_of, g4⟩ := He.ba g4
  have h_k_order_of := of_decide_eq_true y_k_order_of
  obtain ⟨y_a_input_text, g4⟩ := He.ba g4
  have h_a_input_text := of_decide_eq_true y_a_input_text
  obtain ⟨y_input_text, g4⟩ := He.ba g4
  have e_input_text : fnV K Af_input_text = fnX "input_text" "input_text" s_input_text := Option.some.inj (congrArg (fun l : List He.FnV => l[5]?) v0)
  obtain ⟨_, _, _, _, _, _, _, _, _, h_l_input_text, h_c_input_text⟩ := fn_of e_input_text y_input_text
  obtain ⟨y_k_input_text, g4⟩ := He.ba g4
  have h_k_input_text := of_decide_eq_true y_k_input_text
  obtain ⟨y_a_Type___init__, g4⟩ := He.ba g4
  have h_a_Type___init__ := of_decide_eq_true y_a_Type___init__
  have h_i_Type___init__ := of_decide_eq_true g4
  obtain ⟨y_Type___init__, g5⟩ := He.ba g5
  have e_Type___init__ : fnV K Af_Type___init__ = fnX "__init__" "Type.__init__" s_Type___init__ := Option.some.inj (congrArg (fun l : List He.FnV => l[6]?) v0)
  obtain ⟨_, _, _, _, _, _, _, _, _, h_l_Type___init__, h_c_Type___init__⟩ := fn_of e_Type___init__ y_Type___init__
  obtain ⟨y_k_Type___init__, g5⟩ := He.ba g5
  have h_k_Type___init__ := of_decide_eq_true y_k_Type___init__
  obtain ⟨y_mk_Type, g5⟩ := He.ba g5
  have h_mk_Type := of_decide_eq_true y_mk_Type
  obtain ⟨y_kk_Type, g5⟩ := He.ba g5
  have h_kk_Type := of_decide_eq_true y_kk_Type
  obtain ⟨y_rd_Type_plain, g5⟩ := He.ba g5
  have h_rd_Type_plain := of_decide_eq_true y_rd_Type_plain
  obtain ⟨y_ga_Type_plain, g5⟩ := He.ba g5
  have h_ga_Type_plain := of_decide_eq_true y_ga_Type_plain
  obtain ⟨y_a_Type_plain, g5⟩ := He.ba g5
  obtain ⟨yc_a_Type_plain, yd_a_Type_plain⟩ := He.ba y_a_Type_plain
  have h_a_Type_plain := cm_ok yc_a_Type_plain
  rw [of_decide_eq_true yd_a_Type_plain] at h_a_Type_plain
  obtain ⟨y_r_Type_plain, g5⟩ := He.ba g5
  have h_r_Type_plain := of_decide_eq_true y_r_Type_plain
  obtain ⟨y_fi_Type_plain, g5⟩ := He.ba g5
  have h_fi_Type_plain := of_decide_eq_true y_fi_Type_plain
  obtain ⟨y_Type_plain, g5⟩ := He.ba g5
  have e_Type_plain : fnV K Af_Type_plain = fnX "plain" "Type.plain" s_Type_plain := Option.some.inj (congrArg (fun l : List He.FnV => l[7]?) v0)
  obtain ⟨_, _, _, _, _, _, _, _, _, h_l_Type_plain, h_c_Type_plain⟩ := fn_of e_Type_plain y_Type_plain
  obtain ⟨y_k_Type_plain, g5⟩ := He.ba g5
  have h_k_Type_plain := of_decide_eq_true y_k_Type_plain
  obtain ⟨y_a_Type_text, g5⟩ := He.ba g5
  have h_a_Type_text := of_decide_eq_true y_a_Type_text
  obtain ⟨y_g_Type_text, g5⟩ := He.ba g5
  have h_g_Type_text := of_decide_eq_true y_g_Type_text
  obtain ⟨y_t_Type_text, g5⟩ := He.ba g5
  have h_t_Type_text := of_decide_eq_true y_t_Type_text
  obtain ⟨y_r_Type_text, g5⟩ := He.ba g5
  have h_r_Type_text := of_decide_eq_true y_r_Type_text
  obtain ⟨y_Type_text, g5⟩ := He.ba g5
  have e_Type_text : fnV K Af_Type_text = fnX "text" "Type.text" s_Type_text := Option.some.inj (congrArg (fun l : List He.FnV => l[8]?) v0)
  obtain ⟨_, _, _, _, _, _, _, _, _, h_l_Type_text, h_c_Type_text⟩ := fn_of e_Type_text y_Type_text
  obtain ⟨y_k_Type_text, g5⟩ := He.ba g5
  have h_k_Type_text := of_decide_eq_true y_k_Type_text
  obtain ⟨y_a_Type_atoms, g5⟩ := He.ba g5
  have h_a_Type_atoms := of_decide_eq_true y_a_Type_atoms
  obtain ⟨y_g_Type_atoms, g5⟩ := He.ba g5
  have h_g_Type_atoms := of_decide_eq_true y_g_Type_atoms
  have h_t_Type_atoms := of_decide_eq_true g5
  obtain ⟨y_r_Type_atoms, g6⟩ := He.ba g6
  have h_r_Type_atoms := of_decide_eq_true y_r_Type_atoms
  obtain ⟨y_Type_atoms, g6⟩ := He.ba g6
  have e_Type_atoms : fnV K Af_Type_atoms = fnX "atoms" "Type.atoms" s_Type_atoms := Option.some.inj (congrArg (fun l : List He.FnV => l[9]?) v0)
  obtain ⟨_, _, _, _, _, _, _, _, _, h_l_Type_atoms, h_c_Type_atoms⟩ := fn_of e_Type_atoms y_Type_atoms
  obtain ⟨y_k_Type_atoms, g6⟩ := He.ba g6
  have h_k_Type_atoms := of_decide_eq_true y_k_Type_atoms
  obtain ⟨y_a_Type___str__, g6⟩ := He.ba g6
  have h_a_Type___str__ := of_decide_eq_true y_a_Type___str__
  obtain ⟨y_i_Type___str__, g6⟩ := He.ba g6
  have h_i_Type___str__ := of_decide_eq_true y_i_Type___str__
  obtain ⟨y_fi_Type___str__, g6⟩ := He.ba g6
  have h_fi_Type___str__ := of_decide_eq_true y_fi_Type___str__
  obtain ⟨y_Type___str__, g6⟩ := He.ba g6
  have e_Type___str__ : fnV K Af_Type___str__ = fnX "__str__" "Type.__str__" s_Type___str__ := Option.some.inj (congrArg (fun l : List He.FnV => l[10]?) v0)
  obtain ⟨_, _, _, _, _, _, _, _, _, h_l_Type___str__, h_c_Type___str__⟩ := fn_of e_Type___str__ y_Type___str__
  obtain ⟨y_k_Type___str__, g6⟩ := He.ba g6
  have h_k_Type___str__ := of_decide_eq_true y_k_Type___str__
  obtain ⟨y_a_signed_atoms, g6⟩ := He.ba g6
  have h_a_signed_atoms := of_decide_eq_true y_a_signed_atoms
  obtain ⟨y_signed_atoms, g6⟩ := He.ba g6
  have e_signed_atoms : fnV K Af_signed_atoms = fnX "signed_atoms" "signed_atoms" s_signed_atoms := Option.some.inj (congrArg (fun l : List He.FnV => l[11]?) v0)
  obtain ⟨_, _, _, _, _, _, _, _, _, h_l_signed_atoms, h_c_signed_atoms⟩ := fn_of e_signed_atoms y_signed_atoms
  obtain ⟨y_k_signed_atoms, g6⟩ := He.ba g6
  have h_k_signed_atoms := of_decide_eq_true y_k_signed_atoms
  obtain ⟨y_a_is_parts, g6⟩ := He.ba g6
  have h_a_is_parts := of_decide_eq_true y_a_is_parts
  obtain ⟨y_is_parts, g6⟩ := He.ba g6
  have e_is_parts : fnV K Af_is_parts = fnX "is_parts" "is_parts" s_is_parts := Option.some.inj (congrArg (fun l : List He.FnV => l[12]?) v0)
  obtain ⟨_, _, _, _, _, _, _, _, _, h_l_is_parts, h_c_is_parts⟩ := fn_of e_is_parts y_is_parts
  obtain ⟨y_k_is_parts, g6⟩ := He.ba g6
  have h_k_is_parts := of_decide_eq_true y_k_is_parts
  obtain ⟨y_a_Library___init__, g6⟩ := He.ba g6
  have h_a_Library___init__ := of_decide_eq_true y_a_Library___init__
  obtain ⟨y_i_Library___init__, g6⟩ := He.ba g6
  have h_i_Library___init__ := of_decide_eq_true y_i_Library___init__
  obtain ⟨y_Library___init__, g6⟩ := He.ba g6
  have e_Library___init__ : fnV K Af_Library___init__ = fnX "__init__" "Library.__init__" s_Library___init__ := Option.some.inj (congrArg (fun l : List He.FnV => l[13]?) v0)
  obtain ⟨_, _, _, _, _, _, _, _, _, _, _, _, _, _, h_l_Library___init__, h_c_Library___init__, h_dv_Library___init__⟩ := fn_ofD e_Library___init__ y_Library___init__
  obtain ⟨y_k_Library___init__, g6⟩ := He.ba g6
  have h_k_Library___init__ := of_decide_eq_true y_k_Library___init__
  obtain ⟨y_mk_Library, g6⟩ := He.ba g6
  have h_mk_Library := of_decide_eq_true y_mk_Library
  have h_kk_Library := of_decide_eq_true g6
  obtain ⟨y_a_Library_parts, g7⟩ := He.ba g7
  have h_a_Library_parts := of_decide_eq_true y_a_Library_parts
  obtain ⟨y_g_Library_parts, g7⟩ := He.ba g7
  have h_g_Library_parts := of_decide_eq_true y_g_Library_parts
  obtain ⟨y_t_Library_parts, g7⟩ := He.ba g7
  have h_t_Library_parts := of_decide_eq_true y_t_Library_parts
  obtain ⟨y_r_Library_parts, g7⟩ := He.ba g7
  have h_r_Library_parts := of_decide_eq_true y_r_Library_parts
  obtain ⟨y_Library_parts, g7⟩ := He.ba g7
  have e_Library_parts : fnV K Af_Library_parts = fnX "parts" "Library.parts" s_Library_parts := Option.some.inj (congrArg (fun l : List He.FnV => l[14]?) v0)
  obtain ⟨_, _, _, _, _, _, _, _, _, h_l_Library_parts, h_c_Library_parts⟩ := fn_of e_Library_parts y_Library_parts
  obtain ⟨y_k_Library_parts, g7⟩ := He.ba g7
  have h_k_Library_parts := of_decide_eq_true y_k_Library_parts
  obtain ⟨y_a_Library_names, g7⟩ := He.ba g7
  have h_a_Library_names := of_decide_eq_true y_a_Library_names
  obtain ⟨y_g_Library_names, g7⟩ := He.ba g7
  have h_g_Library_names := of_decide_eq_true y_g_Library_names
  obtain ⟨y_t_Library_names, g7⟩ := He.ba g7
  have h_t_Library_names := of_decide_eq_true y_t_Library_names
  obtain ⟨y_r_Library_names, g7⟩ := He.ba g7
  have h_r_Library_names := of_decide_eq_true y_r_Library_names
  obtain ⟨y_Library_names, g7⟩ := He.ba g7
  have e_Library_names : fnV K Af_Library_names = fnX "names" "Library.names" s_Library_names := Option.some.inj (congrArg (fun l : List He.FnV => l[15]?) v0)
  obtain ⟨_, _, _, _, _, _, _, _, _, h_l_Library_names, h_c_Library_names⟩ := fn_of e_Library_names y_Library_names
  obtain ⟨y_k_Library_names, g7⟩ := He.ba g7
  have h_k_Library_names := of_decide_eq_true y_k_Library_names
  obtain ⟨y_a_Library_lines, g7⟩ := He.ba g7
  have h_a_Library_lines := of_decide_eq_true y_a_Library_lines
  obtain ⟨y_g_Library_lines, g7⟩ := He.ba g7
  have h_g_Library_lines := of_decide_eq_true y_g_Library_lines
  obtain ⟨y_t_Library_lines, g7⟩ := He.ba g7
  have h_t_Library_lines := of_decide_eq_true y_t_Library_lines
  obtain ⟨y_r_Library_lines, g7⟩ := He.ba g7
  have h_r_Library_lines := of_decide_eq_true y_r_Library_lines
  obtain ⟨y_Library_lines, g7⟩ := He.ba g7
  have e_Library_lines : fnV K Af_Library_lines = fnX "lines" "Library.lines" s_Library_lines := Option.some.inj (congrArg (fun l : List He.FnV => l[16]?) v0)
  obtain ⟨_, _, _, _, _, _, _, _, _, h_l_Library_lines, h_c_Library_lines⟩ := fn_of e_Library_lines y_Library_lines
  obtain ⟨y_k_Library_lines, g7⟩ := He.ba g7
  have h_k_Library_lines := of_decide_eq_true y_k_Library_lines
  obtain ⟨y_a_Library_atoms, g7⟩ := He.ba g7
  have h_a_Library_atoms := of_decide_eq_true y_a_Library_atoms
  have h_g_Library_atoms := of_decide_eq_true g7
  obtain ⟨y_t_Library_atoms, g8⟩ := He.ba g8
  have h_t_Library_atoms := of_decide_eq_true y_t_Library_atoms
  obtain ⟨y_r_Library_atoms, g8⟩ := He.ba g8
  have h_r_Library_atoms := of_decide_eq_true y_r_Library_atoms
  obtain ⟨y_Library_atoms, g8⟩ := He.ba g8
  have e_Library_atoms : fnV K Af_Library_atoms = fnX "atoms" "Library.atoms" s_Library_atoms := Option.some.inj (congrArg (fun l : List He.FnV => l[17]?) v0)
  obtain ⟨_, _, _, _, _, _, _, _, _, h_l_Library_atoms, h_c_Library_atoms⟩ := fn_of e_Library_atoms y_Library_atoms
  obtain ⟨y_k_Library_atoms, g8⟩ := He.ba g8
  have h_k_Library_atoms := of_decide_eq_true y_k_Library_atoms
  obtain ⟨y_a_Library_scope, g8⟩ := He.ba g8
  have h_a_Library_scope := of_decide_eq_true y_a_Library_scope
  obtain ⟨y_g_Library_scope, g8⟩ := He.ba g8
  have h_g_Library_scope := of_decide_eq_true y_g_Library_scope
  obtain ⟨y_t_Library_scope, g8⟩ := He.ba g8
  have h_t_Library_scope := of_decide_eq_true y_t_Library_scope
  obtain ⟨y_r_Library_scope, g8⟩ := He.ba g8
  have h_r_Library_scope := of_decide_eq_true y_r_Library_scope
  obtain ⟨y_Library_scope, g8⟩ := He.ba g8
  have e_Library_scope : fnV K Af_Library_scope = fnX "scope" "Library.scope" s_Library_scope := Option.some.inj (congrArg (fun l : List He.FnV => l[18]?) v0)
  obtain ⟨_, _, _, _, _, _, _, _, _, h_l_Library_scope, h_c_Library_scope⟩ := fn_of e_Library_scope y_Library_scope
  obtain ⟨y_k_Library_scope, g8⟩ := He.ba g8
  have h_k_Library_scope := of_decide_eq_true y_k_Library_scope
  obtain ⟨y_a_Library_order, g8⟩ := He.ba g8
  have h_a_Library_order := of_decide_eq_true y_a_Library_order
  obtain ⟨y_g_Library_order, g8⟩ := He.ba g8
  have h_g_Library_order := of_decide_eq_true y_g_Library_order
  obtain ⟨y_t_Library_order, g8⟩ := He.ba g8
  have h_t_Library_order := of_decide_eq_true y_t_Library_order
  obtain ⟨y_r_Library_order, g8⟩ := He.ba g8
  have h_r_Library_order := of_decide_eq_true y_r_Library_order
  obtain ⟨y_Library_order, g8⟩ := He.ba g8
  have e_Library_order : fnV K Af_Library_order = fnX "order" "Library.order" s_Library_order := Option.some.inj (congrArg (fun l : List He.FnV => l[19]?) v0)
  obtain ⟨_, _, _, _, _, _, _, _, _, h_l_Library_order, h_c_Library_order⟩ := fn_of e_Library_order y_Library_order
  obtain ⟨y_k_Library_order, g8⟩ := He.ba g8
  have h_k_Library_order := of_decide_eq_true y_k_Library_order
  obtain ⟨y_a_Library_with_part, g8⟩ := He.ba g8
  have h_a_Library_with_part := of_decide_eq_true y_a_Library_with_part
  obtain ⟨y_i_Library_with_part, g8⟩ := He.ba g8
  have h_i_Library_with_part := of_decide_eq_true y_i_Library_with_part
  obtain ⟨y_Library_with_part, g8⟩ := He.ba g8
  have e_Library_with_part : fnV K Af_Library_with_part = fnX "with_part" "Library.with_part" s_Library_with_part := Option.some.inj (congrArg (fun l : List He.FnV => l[20]?) v0)
  obtain ⟨_, _, _, _, _, _, _, _, _, h_l_Library_with_part, h_c_Library_with_part⟩ := fn_of e_Library_with_part y_Library_with_part
  have h_k_Library_with_part := of_decide_eq_true g8
  obtain ⟨y_a_Library_heads, g9⟩ := He.ba g9
  have h_a_Library_heads := of_decide_eq_true y_a_Library_heads
  obtain ⟨y_i_Library_heads, g9⟩ := He.ba g9
  have h_i_Library_heads := of_decide_eq_true y_i_Library_heads
  obtain ⟨y_Library_heads, g9⟩ := He.ba g9
  have e_Library_heads : fnV K Af_Library_heads = fnX "heads" "Library.heads" s_Library_heads := Option.some.inj (congrArg (fun l : List He.FnV => l[21]?) v0)
  obtain ⟨_, _, _, _, _, _, _, _, _, h_l_Library_heads, h_c_Library_heads⟩ := fn_of e_Library_heads y_Library_heads
  obtain ⟨y_k_Library_heads, g9⟩ := He.ba g9
  have h_k_Library_heads := of_decide_eq_true y_k_Library_heads
  obtain ⟨y_a_Library___getitem__, g9⟩ := He.ba g9
  have h_a_Library___getitem__ := of_decide_eq_true y_a_Library___getitem__
  obtain ⟨y_i_Library___getitem__, g9⟩ := He.ba g9
  have h_i_Library___getitem__ := of_decide_eq_true y_i_Library___getitem__
  obtain ⟨y_fi_Library___getitem__, g9⟩ := He.ba g9
  have h_fi_Library___getitem__ := of_decide_eq_true y_fi_Library___getitem__
  obtain ⟨y_Library___getitem__, g9⟩ := He.ba g9
  have e_Library___getitem__ : fnV K Af_Library___getitem__ = fnX "__getitem__" "Library.__getitem__" s_Library___getitem__ := Option.some.inj (congrArg (fun l : List He.FnV => l[22]?) v0)
  obtain ⟨_, _, _, _, _, _, _, _, _, h_l_Library___getitem__, h_c_Library___getitem__⟩ := fn_of e_Library___getitem__ y_Library___getitem__
  obtain ⟨y_k_Library___getitem__, g9⟩ := He.ba g9
  have h_k_Library___getitem__ := of_decide_eq_true y_k_Library___getitem__
  obtain ⟨y_a_Library___contains__, g9⟩ := He.ba g9
  have h_a_Library___contains__ := of_decide_eq_true y_a_Library___contains__
  obtain ⟨y_i_Library___contains__, g9⟩ := He.ba g9
  have h_i_Library___contains__ := of_decide_eq_true y_i_Library___contains__
  obtain ⟨y_fi_Library___contains__, g9⟩ := He.ba g9
  have h_fi_Library___contains__ := of_decide_eq_true y_fi_Library___contains__
  obtain ⟨y_Library___contains__, g9⟩ := He.ba g9
  have e_Library___contains__ : fnV K Af_Library___contains__ = fnX "__contains__" "Library.__contains__" s_Library___contains__ := Option.some.inj (congrArg (fun l : List He.FnV => l[23]?) v0)
  obtain ⟨_, _, _, _, _, _, _, _, _, h_l_Library___contains__, h_c_Library___contains__⟩ := fn_of e_Library___contains__ y_Library___contains__
  obtain ⟨y_k_Library___contains__, g9⟩ := He.ba g9
  have h_k_Library___contains__ := of_decide_eq_true y_k_Library___contains__
  obtain ⟨y_a_Library___len__, g9⟩ := He.ba g9
  have h_a_Library___len__ := of_decide_eq_true y_a_Library___len__
  obtain ⟨y_i_Library___len__, g9⟩ := He.ba g9
  have h_i_Library___len__ := of_decide_eq_true y_i_Library___len__
  obtain ⟨y_fi_Library___len__, g9⟩ := He.ba g9
  have h_fi_Library___len__ := of_decide_eq_true y_fi_Library___len__
  obtain ⟨y_Library___len__, g9⟩ := He.ba g9
  have e_Library___len__ : fnV K Af_Library___len__ = fnX "__len__" "Library.__len__" s_Library___len__ := Option.some.inj (congrArg (fun l : List He.FnV => l[24]?) v0)
  obtain ⟨_, _, _, _, _, _, _, _, _, h_l_Library___len__, h_c_Library___len__⟩ := fn_of e_Library___len__ y_Library___len__
  obtain ⟨y_k_Library___len__, g9⟩ := He.ba g9
  have h_k_Library___len__ := of_decide_eq_true y_k_Library___len__
  have h_a_Library___iter__ := of_decide_eq_true g9
  obtain ⟨y_i_Library___iter__, g10⟩ := He.ba g10
  have h_i_Library___iter__ := of_decide_eq_true y_i_Library___iter__
  obtain ⟨y_Library___iter__, g10⟩ := He.ba g10
  have e_Library___iter__ : fnV K Af_Library___iter__ = fnX "__iter__" "Library.__iter__" s_Library___iter__ := Option.some.inj (congrArg (fun l : List He.FnV => l[0]?) v1)
  obtain ⟨_, _, _, _, _, _, _, _, _, h_l_Library___iter__, h_c_Library___iter__⟩ := fn_of e_Library___iter__ y_Library___iter__
  obtain ⟨y_k_Library___iter__, g10⟩ := He.ba g10
  have h_k_Library___iter__ := of_decide_eq_true y_k_Library___iter__
  obtain ⟨y_a_Library___eq__, g10⟩ := He.ba g10
  have h_a_Library___eq__ := of_decide_eq_true y_a_Library___eq__
  obtain ⟨y_i_Library___eq__, g10⟩ := He.ba g10
  have h_i_Library___eq__ := of_decide_eq_true y_i_Library___eq__
  obtain ⟨y_fi_Library___eq__, g10⟩ := He.ba g10
  have h_fi_Library___eq__ := of_decide_eq_true y_fi_Library___eq__
  obtain ⟨y_Library___eq__, g10⟩ := He.ba g10
  have e_Library___eq__ : fnV K Af_Library___eq__ = fnX "__eq__" "Library.__eq__" s_Library___eq__ := Option.some.inj (congrArg (fun l : List He.FnV => l[1]?) v1)
  obtain ⟨_, _, _, _, _, _, _, _, _, h_l_Library___eq__, h_c_Library___eq__⟩ := fn_of e_Library___eq__ y_Library___eq__
  obtain ⟨y_k_Library___eq__, g10⟩ := He.ba g10
  have h_k_Library___eq__ := of_decide_eq_true y_k_Library___eq__
  obtain ⟨y_a_Library___str__, g10⟩ := He.ba g10
  have h_a_Library___str__ := of_decide_eq_true y_a_Library___str__
  obtain ⟨y_i_Library___str__, g10⟩ := He.ba g10
  have h_i_Library___str__ := of_decide_eq_true y_i_Library___str__
  obtain ⟨y_fi_Library___str__, g10⟩ := He.ba g10
  have h_fi_Library___str__ := of_decide_eq_true y_fi_Library___str__
  obtain ⟨y_Library___str__, g10⟩ := He.ba g10
  have e_Library___str__ : fnV K Af_Library___str__ = fnX "__str__" "Library.__str__" s_Library___str__ := Option.some.inj (congrArg (fun l : List He.FnV => l[2]?) v1)
  obtain ⟨_, _, _, _, _, _, _, _, _, h_l_Library___str__, h_c_Library___str__⟩ := fn_of e_Library___str__ y_Library___str__
  obtain ⟨y_k_Library___str__, g10⟩ := He.ba g10
  have h_k_Library___str__ := of_decide_eq_true y_k_Library___str__
  obtain ⟨y_a_require_library, g10⟩ := He.ba g10
  have h_a_require_library := of_decide_eq_true y_a_require_library
  obtain ⟨y_require_library, g10⟩ := He.ba g10
  have e_require_library : fnV K Af_require_library = fnX "require_library" "require_library" s_require_library := Option.some.inj (congrArg (fun l : List He.FnV => l[3]?) v1)
  obtain ⟨_, _, _, _, _, _, _, _, _, h_l_require_library, h_c_require_library⟩ := fn_of e_require_library y_require_library
  obtain ⟨y_k_require_library, g10⟩ := He.ba g10
  have h_k_require_library := of_decide_eq_true y_k_require_library
  obtain ⟨y_a_atoms_in, g10⟩ := He.ba g10
  have h_a_atoms_in := of_decide_eq_true y_a_atoms_in
  obtain ⟨y_atoms_in, g10⟩ := He.ba g10
  have e_atoms_in : fnV K Af_atoms_in = fnX "atoms_in" "atoms_in" s_atoms_in := Option.some.inj (congrArg (fun l : List He.FnV => l[4]?) v1)
  obtain ⟨_, _, _, _, _, _, _, _, _, h_l_atoms_in, h_c_atoms_in⟩ := fn_of e_atoms_in y_atoms_in
  obtain ⟨y_k_atoms_in, g10⟩ := He.ba g10
  have h_k_atoms_in := of_decide_eq_true y_k_atoms_in
  have h_a_fresh_list := of_decide_eq_true g10
  obtain ⟨y_fresh_list, g11⟩ := He.ba g11
  have e_fresh_list : fnV K Af_fresh_list = fnX "fresh_list" "fresh_list" s_fresh_list := Option.some.inj (congrArg (fun l : List He.FnV => l[5]?) v1)
  obtain ⟨_, _, _, _, _, _, _, _, _, h_l_fresh_list, h_c_fresh_list⟩ := fn_of e_fresh_list y_fresh_list
  obtain ⟨y_k_fresh_list, g11⟩ := He.ba g11
  have h_k_fresh_list := of_decide_eq_true y_k_fresh_list
  obtain ⟨y_a_fresh_names, g11⟩ := He.ba g11
  have h_a_fresh_names := of_decide_eq_true y_a_fresh_names
  obtain ⟨y_fresh_names, g11⟩ := He.ba g11
  have e_fresh_names : fnV K Af_fresh_names = fnX "fresh_names" "fresh_names" s_fresh_names := Option.some.inj (congrArg (fun l : List He.FnV => l[6]?) v1)
  obtain ⟨_, _, _, _, _, _, _, _, _, h_l_fresh_names, h_c_fresh_names⟩ := fn_of e_fresh_names y_fresh_names
  obtain ⟨y_k_fresh_names, g11⟩ := He.ba g11
  have h_k_fresh_names := of_decide_eq_true y_k_fresh_names
  obtain ⟨y_a__law_dice, g11⟩ := He.ba g11
  have h_a__law_dice := of_decide_eq_true y_a__law_dice
  obtain ⟨y__law_dice, g11⟩ := He.ba g11
  have e__law_dice : fnV K Af__law_dice = fnX "_law_dice" "_law_dice" s__law_dice := Option.some.inj (congrArg (fun l : List He.FnV => l[7]?) v1)
  obtain ⟨_, _, _, _, _, _, _, _, _, h_l__law_dice, h_c__law_dice⟩ := fn_of e__law_dice y__law_dice
  obtain ⟨y_k__law_dice, g11⟩ := He.ba g11
  have h_k__law_dice := of_decide_eq_true y_k__law_dice
  obtain ⟨y_a__law_roll, g11⟩ := He.ba g11
  have h_a__law_roll := of_decide_eq_true y_a__law_roll
  obtain ⟨y__law_roll, g11⟩ := He.ba g11
  have e__law_roll : fnV K Af__law_roll = fnX "_law_roll" "_law_roll" s__law_roll := Option.some.inj (congrArg (fun l : List He.FnV => l[8]?) v1)
  obtain ⟨_, _, _, _, _, _, _, _, _, h_l__law_roll, h_c__law_roll⟩ := fn_of e__law_roll y__law_roll
  obtain ⟨y_k__law_roll, g11⟩ := He.ba g11
  have h_k__law_roll := of_decide_eq_true y_k__law_roll
  obtain ⟨y_a__law_pick, g11⟩ := He.ba g11
  have h_a__law_pick := of_decide_eq_true y_a__law_pick
  obtain ⟨y__law_pick, g11⟩ := He.ba g11
  have e__law_pick : fnV K Af__law_pick = fnX "_law_pick" "_law_pick" s__law_pick := Option.some.inj (congrArg (fun l : List He.FnV => l[9]?) v1)
  obtain ⟨_, _, _, _, _, _, _, _, _, h_l__law_pick, h_c__law_pick⟩ := fn_of e__law_pick y__law_pick
  obtain ⟨y_k__law_pick, g11⟩ := He.ba g11
  have h_k__law_pick := of_decide_eq_true y_k__law_pick
  obtain ⟨y_a__law_some, g11⟩ := He.ba g11
  have h_a__law_some := of_decide_eq_true y_a__law_some
  obtain ⟨y__law_some, g11⟩ := He.ba g11
  have e__law_some : fnV K Af__law_some = fnX "_law_some" "_law_some" s__law_some := Option.some.inj (congrArg (fun l : List He.FnV => l[10]?) v1)
  obtain ⟨_, _, _, _, _, _, _, _, _, h_l__law_some, h_c__law_some⟩ := fn_of e__law_some y__law_some
  obtain ⟨y_k__law_some, g11⟩ := He.ba g11
  have h_k__law_some := of_decide_eq_true y_k__law_some
  obtain ⟨y_a__law_text, g11⟩ := He.ba g11
  have h_a__law_text := of_decide_eq_true y_a__law_text
  obtain ⟨y__law_text, g11⟩ := He.ba g11
  have e__law_text : fnV K Af__law_text = fnX "_law_text" "_law_text" s__law_text := Option.some.inj (congrArg (fun l : List He.FnV => l[11]?) v1)
  obtain ⟨_, _, _, _, _, _, _, _, _, h_l__law_text, h_c__law_text⟩ := fn_of e__law_text y__law_text
  have h_k__law_text := of_decide_eq_true g11
  obtain ⟨y_a__law_atoms_of, g12⟩ := He.ba g12
  have h_a__law_atoms_of := of_decide_eq_true y_a__law_atoms_of
  obtain ⟨y__law_atoms_of, g12⟩ := He.ba g12
  have e__law_atoms_of : fnV K Af__law_atoms_of = fnX "_law_atoms_of" "_law_atoms_of" s__law_atoms_of := Option.some.inj (congrArg (fun l : List He.FnV => l[12]?) v1)
  obtain ⟨_, _, _, _, _, _, _, _, _, h_l__law_atoms_of, h_c__law_atoms_of⟩ := fn_of e__law_atoms_of y__law_atoms_of
  obtain ⟨y_k__law_atoms_of, g12⟩ := He.ba g12
  have h_k__law_atoms_of := of_decide_eq_true y_k__law_atoms_of
  obtain ⟨y_a__law_order, g12⟩ := He.ba g12
  have h_a__law_order := of_decide_eq_true y_a__law_order
  obtain ⟨y__law_order, g12⟩ := He.ba g12
  have e__law_order : fnV K Af__law_order = fnX "_law_order" "_law_order" s__law_order := Option.some.inj (congrArg (fun l : List He.FnV => l[13]?) v1)
  obtain ⟨_, _, _, _, _, _, _, _, _, h_l__law_order, h_c__law_order⟩ := fn_of e__law_order y__law_order
  obtain ⟨y_k__law_order, g12⟩ := He.ba g12
  have h_k__law_order := of_decide_eq_true y_k__law_order
  obtain ⟨y_a__law_kind, g12⟩ := He.ba g12
  have h_a__law_kind := of_decide_eq_true y_a__law_kind
  obtain ⟨y__law_kind, g12⟩ := He.ba g12
  have e__law_kind : fnV K Af__law_kind = fnX "_law_kind" "_law_kind" s__law_kind := Option.some.inj (congrArg (fun l : List He.FnV => l[14]?) v1)
  obtain ⟨_, _, _, _, _, _, _, _, _, h_l__law_kind, h_c__law_kind⟩ := fn_of e__law_kind y__law_kind
  obtain ⟨y_k__law_kind, g12⟩ := He.ba g12
  have h_k__law_kind := of_decide_eq_true y_k__law_kind
  obtain ⟨y_a__law_made_kind, g12⟩ := He.ba g12
  have h_a__law_made_kind := of_decide_eq_true y_a__law_made_kind
  obtain ⟨y__law_made_kind, g12⟩ := He.ba g12
  have e__law_made_kind : fnV K Af__law_made_kind = fnX "_law_made_kind" "_law_made_kind" s__law_made_kind := Option.some.inj (congrArg (fun l : List He.FnV => l[15]?) v1)
  obtain ⟨_, _, _, _, _, _, _, _, _, h_l__law_made_kind, h_c__law_made_kind⟩ := fn_of e__law_made_kind y__law_made_kind
  obtain ⟨y_k__law_made_kind, g12⟩ := He.ba g12
  have h_k__law_made_kind := of_decide_eq_true y_k__law_made_kind
  obtain ⟨y_a__law_library, g12⟩ := He.ba g12
  have h_a__law_library := of_decide_eq_true y_a__law_library
  obtain ⟨y__law_library, g12⟩ := He.ba g12
  have e__law_library : fnV K Af__law_library = fnX "_law_library" "_law_library" s__law_library := Option.some.inj (congrArg (fun l : List He.FnV => l[16]?) v1)
  obtain ⟨_, _, _, _, _, _, _, _, _, h_l__law_library, h_c__law_library⟩ := fn_of e__law_library y__law_library
  obtain ⟨y_k__law_library, g12⟩ := He.ba g12
  have h_k__law_library := of_decide_eq_true y_k__law_library
  obtain ⟨y_a__law_known_library, g12⟩ := He.ba g12
  have h_a__law_known_library := of_decide_eq_true y_a__law_known_library
  obtain ⟨y__law_known_library, g12⟩ := He.ba g12
  have e__law_known_library : fnV K Af__law_known_library = fnX "_law_known_library" "_law_known_library" s__law_known_library := Option.some.inj (congrArg (fun l : List He.FnV => l[17]?) v1)
  obtain ⟨_, _, _, _, _, _, _, _, _, h_l__law_known_library, h_c__law_known_library⟩ := fn_of e__law_known_library y__law_known_library
  obtain ⟨y_k__law_known_library, g12⟩ := He.ba g12
  have h_k__law_known_library := of_decide_eq_true y_k__law_known_library
  obtain ⟨y_a__law_lines, g12⟩ := He.ba g12
  have h_a__law_lines := of_decide_eq_true y_a__law_lines
  have e__law_lines : fnV K Af__law_lines = fnX "_law_lines" "_law_lines" s__law_lines := Option.some.inj (congrArg (fun l : List He.FnV => l[18]?) v1)
  obtain ⟨_, _, _, _, _, _, _, _, _, h_l__law_lines, h_c__law_lines⟩ := fn_of e__law_lines g12
  obtain ⟨y_k__law_lines, g13⟩ := He.ba g13
  have h_k__law_lines := of_decide_eq_true y_k__law_lines
  obtain ⟨y_a__law_made, g13⟩ := He.ba g13
  have h_a__law_made := of_decide_eq_true y_a__law_made
  obtain ⟨y__law_made, g13⟩ := He.ba g13
  have e__law_made : fnV K Af__law_made = fnX "_law_made" "_law_made" s__law_made := Option.some.inj (congrArg (fun l : List He.FnV => l[19]?) v1)
  obtain ⟨_, _, _, _, _, _, _, _, _, h_l__law_made, h_c__law_made⟩ := fn_of e__law_made y__law_made
  obtain ⟨y_k__law_made, g13⟩ := He.ba g13
  have h_k__law_made := of_decide_eq_true y_k__law_made
  obtain ⟨y_a__law_library_atoms, g13⟩ := He.ba g13
  have h_a__law_library_atoms := of_decide_eq_true y_a__law_library_atoms
  obtain ⟨y__law_library_atoms, g13⟩ := He.ba g13
  have e__law_library_atoms : fnV K Af__law_library_atoms = fnX "_law_library_atoms" "_law_library_atoms" s__law_library_atoms := Option.some.inj (congrArg (fun l : List He.FnV => l[20]?) v1)
  obtain ⟨_, _, _, _, _, _, _, _, _, h_l__law_library_atoms, h_c__law_library_atoms⟩ := fn_of e__law_library_atoms y__law_library_atoms
  obtain ⟨y_k__law_library_atoms, g13⟩ := He.ba g13
  have h_k__law_library_atoms := of_decide_eq_true y_k__law_library_atoms
  obtain ⟨y_a__law_told_right, g13⟩ := He.ba g13
  have h_a__law_told_right := of_decide_eq_true y_a__law_told_right
  obtain ⟨y__law_told_right, g13⟩ := He.ba g13
  have e__law_told_right : fnV K Af__law_told_right = fnX "_law_told_right" "_law_told_right" s__law_told_right := Option.some.inj (congrArg (fun l : List He.FnV => l[21]?) v1)
  obtain ⟨_, _, _, _, _, _, _, _, _, h_l__law_told_right, h_c__law_told_right⟩ := fn_of e__law_told_right y__law_told_right
  obtain ⟨y_k__law_told_right, g13⟩ := He.ba g13
  have h_k__law_told_right := of_decide_eq_true y_k__law_told_right
  obtain ⟨y_a__law_right, g13⟩ := He.ba g13
  have h_a__law_right := of_decide_eq_true y_a__law_right
  obtain ⟨y__law_right, g13⟩ := He.ba g13
  have e__law_right : fnV K Af__law_right = fnX "_law_right" "_law_right" s__law_right := Option.some.inj (congrArg (fun l : List He.FnV => l[22]?) v1)
  obtain ⟨_, _, _, _, _, _, _, _, _, h_l__law_right, h_c__law_right⟩ := fn_of e__law_right y__law_right
  obtain ⟨y_k__law_right, g13⟩ := He.ba g13
  have h_k__law_right := of_decide_eq_true y_k__law_right
  obtain ⟨y_a_law, g13⟩ := He.ba g13
  have h_a_law := of_decide_eq_true y_a_law
  obtain ⟨y_law, g13⟩ := He.ba g13
  have e_law : fnV K Af_law = fnX "law" "law" s_law := Option.some.inj (congrArg (fun l : List He.FnV => l[23]?) v1)
  obtain ⟨_, _, _, _, _, _, _, _, _, h_l_law, h_c_law⟩ := fn_of e_law y_law
  obtain ⟨y_k_law, g13⟩ := He.ba g13
  have h_k_law := of_decide_eq_true y_k_law
  obtain ⟨y_xa_InvalidLibrary, g13⟩ := He.ba g13
  have h_xa_InvalidLibrary := of_decide_eq_true y_xa_InvalidLibrary
  obtain ⟨y_xe_InvalidLibrary, g13⟩ := He.ba g13
  have h_xe_InvalidLibrary := of_decide_eq_true y_xe_InvalidLibrary
  obtain ⟨y_xk_InvalidLibrary, g13⟩ := He.ba g13
  have h_xk_InvalidLibrary := of_decide_eq_true y_xk_InvalidLibrary
  have h_xs_InvalidLibrary := of_decide_eq_true g13
  obtain ⟨y_xt_InvalidLibrary, g14⟩ := He.ba g14
  have h_xt_InvalidLibrary := of_decide_eq_true y_xt_InvalidLibrary
  obtain ⟨y_xi_InvalidLibrary, g14⟩ := He.ba g14
  have h_xi_InvalidLibrary := of_decide_eq_true y_xi_InvalidLibrary
  obtain ⟨y_xo_InvalidLibrary, g14⟩ := He.ba g14
  have h_xo_InvalidLibrary := of_decide_eq_true y_xo_InvalidLibrary
  obtain ⟨y_xa_InvalidType, g14⟩ := He.ba g14
  have h_xa_InvalidType := of_decide_eq_true y_xa_InvalidType
  obtain ⟨y_xe_InvalidType, g14⟩ := He.ba g14
  have h_xe_InvalidType := of_decide_eq_true y_xe_InvalidType
  obtain ⟨y_xk_InvalidType, g14⟩ := He.ba g14
  have h_xk_InvalidType := of_decide_eq_true y_xk_InvalidType
  obtain ⟨y_xs_InvalidType, g14⟩ := He.ba g14
  have h_xs_InvalidType := of_decide_eq_true y_xs_InvalidType
  obtain ⟨y_xt_InvalidType, g14⟩ := He.ba g14
  have h_xt_InvalidType := of_decide_eq_true y_xt_InvalidType
  obtain ⟨y_xi_InvalidType, g14⟩ := He.ba g14
  have h_xi_InvalidType := of_decide_eq_true y_xi_InvalidType
  obtain ⟨y_xo_InvalidType, g14⟩ := He.ba g14
  have h_xo_InvalidType := of_decide_eq_true y_xo_InvalidType
  obtain ⟨y_xa_InvalidWord, g14⟩ := He.ba g14
  have h_xa_InvalidWord := of_decide_eq_true y_xa_InvalidWord
  obtain ⟨y_xe_InvalidWord, g14⟩ := He.ba g14
  have h_xe_InvalidWord := of_decide_eq_true y_xe_InvalidWord
  obtain ⟨y_xk_InvalidWord, g14⟩ := He.ba g14
  have h_xk_InvalidWord := of_decide_eq_true y_xk_InvalidWord
  obtain ⟨y_xs_InvalidWord, g14⟩ := He.ba g14
  have h_xs_InvalidWord := of_decide_eq_true y_xs_InvalidWord
  obtain ⟨y_xt_InvalidWord, g14⟩ := He.ba g14
  have h_xt_InvalidWord := of_decide_eq_true y_xt_InvalidWord
  obtain ⟨y_xi_InvalidWord, g14⟩ := He.ba g14
  have h_xi_InvalidWord := of_decide_eq_true y_xi_InvalidWord
  have h_xo_InvalidWord := of_decide_eq_true g14
  exact all_mk X G h_z_abs h_z_all h_z_bool h_z_dict h_z_int h_z_isinstance h_z_iter h_z_len h_z_list h_z_max h_z_min h_z_range h_z_set h_z_sorted h_z_str h_z_tuple h_y_ARROW h_y_LETTERS h_y_LONGEST h_y_MAX_LETTERS h_y_MAX_ORDER h_y_MAX_PARTS h_y_MAX_PLACES h_aC_Type h_pg_Type h_hd_Type h_po_Type h_sa_Type h_ha_Type h_hn_Type h_ht_Type h_hm_Type h_fa_Type_own_args h_fa_Type_own_atom h_fa_Type_own_places h_fa_Type_own_order h_fa_Type_own_text h_ic_Type h_ty_Type h_ki0_Type h_ki1_Type h_ki2_Type h_ki3_Type h_ki4_Type h_ki5_Type h_ki6_Type h_aC_Library h_pg_Library h_hd_Library h_po_Library h_sa_Library h_ha_Library h_hn_Library h_ht_Library h_hm_Library h_fa_Library_own_parts h_fa_Library_own_names h_fa_Library_own_lines h_fa_Library_own_scope h_ic_Library h_ty_Library h_ki0_Library h_ki1_Library h_ki2_Library h_ki3_Library h_ki4_Library h_ki5_Library h_ki6_Library h_nf0_Library h_nf1_Library h_nf2_Library h_nf3_Library h_nf4_Library h_nf5_Library h_nf6_Library h_nf7_Library h_nn_Library h_fm_Type h_sb_str_Library h_sb_str_Type h_a_is_integer h_l_is_integer h_c_is_integer h_k_is_integer h_a_is_within h_l_is_within h_c_is_within h_k_is_within h_a_is_word h_l_is_word h_c_is_word h_k_is_word h_a_ascending_rows h_l_ascending_rows h_c_ascending_rows h_k_ascending_rows h_a_order_of h_l_order_of h_c_order_of h_k_order_of h_a_input_text h_l_input_text h_c_input_text h_k_input_text h_a_Type___init__ h_i_Type___init__ h_l_Type___init__ h_c_Type___init__ h_k_Type___init__ h_mk_Type h_kk_Type h_rd_Type_plain h_ga_Type_plain h_a_Type_plain h_r_Type_plain h_fi_Type_plain h_l_Type_plain h_c_Type_plain h_k_Type_plain h_a_Type_text h_g_Type_text h_t_Type_text h_r_Type_text h_l_Type_text h_c_Type_text h_k_Type_text h_a_Type_atoms h_g_Type_atoms h_t_Type_atoms h_r_Type_atoms h_l_Type_atoms h_c_Type_atoms h_k_Type_atoms h_a_Type___str__ h_i_Type___str__ h_fi_Type___str__ h_l_Type___str__ h_c_Type___str__ h_k_Type___str__ h_a_signed_atoms h_l_signed_atoms h_c_signed_atoms h_k_signed_atoms h_a_is_parts h_l_is_parts h_c_is_parts h_k_is_parts h_a_Library___init__ h_i_Library___init__ h_l_Library___init__ h_c_Library___init__ h_k_Library___init__ h_dv_Library___init__ h_mk_Library h_kk_Library h_a_Library_parts h_g_Library_parts h_t_Library_parts h_r_Library_parts h_l_Library_parts h_c_Library_parts h_k_Library_parts h_a_Library_names h_g_Library_names h_t_Library_names h_r_Library_names h_l_Library_names h_c_Library_names h_k_Library_names h_a_Library_lines h_g_Library_lines h_t_Library_lines h_r_Library_lines h_l_Library_lines h_c_Library_lines h_k_Library_lines h_a_Library_atoms h_g_Library_atoms h_t_Library_atoms h_r_Library_atoms h_l_Library_atoms h_c_Library_atoms h_k_Library_atoms h_a_Library_scope h_g_Library_scope h_t_Library_scope h_r_Library_scope h_l_Library_scope h_c_Library_scope h_k_Library_scope h_a_Library_order h_g_Library_order h_t_Library_order h_r_Library_order h_l_Library_order h_c_Library_order h_k_Library_order h_a_Library_with_part h_i_Library_with_part h_l_Library_with_part h_c_Library_with_part h_k_Library_with_part h_a_Library_heads h_i_Library_heads h_l_Library_heads h_c_Library_heads h_k_Library_heads h_a_Library___getitem__ h_i_Library___getitem__ h_fi_Library___getitem__ h_l_Library___getitem__ h_c_Library___getitem__ h_k_Library___getitem__ h_a_Library___contains__ h_i_Library___contains__ h_fi_Library___contains__ h_l_Library___contains__ h_c_Library___contains__ h_k_Library___contains__ h_a_Library___len__ h_i_Library___len__ h_fi_Library___len__ h_l_Library___len__ h_c_Library___len__ h_k_Library___len__ h_a_Library___iter__ h_i_Library___iter__ h_l_Library___iter__ h_c_Library___iter__ h_k_Library___iter__ h_a_Library___eq__ h_i_Library___eq__ h_fi_Library___eq__ h_l_Library___eq__ h_c_Library___eq__ h_k_Library___eq__ h_a_Library___str__ h_i_Library___str__ h_fi_Library___str__ h_l_Library___str__ h_c_Library___str__ h_k_Library___str__ h_a_require_library h_l_require_library h_c_require_library h_k_require_library h_a_atoms_in h_l_atoms_in h_c_atoms_in h_k_atoms_in h_a_fresh_list h_l_fresh_list h_c_fresh_list h_k_fresh_list h_a_fresh_names h_l_fresh_names h_c_fresh_names h_k_fresh_names h_a__law_dice h_l__law_dice h_c__law_dice h_k__law_dice h_a__law_roll h_l__law_roll h_c__law_roll h_k__law_roll h_a__law_pick h_l__law_pick h_c__law_pick h_k__law_pick h_a__law_some h_l__law_some h_c__law_some h_k__law_some h_a__law_text h_l__law_text h_c__law_text h_k__law_text h_a__law_atoms_of h_l__law_atoms_of h_c__law_atoms_of h_k__law_atoms_of h_a__law_order h_l__law_order h_c__law_order h_k__law_order h_a__law_kind h_l__law_kind h_c__law_kind h_k__law_kind h_a__law_made_kind h_l__law_made_kind h_c__law_made_kind h_k__law_made_kind h_a__law_library h_l__law_library h_c__law_library h_k__law_library h_a__law_known_library h_l__law_known_library h_c__law_known_library h_k__law_known_library h_a__law_lines h_l__law_lines h_c__law_lines h_k__law_lines h_a__law_made h_l__law_made h_c__law_made h_k__law_made h_a__law_library_atoms h_l__law_library_atoms h_c__law_library_atoms h_k__law_library_atoms h_a__law_told_right h_l__law_told_right h_c__law_told_right h_k__law_told_right h_a__law_right h_l__law_right h_c__law_right h_k__law_right h_a_law h_l_law h_c_law h_k_law h_xa_InvalidLibrary h_xe_InvalidLibrary h_xk_InvalidLibrary h_xs_InvalidLibrary h_xt_InvalidLibrary h_xi_InvalidLibrary h_xo_InvalidLibrary h_xa_InvalidType h_xe_InvalidType h_xk_InvalidType h_xs_InvalidType h_xt_InvalidType h_xi_InvalidType h_xo_InvalidType h_xa_InvalidWord h_xe_InvalidWord h_xk_InvalidWord h_xs_InvalidWord h_xt_InvalidWord h_xi_InvalidWord h_xo_InvalidWord
end K10
open PySem PySem.W PyProof.Rows in
set_option maxRecDepth 100000 in
set_option maxHeartbeats 0 in
theorem PySem.Challenge.cw_fromparts_k10_libraries_told_holds : PySem.Challenge.rw_fromparts_k10_libraries_told.Holds := by
  w_on; o_law
  refine HandSHeadRun.head_any (r := OpenLaw.row PySem.Challenge.rw_fromparts_k10_libraries_told) (q := K10.hQ) (H := FP.hookL K10.lits 5 K10.hdKB K10.hdKV K10.hdKW) (ob := FP.obS K10.lits 5 K10.hdKB K10.hdKV) (M := 30000) (loose := K10.names) (d := HandSHeadRun.topDef (OpenLaw.row PySem.Challenge.rw_fromparts_k10_libraries_told).prog 63) (kwd := []) FP.obS_eq
    (by kernel_rfl) (fun s => by kernel_rfl) K10.hRun (by kernel_rfl) (by kernel_rfl) (by kernel_rfl) (by rfl) (by first | assumption | decide +kernel) (by decide +kernel) ⟨rfl, rfl, rfl, rfl, rfl, by decide +kernel⟩ ?hw ?hc
  case hw => w_witness2
  case hc =>
    letI : FP.Tabl := ⟨[], none⟩
    refine FP.walkGH (l := PySem.Challenge.rw_fromparts_k10_libraries_told) (f := KP.f_law) (k := 20) rfl rfl (by kernel_rfl) ⟨⟨rfl, by decide, by decide⟩, rfl⟩ ?F (fun ns h => ⟨⟨ns, rfl, h⟩, rfl⟩)
    intro w mg h Y G
    obtain ⟨K, KX, c, v⟩ := Y
    have e : (HandSHeadRun.topDef (OpenLaw.row PySem.Challenge.rw_fromparts_k10_libraries_told).prog 63).name = ("law" : PySem.Str) := by kernel_rfl
    refine ⟨K, KX, fun base => ?_⟩
    rw [e]
    exact K10.ok_all (K10.all_H KX G c v)
#print axioms PySem.Challenge.cw_fromparts_k10_libraries_told_holds
