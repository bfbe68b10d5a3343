import PyProof.Rows.All
import KE.KDictAnyGet
import KE.KDictList
import KE.KTurns
import KE.KIsNot
import KE.KPar
import Wide.FinOn
import OpenK.AllK
import Wide.All
import PySem.Challenge.RW_pq0864_01
section
open PySem PySem.W PyProof.Rows
set_option Elab.async false
set_option maxRecDepth 100000
namespace Mine
abbrev pw : Program := PySem.Challenge.pw_pq0864_01
abbrev rw0 : OpenLaw := PySem.Challenge.rw_pq0864_01

/-- a run over trees, by any step function -/
def runS (ok : Thread → Bool) (st : SharedT → Thread → Option (SharedT × Thread)) : Nat → SharedT → Thread → Option SharedT
  | 0, _, _ => none
  | n + 1, s, t => match through t with
    | true => some s
    | false => match ok t with
      | false => none
      | true => match st s t with
        | some (s', t') => runS ok st n s' t'
        | none => none

theorem runS_top {tb : String → Option Builtin} {p : Program} {w : World} {n₀ : Nat} {ann : Option Value} : ∀ (n : Nat) (s : SharedT) (t : Thread) (r : SharedT),
    runS (stepOk n₀ ann) (stepT (denote tb) p w) n s t = some r → topRun tb p w n₀ ann n s.abs t = some r.abs
  | 0, _, _, _, h => by cases h
  | n + 1, s, t, r, h => by
    unfold runS at h
    unfold topRun
    cases ht : through t with
    | true => rw [ht] at h; cases h; rfl
    | false =>
      rw [ht] at h
      cases hk : stepOk n₀ ann t with
      | false => rw [hk] at h; cases h
      | true =>
        rw [hk] at h
        cases hs : stepT (denote tb) p w s t with
        | none => rw [hs] at h; cases h
        | some q =>
          obtain ⟨s', t'⟩ := q
          rw [hs] at h
          dsimp only
          rw [stepT_spec hs]
          exact runS_top n s' t' r h

noncomputable def bootTree (P : Params) : BT := (boot_heap P).objs.toList.zipIdx.foldl (fun t x => t.ins x.2 x.1) .nil
theorem boot_size (P : Params) : (boot_heap P).objs.size = 11 := by kernel_rfl
theorem boot_abs (P : Params) : absHeap (bootTree P) 11 (boot_heap P).life = boot_heap P := by kernel_rfl

noncomputable def startT (w : World) (os : OsState) : SharedT := ⟨bootTree w.params, 11, (boot_heap w.params).life, #[], boot_drawn, boot_toks, os⟩

theorem start_abs (w : World) (os : OsState) : (startT w os).abs = ⟨boot_heap w.params, #[], boot_drawn, boot_toks, os⟩ := by
  unfold startT SharedT.abs
  dsimp only
  rw [boot_abs]

theorem left_whole {p q : Program} {loose : List Str} {Xt : Shared → Bool} {α : Type} {Yf : Shared → α} {Ya : World → α} {N : Nat}
    (e : opening p = plainProg p.main.scope.names) (hN : Nat.ble 600 N = true) (f : ∀ s, fenceModules? p s = some s)
    (ann : ∀ P, (boot_heap P).isNs mainGlobals = true ∧ (boot_heap P).nsMap mainGlobals "__annotations__" = some (.ref 6))
    (h : ∀ w os, (runS (stepOk 11 (some (.ref 6))) (stepT (denote treeTable) p w) N (startT w os) (topStub p)).map (fun s =>
      ((staticsOk (importedModules p.main.body) (boot_heap w.params) s.abs.heap && namesBound p s.abs.heap && gensDone s.abs && laidKept (boot_heap w.params) s.abs.heap),
        openSeen q loose (importedModules p.main.body) Xt true s.abs, Yf s.abs)) = some (true, openGood q loose, Ya w)) :
    LeftO p q loose Xt Yf Ya N true := fun w => by
  obtain ⟨⟨h₀, gs, d, k, os⟩, e1, e2⟩ := Option.map_eq_some_iff.mp (boot_open e hN f w)
  obtain ⟨rfl, rfl, rfl, rfl⟩ : h₀ = boot_heap w.params ∧ gs = #[] ∧ d = boot_drawn ∧ k = boot_toks := by simpa using e2
  obtain ⟨r, hr, hv⟩ := Option.map_eq_some_iff.mp (h w os)
  obtain ⟨l1, l2, l3⟩ : _ ∧ _ ∧ _ := by simpa only [Prod.mk.injEq] using hv
  have hr := runS_top _ _ _ _ hr
  rw [start_abs] at hr
  have t : topFrom treeTable p w N ⟨boot_heap w.params, #[], boot_drawn, boot_toks, os⟩ = some r.abs := by
    unfold topFrom
    dsimp only
    rw [boot_size, (ann w.params).1, (ann w.params).2, hr]
    show (match staticsOk (importedModules p.main.body) (boot_heap w.params) r.abs.heap && namesBound p r.abs.heap && gensDone r.abs && laidKept (boot_heap w.params) r.abs.heap with | true => _ | false => _) = _
    rw [l1]
  unfold openEnds
  rw [e1]
  show (topFrom treeTable p w N _).map _ = _
  rw [t]
  exact congrArg some (Prod.ext l2 l3)
end Mine
end
section
open PySem PySem.W PyProof.Rows
set_option Elab.async false
set_option maxRecDepth 100000
namespace Mine
def qv : Program := view pw [90]
def lawStmt : Stmt := (pw.main.body[90]?).getD (.Pass ⟨0,0,0,0⟩)
def recOf : Stmt → DefRec
  | .FunctionDef name a b _ _ _ sc _ _ pos => ⟨name, a, b, sc, pos⟩
  | _ => ⟨Str.ofString "", ⟨[], [], none, [], [], none, []⟩, [], ⟨.function, [], false, false, []⟩, ⟨0,0,0,0⟩⟩
def lawD : DefRec := recOf lawStmt
def looseN : List Str := pw.boundNames.filter fun x => !(x == Str.ofString "law")

structure Law (w : World) (says : World → Heap → Prop) : Prop where
  go : ∀ (d : Drawn) (os : OsState) (tk : Nat) (h : Heap) (fa : Addr) (l : Addr) (vs : List Value) (ns : List Int) (mg mb : Str → Option Value), says w h →
    h.Ns mainGlobals mg → h.Ns builtinsNs mb → h.NoLimit → (∀ x : Str, x ≠ "__name__" → mb x = bootBuiltins x) → sysModules < h.objs.size → mg (Str.ofString "law") = some (.ref fa) → h.IsList l vs.toArray → IntsAre vs ns → ns.length ≤ 63 → (PyData.list (ns.map PyData.int)).layable0 = true →
    wpAny (model pw w) callerA (call (.ref fa) [.ref l]) (fun v s' => v = .bool true ∧ (∀ b o, h.get? b = some o → s'.heap.get? b = some o) ∧ s'.os = os ∧ s'.gens = #[]) (fun _ _ => False) ⟨h, #[], d, tk, os⟩

theorem holds_of (H : Hook) (said : OpenLaw.wellSaid rw0 = true)
    (left : LeftO pw qv looseN (fun _ => true) H.obs H.val 12000)
    (walk : ∀ w, Law w H.says) : rw0.Holds := by
  refine holds_law said fun said' => ?_
  refine holds_open (r := rw0.row) (q := qv) (loose := looseN) (Xt := fun _ => true) (XP := fun _ _ => True) (Yf := H.obs) (Ya := H.val) (YP := H.says) (d := lawD) (kwd := []) (N := 12000) left H.of H.keeps
    (fun _ _ => trivial) (fun _ _ _ _ _ => trivial) (by kernel_rfl) (by kernel_rfl) (by kernel_rfl) (fun s e => recFacts_nil rfl) rfl said' (by kernel_rfl) ⟨rfl, rfl, rfl, rfl, rfl, by decide +kernel⟩ ?hw ?hc
  case hw => w_witness2
  case hc =>
    intro w s₀ s₁ mg mb G Y fa o pm cd doc dV kV ho hd hcd hD hmg hg args vals as hpre hlay hrd hwl hlo
    have hlow := G.low
    have T := G.T
    wrow_args hpre hlay hrd hwl hlo
    rename_i hlay0 hr1 hl2 as1 as2 l vs as3 hL ra w1 r0 hI hr hcond' hcond
    obtain ⟨h, gens, dr, tk, os⟩ := s₁
    dsimp only at hg hlow Y T hL ⊢
    subst hg
    refine wpAny_mono ((walk w).go dr os tk h fa l vs _ mg mb Y T.g T.b T.nolimit T.builtins hlow hmg hL hI (by omega) hlay0) (fun v s' hv => ?_) (fun _ _ x => x.elim)
    obtain ⟨rfl, hk, hos, hg'⟩ := hv
    exact GoodW.toG ⟨.inl ⟨_, .bool true, [], rfl, fun _ => rfl, .bool true, (by kernel_rfl), fun _ => ⟨.nil, fun _ ha => nomatch ha⟩⟩, hk, hos, hg'⟩
end Mine
end
section
open PySem PySem.W PySem.Calls PyProof.Rows
set_option Elab.async false
set_option maxRecDepth 100000
namespace Mine
noncomputable abbrev so (s : String) : Str := Str.ofString s
noncomputable abbrev en (P : Params) (s : String) (t : Nat) (v : Value) : DictEntry := ⟨PyData.keyHash P (Str.ofString s), .str (Str.ofString s) t, v⟩
noncomputable def stm (i : Nat) : Stmt := (pw.main.body[i]?).getD (.Pass ⟨0,0,0,0⟩)
noncomputable def sub : Stmt → Nat → Stmt
  | .ClassDef (body := b) .., j => (b[j]?).getD (.Pass ⟨0,0,0,0⟩)
  | s, _ => s
noncomputable abbrev fno (d : DefRec) (qual : Str) (dV pm : Value) (c : Addr) : Obj := ⟨.type "function", none, .func (fnOf d.name qual d.params d.body d.scope dV .none .none pm none (.ref c) .none), #[]⟩
noncomputable def d_least : DefRec := recOf (stm 7)
noncomputable def d_greatest : DefRec := recOf (stm 8)
noncomputable def d_Ref_init : DefRec := recOf (sub (stm 10) 0)
noncomputable def d_Absent_init : DefRec := recOf (sub (stm 11) 0)
noncomputable def d_Obj_init : DefRec := recOf (sub (stm 12) 0)
noncomputable def d_deref : DefRec := recOf (stm 13)
noncomputable def d_Arr_init : DefRec := recOf (sub (stm 15) 0)
noncomputable def d_Arr_find : DefRec := recOf (sub (stm 15) 1)
noncomputable def d_Arr_has : DefRec := recOf (sub (stm 15) 2)
noncomputable def d_Arr_slot : DefRec := recOf (sub (stm 15) 3)
noncomputable def d_Arr_put : DefRec := recOf (sub (stm 15) 5)
noncomputable def d_Arr_key_at : DefRec := recOf (sub (stm 15) 8)
noncomputable def d_is_living : DefRec := recOf (stm 16)
noncomputable def d_hash_of : DefRec := recOf (stm 17)
noncomputable def d_link : DefRec := recOf (stm 18)
noncomputable def d_chains : DefRec := recOf (stm 19)
noncomputable def d_many_ahead : DefRec := recOf (stm 20)
noncomputable def d_rehash : DefRec := recOf (stm 21)
noncomputable def d_to_hash : DefRec := recOf (stm 22)
noncomputable def d_takes_packed : DefRec := recOf (stm 23)
noncomputable def d_add_packed : DefRec := recOf (stm 24)
noncomputable def d_add_hashed : DefRec := recOf (stm 25)
noncomputable def d_add : DefRec := recOf (stm 26)
noncomputable def d_slots_of : DefRec := recOf (stm 28)
noncomputable def d_from_pairs : DefRec := recOf (stm 29)
noncomputable def d_kind : DefRec := recOf (stm 31)
noncomputable def d_given : DefRec := recOf (stm 32)
noncomputable def d_type_word : DefRec := recOf (stm 33)
noncomputable def d_same : DefRec := recOf (stm 34)
noncomputable def d_same_at : DefRec := recOf (stm 35)
noncomputable def d_same_arrays : DefRec := recOf (stm 36)
noncomputable def d_plain : DefRec := recOf (stm 38)
noncomputable def d_plain_at : DefRec := recOf (stm 39)
noncomputable def d_lower : DefRec := recOf (stm 40)
noncomputable def d_Frame_init : DefRec := recOf (sub (stm 44) 0)
noncomputable def d_Host_init : DefRec := recOf (sub (stm 46) 0)
noncomputable def d_Klass_init : DefRec := recOf (sub (stm 48) 0)
noncomputable def d_to_bool : DefRec := recOf (stm 59)
noncomputable def d_sign_of : DefRec := recOf (stm 66)
noncomputable def d_check_depth : DefRec := recOf (stm 69)
noncomputable def d_compare_objects : DefRec := recOf (stm 71)
noncomputable def d_compare : DefRec := recOf (stm 75)
noncomputable def d_equal_arrays : DefRec := recOf (stm 76)
noncomputable def d_loose_equal : DefRec := recOf (stm 77)
noncomputable def d__law_digit : DefRec := recOf (stm 79)
noncomputable def d__law_first : DefRec := recOf (stm 80)
noncomputable def d__law_word : DefRec := recOf (stm 81)
noncomputable def d__law_leaf : DefRec := recOf (stm 82)
noncomputable def d__law_turned : DefRec := recOf (stm 83)
noncomputable def d__law_made : DefRec := recOf (stm 84)
noncomputable def d__law_shape : DefRec := recOf (stm 85)
noncomputable def d__law_words_right : DefRec := recOf (stm 86)
noncomputable def d__law_is_equivalence : DefRec := recOf (stm 87)
noncomputable def d__law_are_right : DefRec := recOf (stm 88)
noncomputable def d__law_ring_right : DefRec := recOf (stm 89)
noncomputable def d_law : DefRec := recOf (stm 90)
noncomputable def KK (P : Params) : Frag := [
  (3, ({ cls := .type "dict", data := .dict #[en P "__name__" 165 (.str (so "law_pq0864_01") 1231), en P "__doc__" 166 (.none), en P "__package__" 167 (.none), en P "__loader__" 168 (.builtin "__main__.__loader__#opaque"), en P "__spec__" 169 (.none), en P "__annotations__" 170 (.ref 6), en P "__builtins__" 171 (.ref 4), en P "__file__" 173 (.str (so "/claim/cut.py") 172), en P "__cached__" 174 (.none), en P "_wall" 193 (.ref 21), en P "PhpFault" 224 (.ref 38), en P "LeftOut" 240 (.ref 51), en P "Misused" 256 (.ref 63), en P "Thrown" 293 (.ref 83), en P "error" 300 (.ref 93), en P "least" 306 (.ref 100), en P "greatest" 312 (.ref 107), en P "Ref" 345 (.ref 125), en P "Absent" 374 (.ref 147), en P "Obj" 410 (.ref 168), en P "deref" 417 (.ref 179), en P "Arr" 528 (.ref 253), en P "is_living" 536 (.ref 264), en P "hash_of" 545 (.ref 271), en P "link" 554 (.ref 278), en P "chains" 562 (.ref 285), en P "many_ahead" 568 (.ref 290), en P "rehash" 574 (.ref 295), en P "to_hash" 581 (.ref 302), en P "takes_packed" 589 (.ref 309), en P "add_packed" 598 (.ref 316), en P "add_hashed" 608 (.ref 323), en P "add" 617 (.ref 330), en P "marked" 624 (.ref 337), en P "slots_of" 630 (.ref 342), en P "from_pairs" 640 (.ref 349), en P "kind" 649 (.ref 356), en P "given" 656 (.ref 363), en P "type_word" 664 (.ref 370), en P "same" 672 (.ref 377), en P "same_at" 682 (.ref 384), en P "same_arrays" 697 (.ref 391), en P "compare_texts" 705 (.ref 398), en P "plain" 712 (.ref 405), en P "plain_at" 724 (.ref 412), en P "lower" 733 (.ref 419), en P "is_subclass" 743 (.ref 426), en P "instance_of" 751 (.ref 433), en P "Frame" 790 (.ref 451), en P "Host" 930 (.ref 550), en P "Klass" 979 (.ref 571), en P "is_digit" 989 (.ref 582), en P "digits_behind" 997 (.ref 589), en P "digits_value" 1008 (.ref 596), en P "signed" 1017 (.ref 603), en P "exponent_behind" 1026 (.ref 610), en P "blanks_behind" 1034 (.ref 617), en P "numeric" 1047 (.ref 624), en P "number_of" 1055 (.ref 631), en P "to_bool" 1065 (.ref 638), en P "int_text" 1072 (.ref 645), en P "object_as_one" 1080 (.ref 652), en P "to_int" 1089 (.ref 659), en P "to_text" 1098 (.ref 666), en P "check_plain" 1105 (.ref 673), en P "sign_of" 1115 (.ref 680), en P "smart" 1123 (.ref 687), en P "int_against" 1131 (.ref 694), en P "check_depth" 1138 (.ref 701), en P "has_text" 1146 (.ref 708), en P "compare_objects" 1160 (.ref 715), en P "object_against" 1170 (.ref 722), en P "compare_arrays" 1183 (.ref 729), en P "compare_scalars" 1192 (.ref 736), en P "compare" 1205 (.ref 744), en P "equal_arrays" 1217 (.ref 751), en P "loose_equal" 1230 (.ref 759), en P "_law_digit" 1241 (.ref 766), en P "_law_first" 1249 (.ref 773), en P "_law_word" 1256 (.ref 780), en P "_law_leaf" 1266 (.ref 787), en P "_law_turned" 1272 (.ref 792), en P "_law_made" 1285 (.ref 799), en P "_law_shape" 1291 (.ref 804), en P "_law_words_right" 1300 (.ref 811), en P "_law_is_equivalence" 1310 (.ref 818), en P "_law_are_right" 1316 (.ref 823), en P "_law_ring_right" 1322 (.ref 828), en P "law" 1328 (.ref 833)] 89 } : Obj)),
  (100, (fno d_least (so "least") (.none) (.str (so "phpcore.faults") 194) 99 : Obj)),
  (107, (fno d_greatest (so "greatest") (.none) (.str (so "phpcore.faults") 194) 106 : Obj)),
  (115, ({ cls := .type "tuple", data := .seq #[.none] } : Obj)),
  (122, (fno d_Ref_init (so "Ref.__init__") (.ref 115) (.str (so "phpcore.slots") 313) 121 : Obj)),
  (124, ({ cls := .type "dict", data := .dict #[en P "__module__" 322 (.str (so "phpcore.slots") 313), en P "__firstlineno__" 326 (.int 30 325), en P "__init__" 334 (.ref 122), en P "__static_attributes__" 338 (.ref 123), en P "__dict__" 340 (.ref 126), en P "__weakref__" 342 (.ref 127), en P "__doc__" 343 (.none)] 4 } : Obj)),
  (125, ({ cls := .type "type", data := .cls { name := so "Ref", bases := [.type "object"], mro := [.ref 125, .type "object"], ns := 124, qualname := so "Ref" }, slots := #[none, none, some (.str (so "Ref") 315), some (.str (so "Ref") 323), some (.builtin "object.__new__"), some (.bool true)] } : Obj)),
  (137, ({ cls := .type "tuple", data := .seq #[.bool false] } : Obj)),
  (144, (fno d_Absent_init (so "Absent.__init__") (.ref 137) (.str (so "phpcore.slots") 313) 143 : Obj)),
  (146, ({ cls := .type "dict", data := .dict #[en P "__module__" 353 (.str (so "phpcore.slots") 313), en P "__firstlineno__" 357 (.int 36 356), en P "__init__" 365 (.ref 144), en P "__static_attributes__" 367 (.ref 145), en P "__dict__" 369 (.ref 148), en P "__weakref__" 371 (.ref 149), en P "__doc__" 372 (.none)] 4 } : Obj)),
  (147, ({ cls := .type "type", data := .cls { name := so "Absent", bases := [.type "object"], mro := [.ref 147, .type "object"], ns := 146, qualname := so "Absent" }, slots := #[none, none, some (.str (so "Absent") 346), some (.str (so "Absent") 354), some (.builtin "object.__new__"), some (.bool true)] } : Obj)),
  (165, (fno d_Obj_init (so "Obj.__init__") (.none) (.str (so "phpcore.slots") 313) 164 : Obj)),
  (167, ({ cls := .type "dict", data := .dict #[en P "__module__" 382 (.str (so "phpcore.slots") 313), en P "__firstlineno__" 386 (.int 40 385), en P "__init__" 395 (.ref 165), en P "__static_attributes__" 403 (.ref 166), en P "__dict__" 405 (.ref 169), en P "__weakref__" 407 (.ref 170), en P "__doc__" 408 (.none)] 4 } : Obj)),
  (168, ({ cls := .type "type", data := .cls { name := so "Obj", bases := [.type "object"], mro := [.ref 168, .type "object"], ns := 167, qualname := so "Obj" }, slots := #[none, none, some (.str (so "Obj") 375), some (.str (so "Obj") 383), some (.builtin "object.__new__"), some (.bool true)] } : Obj)),
  (179, (fno d_deref (so "deref") (.none) (.str (so "phpcore.slots") 313) 178 : Obj)),
  (187, ({ cls := .type "tuple", data := .seq #[.int 8 432] } : Obj)),
  (194, (fno d_Arr_init (so "Arr.__init__") (.ref 187) (.str (so "phpcore.table") 418) 193 : Obj)),
  (201, (fno d_Arr_find (so "Arr.find") (.none) (.str (so "phpcore.table") 418) 200 : Obj)),
  (208, (fno d_Arr_has (so "Arr.has") (.none) (.str (so "phpcore.table") 418) 207 : Obj)),
  (215, (fno d_Arr_slot (so "Arr.slot") (.none) (.str (so "phpcore.table") 418) 214 : Obj)),
  (229, (fno d_Arr_put (so "Arr.put") (.none) (.str (so "phpcore.table") 418) 228 : Obj)),
  (250, (fno d_Arr_key_at (so "Arr.key_at") (.none) (.str (so "phpcore.table") 418) 249 : Obj)),
  (252, ({ cls := .type "dict", data := .dict #[en P "__module__" 427 (.str (so "phpcore.table") 418), en P "__firstlineno__" 431 (.int 57 430), en P "__init__" 440 (.ref 194), en P "find" 449 (.ref 201), en P "has" 457 (.ref 208), en P "slot" 466 (.ref 215), en P "get" 474 (.ref 222), en P "put" 484 (.ref 229), en P "append" 493 (.ref 236), en P "drop" 501 (.ref 243), en P "key_at" 509 (.ref 250), en P "__static_attributes__" 521 (.ref 251), en P "__dict__" 523 (.ref 254), en P "__weakref__" 525 (.ref 255), en P "__doc__" 526 (.none)] 4 } : Obj)),
  (253, ({ cls := .type "type", data := .cls { name := so "Arr", bases := [.type "object"], mro := [.ref 253, .type "object"], ns := 252, qualname := so "Arr" }, slots := #[none, none, some (.str (so "Arr") 420), some (.str (so "Arr") 428), some (.builtin "object.__new__"), some (.bool true)] } : Obj)),
  (264, (fno d_is_living (so "is_living") (.none) (.str (so "phpcore.table") 418) 263 : Obj)),
  (271, (fno d_hash_of (so "hash_of") (.none) (.str (so "phpcore.table") 418) 270 : Obj)),
  (278, (fno d_link (so "link") (.none) (.str (so "phpcore.table") 418) 277 : Obj)),
  (285, (fno d_chains (so "chains") (.none) (.str (so "phpcore.table") 418) 284 : Obj)),
  (290, (fno d_many_ahead (so "many_ahead") (.none) (.str (so "phpcore.table") 418) 289 : Obj)),
  (295, (fno d_rehash (so "rehash") (.none) (.str (so "phpcore.table") 418) 294 : Obj)),
  (302, (fno d_to_hash (so "to_hash") (.none) (.str (so "phpcore.table") 418) 301 : Obj)),
  (309, (fno d_takes_packed (so "takes_packed") (.none) (.str (so "phpcore.table") 418) 308 : Obj)),
  (316, (fno d_add_packed (so "add_packed") (.none) (.str (so "phpcore.table") 418) 315 : Obj)),
  (323, (fno d_add_hashed (so "add_hashed") (.none) (.str (so "phpcore.table") 418) 322 : Obj)),
  (330, (fno d_add (so "add") (.none) (.str (so "phpcore.table") 418) 329 : Obj)),
  (342, (fno d_slots_of (so "slots_of") (.none) (.str (so "phpcore.table") 418) 341 : Obj)),
  (349, (fno d_from_pairs (so "from_pairs") (.none) (.str (so "phpcore.table") 418) 348 : Obj)),
  (356, (fno d_kind (so "kind") (.none) (.str (so "phpcore.values") 641) 355 : Obj)),
  (363, (fno d_given (so "given") (.none) (.str (so "phpcore.values") 641) 362 : Obj)),
  (370, (fno d_type_word (so "type_word") (.none) (.str (so "phpcore.values") 641) 369 : Obj)),
  (377, (fno d_same (so "same") (.none) (.str (so "phpcore.values") 641) 376 : Obj)),
  (384, (fno d_same_at (so "same_at") (.none) (.str (so "phpcore.values") 641) 383 : Obj)),
  (391, (fno d_same_arrays (so "same_arrays") (.none) (.str (so "phpcore.values") 641) 390 : Obj)),
  (405, (fno d_plain (so "plain") (.none) (.str (so "phpcore.values") 641) 404 : Obj)),
  (412, (fno d_plain_at (so "plain_at") (.none) (.str (so "phpcore.values") 641) 411 : Obj)),
  (419, (fno d_lower (so "lower") (.none) (.str (so "phpcore.values") 641) 418 : Obj)),
  (441, ({ cls := .type "tuple", data := .seq #[.none, .none, .none, .none] } : Obj)),
  (448, (fno d_Frame_init (so "Frame.__init__") (.ref 441) (.str (so "phpcore.frames") 752) 447 : Obj)),
  (450, ({ cls := .type "dict", data := .dict #[en P "__module__" 761 (.str (so "phpcore.frames") 752), en P "__firstlineno__" 765 (.int 273 764), en P "__init__" 776 (.ref 448), en P "__static_attributes__" 783 (.ref 449), en P "__dict__" 785 (.ref 452), en P "__weakref__" 787 (.ref 453), en P "__doc__" 788 (.none)] 4 } : Obj)),
  (451, ({ cls := .type "type", data := .cls { name := so "Frame", bases := [.type "object"], mro := [.ref 451, .type "object"], ns := 450, qualname := so "Frame" }, slots := #[none, none, some (.str (so "Frame") 754), some (.str (so "Frame") 762), some (.builtin "object.__new__"), some (.bool true)] } : Obj)),
  (463, ({ cls := .type "tuple", data := .seq #[.int 12 805, .none] } : Obj)),
  (470, (fno d_Host_init (so "Host.__init__") (.ref 463) (.str (so "phpcore.host") 791) 469 : Obj)),
  (549, ({ cls := .type "dict", data := .dict #[en P "__module__" 800 (.str (so "phpcore.host") 791), en P "__firstlineno__" 804 (.int 283 803), en P "__init__" 814 (.ref 470), en P "tool" 822 (.ref 477), en P "warn" 831 (.ref 484), en P "echo" 839 (.ref 491), en P "spend" 846 (.ref 498), en P "eval" 854 (.ref 505), en P "exec" 862 (.ref 512), en P "call" 871 (.ref 519), en P "method" 881 (.ref 526), en P "new_handle" 888 (.ref 533), en P "enter" 895 (.ref 540), en P "leave" 902 (.ref 547), en P "__static_attributes__" 923 (.ref 548), en P "__dict__" 925 (.ref 551), en P "__weakref__" 927 (.ref 552), en P "__doc__" 928 (.none)] 4 } : Obj)),
  (550, ({ cls := .type "type", data := .cls { name := so "Host", bases := [.type "object"], mro := [.ref 550, .type "object"], ns := 549, qualname := so "Host" }, slots := #[none, none, some (.str (so "Host") 793), some (.str (so "Host") 801), some (.builtin "object.__new__"), some (.bool true)] } : Obj)),
  (568, (fno d_Klass_init (so "Klass.__init__") (.none) (.str (so "phpcore.klass") 931) 567 : Obj)),
  (570, ({ cls := .type "dict", data := .dict #[en P "__module__" 940 (.str (so "phpcore.klass") 931), en P "__firstlineno__" 944 (.int 343 943), en P "__init__" 953 (.ref 568), en P "__static_attributes__" 972 (.ref 569), en P "__dict__" 974 (.ref 572), en P "__weakref__" 976 (.ref 573), en P "__doc__" 977 (.none)] 4 } : Obj)),
  (571, ({ cls := .type "type", data := .cls { name := so "Klass", bases := [.type "object"], mro := [.ref 571, .type "object"], ns := 570, qualname := so "Klass" }, slots := #[none, none, some (.str (so "Klass") 933), some (.str (so "Klass") 941), some (.builtin "object.__new__"), some (.bool true)] } : Obj)),
  (638, (fno d_to_bool (so "to_bool") (.none) (.str (so "phpcore.convert") 1056) 637 : Obj)),
  (680, (fno d_sign_of (so "sign_of") (.none) (.str (so "phpcore.likeness") 1106) 679 : Obj)),
  (701, (fno d_check_depth (so "check_depth") (.none) (.str (so "phpcore.likeness") 1106) 700 : Obj)),
  (715, (fno d_compare_objects (so "compare_objects") (.none) (.str (so "phpcore.likeness") 1106) 714 : Obj)),
  (737, ({ cls := .type "tuple", data := .seq #[.int 0 1193] } : Obj)),
  (744, (fno d_compare (so "compare") (.ref 737) (.str (so "phpcore.likeness") 1106) 743 : Obj)),
  (751, (fno d_equal_arrays (so "equal_arrays") (.none) (.str (so "phpcore.likeness") 1106) 750 : Obj)),
  (752, ({ cls := .type "tuple", data := .seq #[.int 0 1218] } : Obj)),
  (759, (fno d_loose_equal (so "loose_equal") (.ref 752) (.str (so "phpcore.likeness") 1106) 758 : Obj)),
  (766, (fno d__law_digit (so "_law_digit") (.none) (.str (so "law_pq0864_01") 1231) 765 : Obj)),
  (773, (fno d__law_first (so "_law_first") (.none) (.str (so "law_pq0864_01") 1231) 772 : Obj)),
  (780, (fno d__law_word (so "_law_word") (.none) (.str (so "law_pq0864_01") 1231) 779 : Obj)),
  (787, (fno d__law_leaf (so "_law_leaf") (.none) (.str (so "law_pq0864_01") 1231) 786 : Obj)),
  (792, (fno d__law_turned (so "_law_turned") (.none) (.str (so "law_pq0864_01") 1231) 791 : Obj)),
  (799, (fno d__law_made (so "_law_made") (.none) (.str (so "law_pq0864_01") 1231) 798 : Obj)),
  (804, (fno d__law_shape (so "_law_shape") (.none) (.str (so "law_pq0864_01") 1231) 803 : Obj)),
  (811, (fno d__law_words_right (so "_law_words_right") (.none) (.str (so "law_pq0864_01") 1231) 810 : Obj)),
  (818, (fno d__law_is_equivalence (so "_law_is_equivalence") (.none) (.str (so "law_pq0864_01") 1231) 817 : Obj)),
  (823, (fno d__law_are_right (so "_law_are_right") (.none) (.str (so "law_pq0864_01") 1231) 822 : Obj)),
  (828, (fno d__law_ring_right (so "_law_ring_right") (.none) (.str (so "law_pq0864_01") 1231) 827 : Obj)),
  (833, (fno d_law (so "law") (.none) (.str (so "law_pq0864_01") 1231) 832 : Obj))]
noncomputable def codes : List (Addr × Str) := [(99, so "least"), (106, so "greatest"), (121, so "Ref.__init__"), (143, so "Absent.__init__"), (164, so "Obj.__init__"), (178, so "deref"), (193, so "Arr.__init__"), (200, so "Arr.find"), (207, so "Arr.has"), (214, so "Arr.slot"), (228, so "Arr.put"), (249, so "Arr.key_at"), (263, so "is_living"), (270, so "hash_of"), (277, so "link"), (284, so "chains"), (289, so "many_ahead"), (294, so "rehash"), (301, so "to_hash"), (308, so "takes_packed"), (315, so "add_packed"), (322, so "add_hashed"), (329, so "add"), (341, so "slots_of"), (348, so "from_pairs"), (355, so "kind"), (362, so "given"), (369, so "type_word"), (376, so "same"), (383, so "same_at"), (390, so "same_arrays"), (404, so "plain"), (411, so "plain_at"), (418, so "lower"), (447, so "Frame.__init__"), (469, so "Host.__init__"), (567, so "Klass.__init__"), (637, so "to_bool"), (679, so "sign_of"), (700, so "check_depth"), (714, so "compare_objects"), (743, so "compare"), (750, so "equal_arrays"), (758, so "loose_equal"), (765, so "_law_digit"), (772, so "_law_first"), (779, so "_law_word"), (786, so "_law_leaf"), (791, so "_law_turned"), (798, so "_law_made"), (803, so "_law_shape"), (810, so "_law_words_right"), (817, so "_law_is_equivalence"), (822, so "_law_are_right"), (827, so "_law_ring_right"), (832, so "law")]
end Mine
end
section
open PySem PySem.W PySem.Calls PyProof.Rows
set_option Elab.async false
set_option maxRecDepth 100000
namespace Mine
noncomputable def asK : List Addr := (KK { strHash := fun _ => 0, shareClass := fun _ => 0, mergeTok := id, idOf := fun _ => 0, idOfShared := fun _ _ => 0, followText := fun _ => false, idOfImm := fun _ => 0 }).map (·.1)
theorem asK_eq (P : Params) : asK = (KK P).map (·.1) := by kernel_rfl
noncomputable def codeOk (h : Heap) (c : Addr) (q : Str) : Bool := match h.get? c with
  | some ⟨_, _, .fields vs, _⟩ => (match vs.toList with
    | _ :: .str n _ :: _ => n == q
    | _ => false)
  | _ => false
theorem codeOk_rec {h : Heap} {c : Addr} {q : Str} (e : codeOk h c q = true) : h.CodeRec (.ref c) q := by
  unfold codeOk at e
  split at e
  · split at e
    · rename_i vs _ ho _ a n t r hv
      exact ⟨_, _, vs, t, rfl, ho, rfl, by rw [← Array.getElem?_toList, hv, ← beq_iff_eq.mp e]; rfl⟩
    · cases e
  · cases e
noncomputable def Says (w : World) (h : Heap) : Prop := (KK w.params).In h ∧ ∀ x ∈ codes, h.CodeRec (.ref x.1) x.2
noncomputable def hook : Hook where
  α := List (Option Obj) × List Bool
  obs := fun s => (asK.map s.heap.get?, codes.map fun x => codeOk s.heap x.1 x.2)
  val := fun w => ((KK w.params).map fun p => some p.2, codes.map fun _ => true)
  says := Says
  of := fun w s e => ⟨Frag.in_of (asK_eq w.params) (congrArg Prod.fst e), fun x hx => codeOk_rec (by
    have e2 : codes.map (fun x => codeOk s.heap x.1 x.2) = codes.map fun _ => true := congrArg Prod.snd e
    exact List.map_inj_left.mp e2 x hx)⟩
  keeps := fun w h h' x k => ⟨x.1.keeps k, fun y hy => (x.2 y hy).keeps k⟩

theorem fast_step : @stepT = PySem.W.Fast.tw10156331382660048174 := PySem.W.Fast.te10156331382660048174
theorem fast_den : @denote = PySem.W.Fast.tw11892475500146522536 := PySem.W.Fast.te11892475500146522536
theorem fast_tab : @treeTable = PySem.W.Fast.tw14364793385576792824 := PySem.W.Fast.te14364793385576792824
theorem fast_ok : @stepOk = PySem.W.Fast.tw6613529449190102663 := PySem.W.Fast.te6613529449190102663
theorem fast_seen : @openSeen = PySem.W.Fast.tw4187177175401517315 := PySem.W.Fast.te4187177175401517315
theorem fast_well : @OpenLaw.wellSaid = PySem.W.Fast.tw9446332074065402090 := PySem.W.Fast.te9446332074065402090

theorem top_checks (w : World) (os : OsState) : (runS (PySem.W.Fast.tw6613529449190102663 11 (some (.ref 6))) (PySem.W.Fast.tw10156331382660048174 (PySem.W.Fast.tw11892475500146522536 PySem.W.Fast.tw14364793385576792824) pw w) 12000 (startT w os) (topStub pw)).map (fun s =>
      ((staticsOk (importedModules pw.main.body) (boot_heap w.params) s.abs.heap && namesBound pw s.abs.heap && gensDone s.abs && laidKept (boot_heap w.params) s.abs.heap),
        PySem.W.Fast.tw4187177175401517315 qv looseN (importedModules pw.main.body) (fun _ => true) true s.abs, hook.obs s.abs)) = some (true, openGood qv looseN, hook.val w) := by kernel_rfl
theorem left : LeftO pw qv looseN (fun _ => true) hook.obs hook.val 12000 := by
  refine left_whole (by kernel_rfl) (by decide) (fun s => rfl) (fun P => ⟨by kernel_rfl, by kernel_rfl⟩) fun w os => ?_
  rw [fast_step, fast_den, fast_tab, fast_ok, fast_seen]
  exact top_checks w os
theorem said : OpenLaw.wellSaid rw0 = true := by
  rw [fast_well]
  kernel_rfl
theorem holds_from (walk : ∀ w, Law w Says) : rw0.Holds := holds_of hook said left walk
end Mine
end
section
open PySem PySem.W PySem.Calls PyProof.Rows
set_option Elab.async false
set_option maxRecDepth 100000
namespace Mine

/-- what stays fixed during the law's call -/
structure Cx where
  w : World
  d : Drawn
  os : OsState
  h0 : Heap
  mg : Str → Option Value
  mb : Str → Option Value
  says : Says w h0
  g : h0.Ns mainGlobals mg
  b : h0.Ns builtinsNs mb
  lim : h0.NoLimit
  blt : ∀ x : Str, x ≠ "__name__" → mb x = bootBuiltins x
  low : sysModules < h0.objs.size

noncomputable abbrev PM := Addr → Option Obj
noncomputable def Emb (u : PM) (h : Heap) : Prop := ∀ a o, u a = some o → h.get? a = some o
structure Base (c : Cx) (h : Heap) : Prop where
  keep : ∀ b o, c.h0.get? b = some o → h.get? b = some o
noncomputable def Kp (u : PM) (h h' : Heap) (u' : PM) : Prop := ∀ b o, u b = none → h.get? b = some o → h'.get? b = some o ∧ u' b = none
noncomputable abbrev sh (c : Cx) (h : Heap) (tk : Nat) : Shared := ⟨h, #[], c.d, tk, c.os⟩
noncomputable abbrev MM (c : Cx) : Model := model pw c.w
noncomputable def no : Value → Shared → Prop := fun _ _ => False

theorem h0new {c : Cx} {h : Heap} (B : Base c h) {a : Addr} (ha : h.objs.size ≤ a) : c.h0.get? a = none := by
  cases e : c.h0.get? a with
  | none => rfl
  | some o => exact absurd (Heap.lt_size (B.keep _ _ e)) (Nat.not_lt.mpr ha)

structure Out {α : Type} (c : Cx) (u : PM) (h : Heap) (Q : α → PM → Prop) (v : α) (s' : Shared) (h' : Heap) (tk' : Nat) (u' : PM) : Prop where
  e : s' = sh c h' tk'
  q : Q v u'
  emb : Emb u' h'
  base : Base c h'
  kp : Kp u h h' u'
noncomputable def OutX {α : Type} (c : Cx) (u : PM) (h : Heap) (Q : α → PM → Prop) (v : α) (s' : Shared) : Prop := ∃ h' tk' u', Out c u h Q v s' h' tk' u'

/-- t runs from every heap that holds u; what is not in u is kept -/
noncomputable def RU {α : Type} (c : Cx) (A : Around) (t : Sem α) (u : PM) (Q : α → PM → Prop) : Prop :=
  ∀ h tk, Base c h → Emb u h → wpAny (MM c) A t (OutX c u h Q) no (sh c h tk)

theorem Kp.trans {u u1 u2 : PM} {h h1 h2 : Heap} (x : Kp u h h1 u1) (y : Kp u1 h1 h2 u2) : Kp u h h2 u2 := fun b o e1 e2 => let ⟨a1, a2⟩ := x b o e1 e2; y b o a2 a1
theorem Kp.refl (u : PM) (h : Heap) : Kp u h h u := fun _ _ e1 e2 => ⟨e2, e1⟩
theorem emb_lt {u : PM} {h : Heap} (E : Emb u h) {a : Addr} {o : Obj} (e : u a = some o) : a < h.objs.size := Heap.lt_size (E a o e)
theorem emb_new {u : PM} {h : Heap} (E : Emb u h) : u h.objs.size = none := by
  cases e : u h.objs.size with
  | none => rfl
  | some o => exact absurd (emb_lt E e) (Nat.lt_irrefl _)

section
variable {α β : Type} {c : Cx} {A : Around} {u : PM}
theorem OutX.mk {h : Heap} {Q : α → PM → Prop} {v : α} {h' : Heap} {tk' : Nat} {u' : PM} (q : Q v u') (emb : Emb u' h') (base : Base c h') (kp : Kp u h h' u') : OutX c u h Q v (sh c h' tk') := ⟨h', tk', u', rfl, q, emb, base, kp⟩
theorem OutX.same {h : Heap} {Q : α → PM → Prop} {v : α} {tk' : Nat} (q : Q v u) (emb : Emb u h) (base : Base c h) : OutX c u h Q v (sh c h tk') := ⟨h, tk', u, rfl, q, emb, base, Kp.refl _ _⟩
theorem RU.pure {v : α} {Q : α → PM → Prop} (q : Q v u) : RU c A (pure v) u Q := fun _ _ B E => wpAny_pure (OutX.same q E B)
theorem RU.bind {m : Sem α} {f : α → Sem β} {Q : β → PM → Prop} (x : RU c A m u (fun a u1 => RU c A (f a) u1 Q)) : RU c A (m >>= f) u Q := fun h tk B E =>
  wpAny_bind (wpAny_mono (x h tk B E) (fun a s' z => by
    obtain ⟨h1, tk1, u1, rfl, q, E1, B1, K1⟩ := z
    exact wpAny_mono (q h1 tk1 B1 E1) (fun v s'' z => by
      obtain ⟨h2, tk2, u2, rfl, q, E2, B2, K2⟩ := z
      exact ⟨h2, tk2, u2, rfl, q, E2, B2, K1.trans K2⟩) fun _ _ x => x) fun _ _ x => x)
theorem RU.mono {t : Sem α} {Q Q' : α → PM → Prop} (x : RU c A t u Q) (y : ∀ v u', Q v u' → Q' v u') : RU c A t u Q' := fun h tk B E =>
  wpAny_mono (x h tk B E) (fun _ _ ⟨h', tk', u', e, q, E', B', K'⟩ => ⟨h', tk', u', e, y _ _ q, E', B', K'⟩) fun _ _ x => x
/-- a rule of the library that leaves the heap as it is -/
theorem RU.still {t : Sem α} {Q : α → PM → Prop} (v : α) (q : Q v u)
    (x : ∀ (h : Heap) (tk : Nat) (P : α → Shared → Prop), Base c h → Emb u h → (∀ tk', P v (sh c h tk')) → wpAny (MM c) A t P no (sh c h tk)) : RU c A t u Q := fun h tk B E =>
  x h tk _ B E fun _ => OutX.same q E B
end

/-- locals by slots -/
noncomputable def slot : List Str → List (Option Value) → Str → Option Value
  | n :: ns, v :: vs, x => if n = x then v else slot ns vs x
  | _, _, _ => none
noncomputable def nth : List (Option Value) → Nat → Option Value
  | v :: _, 0 => v
  | _ :: vs, n + 1 => nth vs n
  | [], _ => none
noncomputable def setN : List (Option Value) → Nat → Value → List (Option Value)
  | _ :: vs, 0, w => some w :: vs
  | v :: vs, n + 1, w => v :: setN vs n w
  | [], _, _ => []
noncomputable def idx : List Str → Str → Option Nat
  | n :: ns, x => if n = x then some 0 else (idx ns x).map (· + 1)
  | [], _ => none
theorem slot_nth : ∀ {ns : List Str} {vs : List (Option Value)} {x : Str} {i : Nat}, idx ns x = some i → slot ns vs x = nth vs i
  | [], _, _, _, h => by cases h
  | n :: ns, [], x, i, h => by cases i <;> rfl
  | n :: ns, v :: vs, x, i, h => by
    unfold idx at h
    unfold slot
    by_cases e : n = x
    · rw [if_pos e] at h ⊢; cases h; rfl
    · rw [if_neg e] at h ⊢
      obtain ⟨j, hj, rfl⟩ := Option.map_eq_some_iff.mp h
      exact slot_nth hj
theorem slot_set : ∀ {ns : List Str} {vs : List (Option Value)} {x : Str} {i : Nat} {w : Value}, idx ns x = some i → (nth vs i).isSome = true ∨ i < vs.length → ∀ y, slot ns (setN vs i w) y = if y = x then some w else slot ns vs y
  | [], _, _, _, _, h, _, _ => by cases h
  | n :: ns, [], x, i, w, h, hl, y => by rcases hl with hl | hl <;> cases i <;> simp [nth] at hl
  | n :: ns, v :: vs, x, i, w, h, hl, y => by
    unfold idx at h
    by_cases e : n = x
    · rw [if_pos e] at h; cases h
      subst e
      show slot (n :: ns) (some w :: vs) y = if y = n then some w else slot (n :: ns) (v :: vs) y
      unfold slot
      by_cases q : y = n
      · subst q; simp
      · rw [if_neg (Ne.symm q), if_neg q, if_neg (Ne.symm q)]
    · rw [if_neg e] at h
      obtain ⟨j, hj, rfl⟩ := Option.map_eq_some_iff.mp h
      show slot (n :: ns) (v :: setN vs j w) y = if y = x then some w else slot (n :: ns) (v :: vs) y
      have ih := slot_set (vs := vs) (w := w) hj (hl.imp (fun h => h) fun h => Nat.lt_of_succ_lt_succ h) y
      have u1 : slot (n :: ns) (v :: setN vs j w) y = if n = y then v else slot ns (setN vs j w) y := rfl
      have u2 : slot (n :: ns) (v :: vs) y = if n = y then v else slot ns vs y := rfl
      rw [u1, u2, ih]
      by_cases q : n = y
      · have : y ≠ x := fun z => e (q.trans z)
        rw [if_pos q, if_pos q, if_neg this]
      · rw [if_neg q, if_neg q]
theorem setN_len : ∀ (vs : List (Option Value)) (i : Nat) (w : Value), (setN vs i w).length = vs.length
  | [], i, w => by cases i <;> rfl
  | v :: vs, 0, w => rfl
  | v :: vs, i + 1, w => by show (setN vs i w).length + 1 = vs.length + 1; rw [setN_len]

structure EnvOk (sc : Scope) (env : Env) : Prop where
  isSc : env.scope = sc
  gl : env.globals = mainGlobals
  bl : env.builtins = builtinsNs
  k : sc.kind = .function
  cells : ∀ x, sc.names.lookup x = some .cell ∨ sc.names.lookup x = some .free → (env.cells.lookup x).isSome = true

structure Fm (c : Cx) (env : Env) (ns : List Str) (vs : List (Option Value)) (u : PM) (h : Heap) : Prop where
  nsm : ∃ m, h.Ns env.locals m ∧ ∀ x, env.kindOf x = some .local → m x = slot ns vs x
  len : vs.length = ns.length
  cell : ∀ x a, env.cells.lookup x = some a → ∃ o, h.get? a = some o ∧ o.data = .cell (slot ns vs x)
  offL : u env.locals = none
  offC : ∀ x a, env.cells.lookup x = some a → u a = none ∧ a ≠ env.locals ∧ c.h0.get? a = none
  inj : ∀ x y a, env.cells.lookup x = some a → env.cells.lookup y = some a → x = y
  newL : c.h0.get? env.locals = none

theorem Fm.kp {c : Cx} {env : Env} {ns : List Str} {vs : List (Option Value)} {u u' : PM} {h h' : Heap} (F : Fm c env ns vs u h) (k : Kp u h h' u') : Fm c env ns vs u' h' := by
  obtain ⟨m, hm, hs⟩ := F.nsm
  obtain ⟨oL, es, ep, hL, r⟩ := id hm
  refine ⟨⟨m, ⟨oL, es, ep, (k _ _ F.offL hL).1, r⟩, hs⟩, F.len, fun x a e => ?_, (k _ _ F.offL hL).2, fun x a e => ?_, F.inj, F.newL⟩
  · obtain ⟨o, ho, hd⟩ := F.cell x a e
    exact ⟨o, (k _ _ (F.offC x a e).1 ho).1, hd⟩
  · obtain ⟨o, ho, hd⟩ := F.cell x a e
    exact ⟨(k _ _ (F.offC x a e).1 ho).2, (F.offC x a e).2⟩

/-- an expression's run within a frame -/
noncomputable def EJ {α : Type} (c : Cx) (env : Env) (ns : List Str) (A : Around) (vs : List (Option Value)) (t : Sem α) (u : PM) (Q : α → PM → Prop) : Prop :=
  ∀ h tk, Base c h → Emb u h → Fm c env ns vs u h → wpAny (MM c) A t (OutX c u h Q) no (sh c h tk)
section
variable {α β : Type} {c : Cx} {A : Around} {u : PM} {env : Env} {ns : List Str} {vs : List (Option Value)}
theorem EJ.of {t : Sem α} {Q : α → PM → Prop} (x : RU c A t u Q) : EJ c env ns A vs t u Q := fun h tk B E _ => x h tk B E
theorem EJ.pure {v : α} {Q : α → PM → Prop} (q : Q v u) : EJ c env ns A vs (pure v) u Q := EJ.of (RU.pure q)
theorem EJ.bind {m : Sem α} {f : α → Sem β} {Q : β → PM → Prop} (x : EJ c env ns A vs m u (fun a u1 => EJ c env ns A vs (f a) u1 Q)) : EJ c env ns A vs (m >>= f) u Q := fun h tk B E F =>
  wpAny_bind (wpAny_mono (x h tk B E F) (fun a s' z => by
    obtain ⟨h1, tk1, u1, rfl, q, E1, B1, K1⟩ := z
    exact wpAny_mono (q h1 tk1 B1 E1 (F.kp K1)) (fun v s'' z => by
      obtain ⟨h2, tk2, u2, rfl, q, E2, B2, K2⟩ := z
      exact ⟨h2, tk2, u2, rfl, q, E2, B2, K1.trans K2⟩) fun _ _ x => x) fun _ _ x => x)
theorem EJ.mono {t : Sem α} {Q Q' : α → PM → Prop} (x : EJ c env ns A vs t u Q) (y : ∀ v u', Q v u' → Q' v u') : EJ c env ns A vs t u Q' := fun h tk B E F =>
  wpAny_mono (x h tk B E F) (fun _ _ ⟨h', tk', u', e, q, E', B', K'⟩ => ⟨h', tk', u', e, y _ _ q, E', B', K'⟩) fun _ _ x => x
end

/-- what a statement may touch besides u: its own frame and cells -/
noncomputable def KpS (env : Env) (u : PM) (h h' : Heap) (u' : PM) : Prop := ∀ b o, u b = none → b ≠ env.locals → (b < env.locals ∨ ∀ x, env.cells.lookup x ≠ some b) → h.get? b = some o → h'.get? b = some o ∧ u' b = none
noncomputable def OutS (c : Cx) (env : Env) (ns : List Str) (u : PM) (h : Heap) (Q : Flow → List (Option Value) → PM → Prop) (f : Flow) (s' : Shared) : Prop :=
  ∃ h' tk' u' vs', s' = sh c h' tk' ∧ Q f vs' u' ∧ Emb u' h' ∧ Base c h' ∧ Fm c env ns vs' u' h' ∧ KpS env u h h' u'
noncomputable def SJ (c : Cx) (env : Env) (ns : List Str) (A : Around) (vs : List (Option Value)) (t : Sem Flow) (u : PM) (Q : Flow → List (Option Value) → PM → Prop) : Prop :=
  ∀ h tk, Base c h → Emb u h → Fm c env ns vs u h → wpAny (MM c) A t (OutS c env ns u h Q) no (sh c h tk)
theorem KpS.trans {env : Env} {u u1 u2 : PM} {h h1 h2 : Heap} (x : KpS env u h h1 u1) (y : KpS env u1 h1 h2 u2) : KpS env u h h2 u2 := fun b o e1 e3 e4 e2 => let ⟨a1, a2⟩ := x b o e1 e3 e4 e2; y b o a2 e3 e4 a1
theorem Kp.toS {env : Env} {u u1 : PM} {h h1 : Heap} (x : Kp u h h1 u1) : KpS env u h h1 u1 := fun b o e1 _ _ e2 => x b o e1 e2

noncomputable abbrev ET := Cx → Around → List (Option Value) → PM → (Value → PM → Prop) → Prop
noncomputable abbrev BT' := Cx → Around → List (Option Value) → PM → (Bool → PM → Prop) → Prop
noncomputable abbrev LT := Cx → Around → List (Option Value) → PM → (List Value → PM → Prop) → Prop
noncomputable abbrev ST := Cx → Around → List (Option Value) → PM → (Flow → List (Option Value) → PM → Prop) → Prop
noncomputable def SimE (sc : Scope) (ns : List Str) (e : Expr) (T : ET) : Prop := ∀ c A env vs u Q, EnvOk sc env → T c A vs u Q → EJ c env ns A vs (eval e env) u Q
noncomputable def SimB (sc : Scope) (ns : List Str) (e : Expr) (T : BT') : Prop := ∀ c A env vs u Q, EnvOk sc env → T c A vs u Q → EJ c env ns A vs (isTrue e env (eval e env)) u Q
noncomputable def SimL (sc : Scope) (ns : List Str) (es : List Expr) (T : LT) : Prop := ∀ c A env vs u Q pos, EnvOk sc env → T c A vs u Q → EJ c env ns A vs (spliced (backTo pos (starEach es env))) u Q
noncomputable def SimS (sc : Scope) (ns : List Str) (s : Stmt) (T : ST) : Prop := ∀ c A env vs u Q, EnvOk sc env → T c A vs u Q → SJ c env ns A vs (exec s env) u Q
noncomputable def SimSs (sc : Scope) (ns : List Str) (s : List Stmt) (T : ST) : Prop := ∀ c A env vs u Q, EnvOk sc env → T c A vs u Q → SJ c env ns A vs (execs s env) u Q
end Mine
end
section
open PySem PySem.W PySem.Calls PyProof.Rows
set_option Elab.async false
set_option maxRecDepth 100000
namespace Mine
section
variable {α : Type} {c : Cx} {A : Around} {u : PM} {env : Env} {ns : List Str} {vs : List (Option Value)}
theorem EJ.standAt {pos : Pos} {Q : Unit → PM → Prop} (q : Q () u) : EJ c env ns A vs (standAt pos) u Q := fun _ _ B E _ => wpAny_standAt (OutX.same q E B)
theorem EJ.point {Q : Unit → PM → Prop} (q : Q () u) : EJ c env ns A vs point u Q := fun _ _ B E _ => wpAny_point (OutX.same q E B)
theorem EJ.holding {l : List Value} {m : Sem α} {Q : α → PM → Prop} (x : EJ c env ns A vs m u Q) : EJ c env ns A vs (holding l m) u Q := fun h tk B E F => wpAny_holding (x h tk B E F)
theorem EJ.keep {l : List Value} {m : Sem α} {Q : α → PM → Prop} (x : EJ c env ns A vs m u Q) : EJ c env ns A vs (m.keep l) u Q := fun h tk B E F => wpAny_keep (x h tk B E F)
theorem EJ.operate {l : List Value} {m : Sem Value} {Q : Value → PM → Prop} (x : EJ c env ns A vs m u Q) : EJ c env ns A vs (operate l m) u Q := fun h tk B E F => wpAny_operate' (x h tk B E F)
theorem EJ.release {l k : List Value} {Q : Unit → PM → Prop} (q : Q () u) : EJ c env ns A vs (release l k) u Q := fun _ _ B E _ => wpAny_release' (OutX.same q E B)
theorem EJ.letGo {Q : Unit → PM → Prop} {base : Expr} {o r : Value} (q : Q () u) : EJ c env ns A vs (letTemporaryGo base o r) u Q := fun h tk B E _ => by
  unfold letTemporaryGo
  split
  · exact wpAny_pure (OutX.same q E B)
  · exact wpAny_bind (wpAny_holding (wpAny_runValue (codeAny_builtin entry_let_go (show wpAny _ _ (ret .none) _ _ (sh c h tk) from wpAny_pure (wpAny_pure (OutX.same q E B))))))
  · exact wpAny_pure (OutX.same q E B)
theorem EJ.at_ {pos : Pos} {m : Sem α} {Q : α → PM → Prop} (x : EJ c env ns A vs m u Q) : EJ c env ns A vs (do PySem.standAt pos; m) u Q := EJ.bind (EJ.standAt x)
theorem EJ.bindm {β : Type} {m : Sem α} {f : α → Sem β} {P : α → PM → Prop} {Q : β → PM → Prop} (x : EJ c env ns A vs m u P) (y : ∀ a u1, P a u1 → EJ c env ns A vs (f a) u1 Q) : EJ c env ns A vs (m >>= f) u Q := EJ.bind (x.mono y)
theorem EJ.of_eq {t t' : Sem α} {Q : α → PM → Prop} (e : t = t') (x : EJ c env ns A vs t' u Q) : EJ c env ns A vs t u Q := e ▸ x
end

/-! names, constants -/
section
variable {sc : Scope} {ns : List Str}
noncomputable def tInt (i : Int) : ET := fun _ _ _ u Q => ∀ t, Q (.int i t) u
noncomputable def tStr (s : Str) : ET := fun _ _ _ u Q => ∀ t, Q (.str s t) u
noncomputable def tVal (v : Value) : ET := fun _ _ _ u Q => Q v u
noncomputable def tLoc (i : Nat) : ET := fun _ _ vs u Q => match nth vs i with | some v => Q v u | none => False
theorem sInt {i : Int} {k : Nat} {pos : Pos} : SimE sc ns (.Constant (.int i) k pos) (tInt i) := fun _ _ _ _ _ _ _ q _ _ B E _ => wpAny_Constant_int (OutX.same (q _) E B)
theorem sStr {s : Str} {k : Nat} {pos : Pos} : SimE sc ns (.Constant (.str s) k pos) (tStr s) := fun _ _ _ _ _ _ _ q _ _ B E _ => Constant_str (OutX.same (q _) E B)
theorem sNone {k : Nat} {pos : Pos} : SimE sc ns (.Constant .none k pos) (tVal .none) := fun _ _ _ _ _ _ _ q _ _ B E _ => wpAny_Constant_none (OutX.same q E B)
theorem sBool {b : Bool} {k : Nat} {pos : Pos} : SimE sc ns (.Constant (.bool b) k pos) (tVal (.bool b)) := fun _ _ _ _ _ _ _ q _ _ B E _ => wpAny_Constant_bool (OutX.same q E B)
theorem sLoc {x : Str} {pos : Pos} (i : Nat) (hk : sc.names.lookup x = some .local) (hi : idx ns x = some i) (hd : (x == ("__debug__" : Str)) = false) : SimE sc ns (.Name x pos) (tLoc i) := fun c A env vs u Q ok q h tk B E F => by
  obtain ⟨m, hm, hs⟩ := F.nsm
  unfold tLoc at q
  split at q
  · rename_i v hv
    have hl : env.kindOf x = some .local := by unfold Env.kindOf; rw [ok.isSc]; exact hk
    exact wpAny_Name (wpAny_loadName_local (by rw [ok.isSc]; exact ok.k) hl hm ((hs x hl).trans ((slot_nth hi).trans hv)) (OutX.same q E B)) hd
  · exact q.elim
theorem sCell {x : Str} {pos : Pos} (i : Nat) (hk : sc.names.lookup x = some .cell) (hi : idx ns x = some i) (hd : (x == ("__debug__" : Str)) = false) : SimE sc ns (.Name x pos) (tLoc i) := fun c A env vs u Q ok q h tk B E F => by
  unfold tLoc at q
  split at q
  · rename_i v hv
    have hl : env.kindOf x = some .cell := by unfold Env.kindOf; rw [ok.isSc]; exact hk
    obtain ⟨a, ha⟩ := Option.isSome_iff_exists.mp (ok.cells x (.inl hk))
    obtain ⟨o, ho, hd'⟩ := F.cell x a ha
    rw [slot_nth hi, hv] at hd'
    exact wpAny_Name (wpAny_loadName_cell (by rw [ok.isSc]; exact ok.k) hl ha ⟨o, ho, hd'⟩ (OutX.same q E B)) hd
  · exact q.elim
theorem sGlob {x : Str} {pos : Pos} (v : Value) (hk : sc.names.lookup x = some .globalImplicit) (hv : ∀ c : Cx, c.mg x = some v) (hd : (x == ("__debug__" : Str)) = false) : SimE sc ns (.Name x pos) (tVal v) := fun c A env vs u Q ok q h tk B E F => by
  have hl : env.kindOf x = some .globalImplicit := by unfold Env.kindOf; rw [ok.isSc]; exact hk
  exact Name_function_global (by rw [ok.isSc]; exact ok.k) hl (loadGlobal_global (env := env) (mg := c.mg) (by rw [ok.gl]; exact c.g.keeps B.keep) (hv c) (OutX.same q E B)) hd
theorem sBlt {x : Str} {pos : Pos} (v : Value) (hk : sc.names.lookup x = some .globalImplicit) (hm : ∀ c : Cx, c.mg x = none) (hv : bootBuiltins x = some v) (hn : x ≠ "__name__") (hd : (x == ("__debug__" : Str)) = false) : SimE sc ns (.Name x pos) (tVal v) := fun c A env vs u Q ok q h tk B E F => by
  have hl : env.kindOf x = some .globalImplicit := by unfold Env.kindOf; rw [ok.isSc]; exact hk
  exact Name_function_global (by rw [ok.isSc]; exact ok.k) hl (loadGlobal_builtin (env := env) (mg := c.mg) (mb := c.mb) (by rw [ok.gl]; exact c.g.keeps B.keep) (hm c) (by rw [ok.bl]; exact c.b.keeps B.keep) ((c.blt x hn).trans hv) (OutX.same q E B)) hd

/-! operators -/
noncomputable def tBin (op : Operator) (a b : ET) : ET := fun c A vs u Q => a c A vs u fun x u1 => b c A vs u1 fun y u2 => RU c A (binaryOp op x y) u2 Q
theorem sBin {op : Operator} {l r : Expr} {a b : ET} {pos : Pos} (sa : SimE sc ns l a) (sb : SimE sc ns r b) : SimE sc ns (.BinOp l op r pos) (tBin op a b) := fun _ _ _ _ _ _ ok q =>
  EJ.of_eq (arm_eval_BinOp l op r pos _) (EJ.bindm (sa _ _ _ _ _ _ ok q) fun _ _ q1 => EJ.bindm (EJ.holding (sb _ _ _ _ _ _ ok q1)) fun _ _ q2 => EJ.at_ (EJ.operate (EJ.of q2)))
noncomputable def tUn (op : UnaryOp) (a : ET) : ET := fun c A vs u Q => a c A vs u fun x u1 => RU c A (unaryOp op x) u1 Q
theorem sUn {op : UnaryOp} {x : Expr} {a : ET} {pos : Pos} (sa : SimE sc ns x a) : SimE sc ns (.UnaryOp op x pos) (tUn op a) := fun _ _ _ _ _ _ ok q =>
  EJ.of_eq (arm_eval_UnaryOp op x pos _) (EJ.bindm (sa _ _ _ _ _ _ ok q) fun _ _ q1 => EJ.at_ (EJ.holding (EJ.of q1)))
noncomputable def tCmp (op : CmpOp) (a b : ET) : ET := fun c A vs u Q => a c A vs u fun x u1 => b c A vs u1 fun y u2 => RU c A (compareOp op x y) u2 Q
theorem sCmp {op : CmpOp} {l r : Expr} {a b : ET} {pos : Pos} (sa : SimE sc ns l a) (sb : SimE sc ns r b) (hm : behindInMarks op r = false) : SimE sc ns (.Compare l [op] [r] pos) (tCmp op a b) := fun _ _ _ _ _ _ ok q =>
  EJ.of_eq (eval_Compare1 _ l op r pos) (EJ.bindm (sa _ _ _ _ _ _ ok q) fun _ _ q1 => EJ.bindm (EJ.holding (EJ.of_eq (markedBehindIn_of_false hm) (sb _ _ _ _ _ _ ok q1))) fun _ _ q2 => EJ.at_ (EJ.operate (EJ.of q2)))
/-- a test: compare, then the answer is a bool -/
noncomputable def bCmp (op : CmpOp) (a b : ET) : BT' := fun c A vs u Q => a c A vs u fun x u1 => b c A vs u1 fun y u2 => RU c A (compareOp op x y) u2 fun r u3 => RU c A (truthy r) u3 Q
theorem sbCmp {op : CmpOp} {l r : Expr} {a b : ET} {pos : Pos} (sa : SimE sc ns l a) (sb : SimE sc ns r b) (hm : behindInMarks op r = false) : SimB sc ns (.Compare l [op] [r] pos) (bCmp op a b) := fun _ _ _ _ _ _ ok q =>
  EJ.of_eq (isTrue_Compare1 _ l op r pos _) (EJ.bindm (sa _ _ _ _ _ _ ok q) fun _ _ q1 => EJ.bindm (EJ.holding (EJ.of_eq (markedBehindIn_of_false hm) (sb _ _ _ _ _ _ ok q1))) fun _ _ q2 => EJ.at_ (EJ.bindm (EJ.operate (EJ.of q2)) fun _ _ q3 => EJ.holding (EJ.of q3)))
noncomputable def bVal (a : ET) : BT' := fun c A vs u Q => a c A vs u fun x u1 => RU c A (truthy x) u1 Q
theorem sbVal {e : Expr} {a : ET} (sa : SimE sc ns e a) (he : ∀ env whole, isTrue e env whole = (do let v ← whole; standAt e.pos; holding [v] (truthy v))) : SimB sc ns e (bVal a) := fun _ _ _ _ _ _ ok q =>
  EJ.of_eq (he _ _) (EJ.bindm (sa _ _ _ _ _ _ ok q) fun _ _ q1 => EJ.at_ (EJ.holding (EJ.of q1)))
noncomputable def bNot (a : BT') : BT' := fun c A vs u Q => a c A vs u fun x u1 => Q (!x) u1
theorem sbNot {x : Expr} {a : BT'} {pos : Pos} (sa : SimB sc ns x a) : SimB sc ns (.UnaryOp .Not x pos) (bNot a) := fun _ _ _ _ _ _ ok q =>
  EJ.of_eq (arm_isTrue_UnaryOp x pos _ _) (EJ.bindm (sa _ _ _ _ _ _ ok q) fun _ _ q1 => EJ.pure q1)
noncomputable def bAnd (a b : BT') : BT' := fun c A vs u Q => a c A vs u fun x u1 => match x with | true => b c A vs u1 Q | false => Q false u1
noncomputable def bOr (a b : BT') : BT' := fun c A vs u Q => a c A vs u fun x u1 => match x with | false => b c A vs u1 Q | true => Q true u1
noncomputable def SimA (sc : Scope) (ns : List Str) (op : BoolOp) (es : List Expr) (T : BT') : Prop := ∀ c A env vs u Q, EnvOk sc env → T c A vs u Q → EJ c env ns A vs (allTrue op es env) u Q
noncomputable def bTrue : BT' := fun _ _ _ u Q => Q true u
noncomputable def bFalse : BT' := fun _ _ _ u Q => Q false u
theorem saAnd0 : SimA sc ns .And [] bTrue := fun _ _ _ _ _ _ _ q => EJ.pure q
theorem saOr0 : SimA sc ns .Or [] bFalse := fun _ _ _ _ _ _ _ q => EJ.pure q
theorem saAnd {x : Expr} {rest : List Expr} {a b : BT'} (sa : SimB sc ns x a) (sb : SimA sc ns .And rest b) : SimA sc ns .And (x :: rest) (bAnd a b) := fun _ _ _ _ _ _ ok q =>
  EJ.of_eq (arm_allTrue_cons .And x rest _) (EJ.bindm (sa _ _ _ _ _ _ ok q) fun t u1 q1 => by cases t with | true => exact sb _ _ _ _ _ _ ok q1 | false => exact EJ.pure q1)
theorem saOr {x : Expr} {rest : List Expr} {a b : BT'} (sa : SimB sc ns x a) (sb : SimA sc ns .Or rest b) : SimA sc ns .Or (x :: rest) (bOr a b) := fun _ _ _ _ _ _ ok q =>
  EJ.of_eq (arm_allTrue_cons .Or x rest _) (EJ.bindm (sa _ _ _ _ _ _ ok q) fun t u1 q1 => by cases t with | false => exact sb _ _ _ _ _ _ ok q1 | true => exact EJ.pure q1)
theorem sbBool {op : BoolOp} {es : List Expr} {a : BT'} {pos : Pos} (sa : SimA sc ns op es a) : SimB sc ns (.BoolOp op es pos) a := fun _ _ _ _ _ _ ok q => EJ.of_eq (arm_isTrue_BoolOp op es pos _ _) (sa _ _ _ _ _ _ ok q)
/-- and, or as values -/
noncomputable def tAnd (a b : ET) : ET := fun c A vs u Q => a c A vs u fun x u1 => RU c A (truthy x) u1 fun t u2 => match t with | true => b c A vs u2 Q | false => Q x u2
noncomputable def tOr (a b : ET) : ET := fun c A vs u Q => a c A vs u fun x u1 => RU c A (truthy x) u1 fun t u2 => match t with | false => b c A vs u2 Q | true => Q x u2
theorem sAnd {x y : Expr} {a b : ET} {pos : Pos} (sa : SimE sc ns x a) (sb : SimE sc ns y b) : SimE sc ns (.BoolOp .And [x, y] pos) (tAnd a b) := fun _ _ _ _ _ _ ok q =>
  EJ.of_eq (arm_eval_BoolOp .And [x, y] pos _) (EJ.bindm (sa _ _ _ _ _ _ ok q) fun _ _ q1 => EJ.at_ (EJ.bindm (EJ.holding (EJ.of q1)) fun t _ q2 => by cases t with | true => exact sb _ _ _ _ _ _ ok q2 | false => exact EJ.pure q2))
theorem sOr {x y : Expr} {a b : ET} {pos : Pos} (sa : SimE sc ns x a) (sb : SimE sc ns y b) : SimE sc ns (.BoolOp .Or [x, y] pos) (tOr a b) := fun _ _ _ _ _ _ ok q =>
  EJ.of_eq (arm_eval_BoolOp .Or [x, y] pos _) (EJ.bindm (sa _ _ _ _ _ _ ok q) fun _ _ q1 => EJ.at_ (EJ.bindm (EJ.holding (EJ.of q1)) fun t _ q2 => by cases t with | false => exact sb _ _ _ _ _ _ ok q2 | true => exact EJ.pure q2))
noncomputable def tIte (t : BT') (a b : ET) : ET := fun c A vs u Q => t c A vs u fun x u1 => match x with | true => a c A vs u1 Q | false => b c A vs u1 Q
theorem sIte {t x y : Expr} {b : BT'} {a a' : ET} {pos : Pos} (st : SimB sc ns t b) (sa : SimE sc ns x a) (sb : SimE sc ns y a') : SimE sc ns (.IfExp t x y pos) (tIte b a a') := fun _ _ _ _ _ _ ok q =>
  EJ.of_eq (arm_eval_IfExp t x y pos _) (EJ.bindm (st _ _ _ _ _ _ ok q) fun t _ q1 => by cases t with | true => exact sa _ _ _ _ _ _ ok q1 | false => exact sb _ _ _ _ _ _ ok q1)
/-- a op b op c -/
noncomputable def tCmp2 (o1 o2 : CmpOp) (x y z : ET) : ET := fun c A vs u Q => x c A vs u fun a u1 => y c A vs u1 fun b u2 => RU c A (compareOp o1 a b) u2 fun r u3 => RU c A (truthy r) u3 fun t u4 => match t with
  | true => z c A vs u4 fun d u5 => RU c A (compareOp o2 b d) u5 Q
  | false => Q r u4
theorem sCmp2 {o1 o2 : CmpOp} {e1 e2 e3 : Expr} {x y z : ET} {pos : Pos} (sx : SimE sc ns e1 x) (sy : SimE sc ns e2 y) (sz : SimE sc ns e3 z) (hm : lastMarks [o1, o2] [e2, e3] = false) : SimE sc ns (.Compare e1 [o1, o2] [e2, e3] pos) (tCmp2 o1 o2 x y z) := fun c A env vs u Q ok q => by
  have e : eval (.Compare e1 [o1, o2] [e2, e3] pos) env = (do compareChain pos (← eval e1 env) [o1, o2] [eval e2 env, eval e3 env]) := by
    rw [← markedEach_of_false [o1, o2] [e2, e3] [eval e2 env, eval e3 env] hm]; rfl
  refine EJ.of_eq e (EJ.bindm (sx _ _ _ _ _ _ ok q) fun a u1 q1 => ?_)
  show EJ c env ns A vs (do
    let rv ← holding [a] (eval e2 env)
    standAt pos
    let cc ← holding [a, rv] (compareOp o1 a rv)
    release [a, rv] [cc]
    if ← holding [cc, rv] (truthy cc) then compareChain pos rv [o2] [eval e3 env] else pure cc) u1 Q
  refine EJ.bindm (EJ.holding (sy _ _ _ _ _ _ ok q1)) fun b u2 q2 => EJ.at_ (EJ.bindm (EJ.holding (EJ.of q2)) fun r u3 q3 => EJ.bind (EJ.release (EJ.bindm (EJ.holding (EJ.of q3)) fun t u4 q4 => ?_)))
  cases t with
  | false => exact EJ.pure q4
  | true =>
    show EJ c env ns A vs (do
      let rv ← holding [b] (eval e3 env)
      standAt pos
      operate [b, rv] (compareOp o2 b rv)) u4 Q
    exact EJ.bindm (EJ.holding (sz _ _ _ _ _ _ ok q4)) fun d u5 q5 => EJ.at_ (EJ.operate (EJ.of q5))
noncomputable def bCmp2 (o1 o2 : CmpOp) (x y z : ET) : BT' := fun c A vs u Q => x c A vs u fun a u1 => y c A vs u1 fun b u2 => RU c A (compareOp o1 a b) u2 fun r u3 => RU c A (truthy r) u3 fun t u4 => match t with
  | true => z c A vs u4 fun d u5 => RU c A (compareOp o2 b d) u5 fun r u6 => RU c A (truthy r) u6 Q
  | false => Q false u4
theorem sbCmp2 {o1 o2 : CmpOp} {e1 e2 e3 : Expr} {x y z : ET} {pos : Pos} (sx : SimE sc ns e1 x) (sy : SimE sc ns e2 y) (sz : SimE sc ns e3 z) (hm : lastMarks [o1, o2] [e2, e3] = false) : SimB sc ns (.Compare e1 [o1, o2] [e2, e3] pos) (bCmp2 o1 o2 x y z) := fun c A env vs u Q ok q => by
  have e : isTrue (.Compare e1 [o1, o2] [e2, e3] pos) env (eval (.Compare e1 [o1, o2] [e2, e3] pos) env) = (do testChain pos (← eval e1 env) [o1, o2] [eval e2 env, eval e3 env]) := by
    rw [← markedEach_of_false [o1, o2] [e2, e3] [eval e2 env, eval e3 env] hm]; rfl
  refine EJ.of_eq e (EJ.bindm (sx _ _ _ _ _ _ ok q) fun a u1 q1 => ?_)
  show EJ c env ns A vs (do
    let rv ← holding [a] (eval e2 env)
    standAt pos
    let cc ← holding [a, rv] (compareOp o1 a rv)
    release [a, rv] [cc]
    if ← holding [cc, rv] (truthy cc) then testChain pos rv [o2] [eval e3 env] else pure false) u1 Q
  refine EJ.bindm (EJ.holding (sy _ _ _ _ _ _ ok q1)) fun b u2 q2 => EJ.at_ (EJ.bindm (EJ.holding (EJ.of q2)) fun r u3 q3 => EJ.bind (EJ.release (EJ.bindm (EJ.holding (EJ.of q3)) fun t u4 q4 => ?_)))
  cases t with
  | false => exact EJ.pure q4
  | true =>
    show EJ c env ns A vs (do
      let rv ← holding [b] (eval e3 env)
      standAt pos
      let r ← operate [b, rv] (compareOp o2 b rv)
      holding [r] (truthy r)) u4 Q
    exact EJ.bindm (EJ.holding (sz _ _ _ _ _ _ ok q4)) fun d u5 q5 => EJ.at_ (EJ.bindm (EJ.operate (EJ.of q5)) fun _ _ q6 => EJ.holding (EJ.of q6))
end
end Mine
end
section
open PySem PySem.W PySem.Calls PyProof.Rows
set_option Elab.async false
set_option maxRecDepth 100000
set_option linter.unusedVariables false
namespace Mine

noncomputable def plainE : Expr → Bool
  | .Starred .. => false
  | _ => true
theorem star_cons {e : Expr} {rest : List Expr} {env : Env} (h : plainE e = true) : starEach (e :: rest) env = (false, eval e env) :: starEach rest env := by
  cases e <;> first | rfl | cases h
noncomputable abbrev evs (es : List Expr) (env : Env) : List (Bool × Sem Value) := es.map fun e => (false, eval e env)
theorem star_plain {env : Env} {pos : Pos} : ∀ {es : List Expr}, es.all plainE = true → backTo pos (starEach es env) = evs es env
  | [], _ => rfl
  | e :: rest, h => by
    obtain ⟨h1, h2⟩ := Bool.and_eq_true_iff.mp (show (plainE e && rest.all plainE) = true from h)
    rw [star_cons h1]
    show (false, eval e env) :: backTo pos (starEach rest env) = _
    rw [star_plain h2]; rfl
theorem evs_any (es : List Expr) (env : Env) : (evs es env).any (·.1) = false := by
  induction es with
  | nil => rfl
  | cons e r ih => exact ih
noncomputable def SimV (sc : Scope) (ns : List Str) (es : List Expr) (T : LT) : Prop := ∀ c A env vs u Q, EnvOk sc env → T c A vs u Q → EJ c env ns A vs (spliced (evs es env)) u Q

/-- what keeps a called value alive is told -/
noncomputable def Kpr (c : Cx) (f : Value) : Prop := ∀ h, Base c h → ∃ k, (k = Keeper.frame ∨ k = Keeper.machine ∨ k = Keeper.boundFrame) ∧ Looks (MM c) h (keeperOf f) k
theorem Cx.kin (c : Cx) {h : Heap} (B : Base c h) : (KK c.w.params).In h := c.says.1.keeps B.keep
theorem kprK {c : Cx} {f : Value} (hk : keepIn (KK c.w.params) f = true) : Kpr c f := fun h B => keeps_K hk h (c.kin B)
theorem kprB {c : Cx} {id : String} : Kpr c (.builtin id) := fun _ _ => ⟨.machine, .inr (.inl rfl), Looks.of_pure rfl⟩
theorem kprT {c : Cx} {id : String} : Kpr c (.type id) := fun _ _ => ⟨.machine, .inr (.inl rfl), Looks.of_pure rfl⟩

section
variable {c : Cx} {A : Around} {u : PM} {env : Env} {ns : List Str} {vs : List (Option Value)}
theorem EJ.callWith {pos : Pos} {f : Value} {first : List Value} {es : List Expr} {Q : Value → PM → Prop} (hk : Kpr c f)
    (x : EJ c env ns A vs (spliced (evs es env)) u fun xs u1 => RU c A (call f (first ++ xs)) u1 Q) : EJ c env ns A vs (callWith pos f first (evs es env) []) u Q := fun h tk B E F => by
  have post : ∀ xs s1, OutX c u h (fun xs u1 => RU c A (call f (first ++ xs)) u1 Q) xs s1 → Base c s1.heap ∧ wpAny (MM c) A (call f (first ++ xs)) (OutX c u h Q) no s1 := by
    rintro xs _ ⟨h1, tk1, u1, rfl, q, E1, B1, K1⟩
    refine ⟨B1, wpAny_mono (q h1 tk1 B1 E1) (fun v s2 z => ?_) fun _ _ x => x⟩
    obtain ⟨h2, tk2, u2, rfl, q, E2, B2, K2⟩ := z
    exact ⟨h2, tk2, u2, rfl, q, E2, B2, K1.trans K2⟩
  refine callWith_of (P := Base c) (by rw [evs_any]; rfl) hk ?_
  cases es with
  | nil =>
    unfold evalArgs
    show wpAny _ _ (spliced [] >>= _) _ _ _
    exact wpAny_bind (wpAny_mono (x h tk B E F) (fun xs s1 z => wpAny_holding (wpAny_bind (wpAny_pure (wpAny_bind (wpAny_pure (wpAny_pure (post _ _ z))))))) fun _ _ x => x)
  | cons e r => exact evalArgs_plain (wpAny_mono (x h tk B E F) (fun xs s1 z => post _ _ z) fun _ _ x => x)
end

section
variable {sc : Scope} {ns : List Str}
noncomputable def lNil : LT := fun _ _ _ u Q => Q [] u
noncomputable def lCons (a : ET) (l : LT) : LT := fun c A vs u Q => a c A vs u fun x u1 => l c A vs u1 fun xs u2 => Q (x :: xs) u2
theorem svNil : SimV sc ns [] lNil := fun _ _ _ _ _ _ _ q => EJ.pure q
theorem svCons {e : Expr} {es : List Expr} {a : ET} {l : LT} (sa : SimE sc ns e a) (sl : SimV sc ns es l) : SimV sc ns (e :: es) (lCons a l) := fun c A env vs u Q ok q => by
  show EJ c env ns A vs (spliced ((false, eval e env) :: evs es env)) u Q
  have e0 : spliced ((false, eval e env) :: evs es env) = (do let v ← eval e env; let here ← pure [v]; return here ++ (← holding here (spliced (evs es env)))) := by
    rw [spliced]; simp only [Bool.false_eq_true, if_false]
  exact EJ.of_eq e0 (EJ.bindm (sa _ _ _ _ _ _ ok q) fun x u1 q1 => EJ.bind (EJ.pure (EJ.bindm (EJ.holding (sl _ _ _ _ _ _ ok q1)) fun xs u2 q2 => EJ.pure q2)))
noncomputable def tTup (l : LT) : ET := fun c A vs u Q => l c A vs u fun xs u1 => RU c A (newTuple xs) u1 Q
noncomputable def tLst (l : LT) : ET := fun c A vs u Q => l c A vs u fun xs u1 => RU c A (newList xs) u1 Q
theorem sTup {es : List Expr} {k : Nat} {pos : Pos} {l : LT} (sl : SimV sc ns es l) (hp : es.all plainE = true) : SimE sc ns (.Tuple es k pos) (tTup l) := fun c A env vs u Q ok q => by
  refine EJ.of_eq (arm_eval_Tuple es k pos env) (EJ.at_ ?_)
  rw [star_plain hp]
  exact EJ.bindm (sl _ _ _ _ _ _ ok q) fun _ _ q1 => EJ.of q1
theorem sLst {es : List Expr} {pos : Pos} {l : LT} (sl : SimV sc ns es l) (hp : es.all plainE = true) : SimE sc ns (.List es pos) (tLst l) := fun c A env vs u Q ok q => by
  refine EJ.of_eq (arm_eval_List es pos env) (EJ.at_ ?_)
  rw [star_plain hp]
  exact EJ.bindm (sl _ _ _ _ _ _ ok q) fun _ _ q1 => EJ.of q1

/-! subscripts -/
noncomputable def slcOk : Expr → Bool
  | .Slice _ _ (some _) _ => false
  | _ => true
noncomputable def tSub (o i : ET) : ET := fun c A vs u Q => o c A vs u fun ov u1 => i c A vs u1 fun iv u2 => RU c A (getitemInPython ov) u2 fun b u3 => b = false ∧ RU c A (getItem ov iv) u3 Q
theorem sSub {o i : Expr} {pos : Pos} {a b : ET} (sa : SimE sc ns o a) (sb : SimE sc ns i b) : SimE sc ns (.Subscript o i pos) (tSub a b) := fun c A env vs u Q ok q =>
  EJ.of_eq (arm_eval_Subscript o i pos env) (EJ.bindm (sa _ _ _ _ _ _ ok q) fun ov u1 q1 => EJ.bindm (EJ.holding (sb _ _ _ _ _ _ ok q1)) fun iv u2 q2 => EJ.at_ (EJ.bindm (EJ.of q2) fun b u3 q3 => by
    obtain ⟨rfl, q3⟩ := q3
    have k : EJ c env ns A vs (subscripted i false ov iv) u3 Q := by
      unfold subscripted
      split <;> first | exact EJ.operate (EJ.of q3) | (rename_i h; cases h)
    exact EJ.bindm k fun r u4 q4 => EJ.bind (EJ.letGo (EJ.pure q4))))
noncomputable def tOpt : Option ET → ET
  | none => tVal .none
  | some a => a
noncomputable def SimO (sc : Scope) (ns : List Str) (e : Option Expr) (T : ET) : Prop := ∀ c A env vs u Q, EnvOk sc env → T c A vs u Q → EJ c env ns A vs (valueOrNone (evalOpt e env)) u Q
theorem soNone : SimO sc ns none (tVal .none) := fun _ _ _ _ _ _ _ q => EJ.pure q
theorem soSome {e : Expr} {a : ET} (sa : SimE sc ns e a) : SimO sc ns (some e) a := fun _ _ _ _ _ _ ok q => sa _ _ _ _ _ _ ok q
noncomputable def tSlc (l m s : ET) : ET := fun c A vs u Q => l c A vs u fun lv u1 => m c A vs u1 fun mv u2 => s c A vs u2 fun sv u3 => RU c A (newFields "slice" [lv, mv, sv]) u3 Q
theorem sSlc {l m s : Option Expr} {pos : Pos} {a b d : ET} (sa : SimO sc ns l a) (sb : SimO sc ns m b) (sd : SimO sc ns s d) : SimE sc ns (.Slice l m s pos) (tSlc a b d) := fun c A env vs u Q ok q =>
  EJ.of_eq (arm_eval_Slice l m s pos env) (EJ.bindm (sa _ _ _ _ _ _ ok q) fun lv u1 q1 => EJ.bindm (EJ.holding (sb _ _ _ _ _ _ ok q1)) fun mv u2 q2 => EJ.bindm (EJ.holding (sd _ _ _ _ _ _ ok q2)) fun sv u3 q3 => EJ.of q3)

/-! attributes, calls -/
noncomputable def baseOk : Expr → Bool
  | .Call (.Name id _) [] [] _ => id != "super"
  | _ => true
theorem base_plain {o : Expr} {attr : Str} {env : Env} {t : Sem Value} (h : baseOk o = true) : attributeBase o attr env t = t := by
  unfold attributeBase
  split
  · rename_i id p pos
    have : (id != "super") = true := h
    simp [this]
  · rfl
noncomputable def tAtt (o : ET) (name : Str) : ET := fun c A vs u Q => o c A vs u fun ov u1 => RU c A (getAttr ov name true) u1 Q
theorem sAtt {o : Expr} {name : Str} {pos : Pos} {a : ET} (sa : SimE sc ns o a) (hb : baseOk o = true) : SimE sc ns (.Attribute o name pos) (tAtt a name) := fun c A env vs u Q ok q => by
  refine EJ.of_eq (arm_eval_Attribute o name pos env) ?_
  rw [base_plain hb]
  exact EJ.bindm (sa _ _ _ _ _ _ ok q) fun ov u1 q1 => EJ.at_ (EJ.bindm (EJ.holding (EJ.of q1)) fun r u2 q2 => EJ.bind (EJ.letGo (EJ.pure q2)))
noncomputable def isAttr : Expr → Bool
  | .Attribute .. => true
  | _ => false
noncomputable def tCall (f : ET) (l : LT) : ET := fun c A vs u Q => f c A vs u fun fv u1 => Kpr c fv ∧ l c A vs u1 fun xs u2 => RU c A (call fv xs) u2 Q
theorem sCall {f : Expr} {es : List Expr} {pos : Pos} {a : ET} {l : LT} (sf : SimE sc ns f a) (sl : SimV sc ns es l) (hp : es.all plainE = true) (hf : isAttr f = false) : SimE sc ns (.Call f es [] pos) (tCall a l) := fun c A env vs u Q ok q => by
  have e : eval (.Call f es [] pos) env = (do callWith pos (← eval f env) [] (backTo pos (starEach es env)) []) := by cases f <;> first | rfl | cases hf
  refine EJ.of_eq e (EJ.bindm (sf _ _ _ _ _ _ ok q) fun fv u1 q1 => ?_)
  rw [star_plain hp]
  exact EJ.callWith q1.1 (sl _ _ _ _ _ _ ok q1.2)
noncomputable def tMeth (o : ET) (name : Str) (l : LT) : ET := fun c A vs u Q => o c A vs u fun ov u1 => ∀ pl, RU c A (getMethod ov name pl) u1 fun fx u2 => Kpr c fx.1 ∧ l c A vs u2 fun xs u3 => RU c A (call fx.1 (fx.2 ++ xs)) u3 Q
theorem sMeth {o : Expr} {name : Str} {apos pos : Pos} {es : List Expr} {a : ET} {l : LT} (so : SimE sc ns o a) (sl : SimV sc ns es l) (hp : es.all plainE = true) (hb : baseOk o = true) (hn : es.length < 30) (hl : (apos.endLine == pos.line) = true) :
    SimE sc ns (.Call (.Attribute o name apos) es [] pos) (tMeth a name l) := fun c A env vs u Q ok q => by
  refine EJ.of_eq (arm_eval_Call o name apos es [] pos env) ?_
  rw [base_plain hb]
  refine EJ.bindm (so _ _ _ _ _ _ ok q) fun ov u1 q1 => EJ.at_ ?_
  have few : methodCallForm (es.length + ([] : List Keyword).length) (backTo pos (starEach es env)) (backToKw pos (keywordEach [] env)) = true := by
    rw [star_plain hp]
    unfold methodCallForm
    have h1 : (evs es env).all (fun x => !x.1) = true := by rw [List.all_eq_true]; intro x hx; obtain ⟨e, _, rfl⟩ := List.mem_map.mp hx; rfl
    simp [h1, keywordEach, backToKw, hn]
  unfold methodCall
  rw [few]
  have hpos : methodCallPos true o env apos pos = pure pos := by unfold methodCallPos; rw [hl]; rfl
  rw [hpos]
  refine EJ.bindm (EJ.holding (EJ.of (q1 _))) fun fx u2 q2 => ?_
  obtain ⟨f, first⟩ := fx
  refine EJ.bind (EJ.pure ?_)
  rw [star_plain hp]
  exact EJ.callWith q2.1 (sl _ _ _ _ _ _ ok q2.2)
end
end Mine
end
section
open PySem PySem.W PySem.Calls PyProof.Rows
set_option Elab.async false
set_option maxRecDepth 100000
set_option linter.unusedVariables false
namespace Mine

/-- a store: the slots may turn -/
noncomputable def OutU (c : Cx) (env : Env) (ns : List Str) (u : PM) (h : Heap) (Q : List (Option Value) → PM → Prop) (_ : Unit) (s' : Shared) : Prop :=
  ∃ h' tk' u' vs', s' = sh c h' tk' ∧ Q vs' u' ∧ Emb u' h' ∧ Base c h' ∧ Fm c env ns vs' u' h' ∧ KpS env u h h' u'
noncomputable def SU (c : Cx) (env : Env) (ns : List Str) (A : Around) (vs : List (Option Value)) (t : Sem Unit) (u : PM) (Q : List (Option Value) → PM → Prop) : Prop :=
  ∀ h tk, Base c h → Emb u h → Fm c env ns vs u h → wpAny (MM c) A t (OutU c env ns u h Q) no (sh c h tk)

section
variable {α : Type} {c : Cx} {A : Around} {u : PM} {env : Env} {ns : List Str} {vs : List (Option Value)}
theorem SJ.bindE {m : Sem α} {f : α → Sem Flow} {P : α → PM → Prop} {Q : Flow → List (Option Value) → PM → Prop} (x : EJ c env ns A vs m u P) (y : ∀ a u1, P a u1 → SJ c env ns A vs (f a) u1 Q) : SJ c env ns A vs (m >>= f) u Q := fun h tk B E F =>
  wpAny_bind (wpAny_mono (x h tk B E F) (fun a s' z => by
    obtain ⟨h1, tk1, u1, rfl, q, E1, B1, K1⟩ := z
    exact wpAny_mono (y a u1 q h1 tk1 B1 E1 (F.kp K1)) (fun v s'' z => by
      obtain ⟨h2, tk2, u2, vs2, rfl, q, E2, B2, F2, K2⟩ := z
      exact ⟨h2, tk2, u2, vs2, rfl, q, E2, B2, F2, K1.toS.trans K2⟩) fun _ _ x => x) fun _ _ x => x)
theorem SU.bindE {m : Sem α} {f : α → Sem Unit} {P : α → PM → Prop} {Q : List (Option Value) → PM → Prop} (x : EJ c env ns A vs m u P) (y : ∀ a u1, P a u1 → SU c env ns A vs (f a) u1 Q) : SU c env ns A vs (m >>= f) u Q := fun h tk B E F =>
  wpAny_bind (wpAny_mono (x h tk B E F) (fun a s' z => by
    obtain ⟨h1, tk1, u1, rfl, q, E1, B1, K1⟩ := z
    exact wpAny_mono (y a u1 q h1 tk1 B1 E1 (F.kp K1)) (fun v s'' z => by
      obtain ⟨h2, tk2, u2, vs2, rfl, q, E2, B2, F2, K2⟩ := z
      exact ⟨h2, tk2, u2, vs2, rfl, q, E2, B2, F2, K1.toS.trans K2⟩) fun _ _ x => x) fun _ _ x => x)
theorem SJ.bindU {m : Sem Unit} {f : Unit → Sem Flow} {P : List (Option Value) → PM → Prop} {Q : Flow → List (Option Value) → PM → Prop} (x : SU c env ns A vs m u P) (y : ∀ vs1 u1, P vs1 u1 → SJ c env ns A vs1 (f ()) u1 Q) : SJ c env ns A vs (m >>= f) u Q := fun h tk B E F =>
  wpAny_bind (wpAny_mono (x h tk B E F) (fun a s' z => by
    obtain ⟨h1, tk1, u1, vs1, rfl, q, E1, B1, F1, K1⟩ := z
    exact wpAny_mono (y vs1 u1 q h1 tk1 B1 E1 F1) (fun v s'' z => by
      obtain ⟨h2, tk2, u2, vs2, rfl, q, E2, B2, F2, K2⟩ := z
      exact ⟨h2, tk2, u2, vs2, rfl, q, E2, B2, F2, K1.trans K2⟩) fun _ _ x => x) fun _ _ x => x)
theorem SU.bindU {m : Sem Unit} {f : Unit → Sem Unit} {P : List (Option Value) → PM → Prop} {Q : List (Option Value) → PM → Prop} (x : SU c env ns A vs m u P) (y : ∀ vs1 u1, P vs1 u1 → SU c env ns A vs1 (f ()) u1 Q) : SU c env ns A vs (m >>= f) u Q := fun h tk B E F =>
  wpAny_bind (wpAny_mono (x h tk B E F) (fun a s' z => by
    obtain ⟨h1, tk1, u1, vs1, rfl, q, E1, B1, F1, K1⟩ := z
    exact wpAny_mono (y vs1 u1 q h1 tk1 B1 E1 F1) (fun v s'' z => by
      obtain ⟨h2, tk2, u2, vs2, rfl, q, E2, B2, F2, K2⟩ := z
      exact ⟨h2, tk2, u2, vs2, rfl, q, E2, B2, F2, K1.trans K2⟩) fun _ _ x => x) fun _ _ x => x)
theorem SJ.bindS {m : Sem Flow} {f : Flow → Sem Flow} {P : Flow → List (Option Value) → PM → Prop} {Q : Flow → List (Option Value) → PM → Prop} (x : SJ c env ns A vs m u P) (y : ∀ fl vs1 u1, P fl vs1 u1 → SJ c env ns A vs1 (f fl) u1 Q) : SJ c env ns A vs (m >>= f) u Q := fun h tk B E F =>
  wpAny_bind (wpAny_mono (x h tk B E F) (fun a s' z => by
    obtain ⟨h1, tk1, u1, vs1, rfl, q, E1, B1, F1, K1⟩ := z
    exact wpAny_mono (y a vs1 u1 q h1 tk1 B1 E1 F1) (fun v s'' z => by
      obtain ⟨h2, tk2, u2, vs2, rfl, q, E2, B2, F2, K2⟩ := z
      exact ⟨h2, tk2, u2, vs2, rfl, q, E2, B2, F2, K1.trans K2⟩) fun _ _ x => x) fun _ _ x => x)
theorem SJ.pure {f : Flow} {Q : Flow → List (Option Value) → PM → Prop} (q : Q f vs u) : SJ c env ns A vs (pure f) u Q := fun h tk B E F => wpAny_pure ⟨h, tk, u, vs, rfl, q, E, B, F, (Kp.refl u h).toS⟩
theorem SU.pure {Q : List (Option Value) → PM → Prop} (q : Q vs u) : SU c env ns A vs (pure ()) u Q := fun h tk B E F => wpAny_pure ⟨h, tk, u, vs, rfl, q, E, B, F, (Kp.refl u h).toS⟩
theorem SU.ofE {m : Sem Unit} {Q : List (Option Value) → PM → Prop} (x : EJ c env ns A vs m u fun _ u1 => Q vs u1) : SU c env ns A vs m u Q := fun h tk B E F =>
  wpAny_mono (x h tk B E F) (fun a s' z => by
    obtain ⟨h1, tk1, u1, rfl, q, E1, B1, K1⟩ := z
    exact ⟨h1, tk1, u1, vs, rfl, q, E1, B1, F.kp K1, K1.toS⟩) fun _ _ x => x
theorem SU.holding {l : List Value} {m : Sem Unit} {Q : List (Option Value) → PM → Prop} (x : SU c env ns A vs m u Q) : SU c env ns A vs (holding l m) u Q := fun h tk B E F => wpAny_holding (x h tk B E F)
theorem SU.mono {m : Sem Unit} {Q Q' : List (Option Value) → PM → Prop} (x : SU c env ns A vs m u Q) (y : ∀ vs1 u1, Q vs1 u1 → Q' vs1 u1) : SU c env ns A vs m u Q' := fun h tk B E F =>
  wpAny_mono (x h tk B E F) (fun a s' ⟨h1, tk1, u1, vs1, e, q, r⟩ => ⟨h1, tk1, u1, vs1, e, y _ _ q, r⟩) fun _ _ x => x
theorem SJ.mono {m : Sem Flow} {Q Q' : Flow → List (Option Value) → PM → Prop} (x : SJ c env ns A vs m u Q) (y : ∀ f vs1 u1, Q f vs1 u1 → Q' f vs1 u1) : SJ c env ns A vs m u Q' := fun h tk B E F =>
  wpAny_mono (x h tk B E F) (fun a s' ⟨h1, tk1, u1, vs1, e, q, r⟩ => ⟨h1, tk1, u1, vs1, e, y _ _ _ q, r⟩) fun _ _ x => x
theorem SJ.at_ {pos : Pos} {m : Sem Flow} {Q : Flow → List (Option Value) → PM → Prop} (x : SJ c env ns A vs m u Q) : SJ c env ns A vs (do standAt pos; m) u Q := SJ.bindE (EJ.standAt (Q := fun _ u1 => u1 = u) rfl) fun _ _ e => e ▸ x
theorem SU.at_ {pos : Pos} {m : Sem Unit} {Q : List (Option Value) → PM → Prop} (x : SU c env ns A vs m u Q) : SU c env ns A vs (do standAt pos; m) u Q := SU.bindE (EJ.standAt (Q := fun _ u1 => u1 = u) rfl) fun _ _ e => e ▸ x
theorem SJ.of_eq {t t' : Sem Flow} {Q : Flow → List (Option Value) → PM → Prop} (e : t = t') (x : SJ c env ns A vs t' u Q) : SJ c env ns A vs t u Q := e ▸ x
theorem SU.of_eq {t t' : Sem Unit} {Q : List (Option Value) → PM → Prop} (e : t = t') (x : SU c env ns A vs t' u Q) : SU c env ns A vs t u Q := e ▸ x

/-- a store into one's own frame's dict or cell -/
theorem idx_lt : ∀ {ns : List Str} {x : Str} {i : Nat}, idx ns x = some i → i < ns.length
  | [], _, _, h => by cases h
  | n :: ns, x, i, h => by
    unfold idx at h
    by_cases e : n = x
    · rw [if_pos e] at h; cases h; exact Nat.succ_pos _
    · rw [if_neg e] at h
      obtain ⟨j, hj, rfl⟩ := Option.map_eq_some_iff.mp h
      exact Nat.succ_lt_succ (idx_lt hj)
theorem SU.storeL {x : Str} {i : Nat} {v : Value} {Q : List (Option Value) → PM → Prop} (hk : env.kindOf x = some .local) (hf : env.scope.kind = .function) (hi : idx ns x = some i) (hc : ∀ y a, env.kindOf y = some .local → env.cells.lookup y ≠ some a) (q : Q (setN vs i v) u) : SU c env ns A vs (storeName env x v) u Q := fun h tk B E F => by
  obtain ⟨m, hm, hs⟩ := F.nsm
  have hlen : i < vs.length := F.len ▸ idx_lt hi
  have hset := slot_set (vs := vs) (w := v) hi (.inr hlen)
  refine wpAny_storeName_local hk hm (fun h' hn hsb => ?_) (by rw [hf]; rfl)
  refine ⟨h', tk + 1, u, setN vs i v, rfl, q, fun a o e => (hsb.2 a fun z => ?_).trans (E a o e), ⟨fun b o e => (hsb.2 b fun z => ?_).trans (B.keep b o e)⟩, ⟨⟨_, hn, fun y hy => ?_⟩, (setN_len _ _ _).trans F.len, fun y a e => ?_, F.offL, F.offC, F.inj, F.newL⟩, fun b o e1 e2 e3 e4 => ⟨(hsb.2 b e2).trans e4, e1⟩⟩
  · rw [z, F.offL] at e; cases e
  · rw [z, F.newL] at e; cases e
  · rw [hset]
    by_cases e : y = x
    · rw [if_pos e, if_pos e]
    · rw [if_neg e, if_neg e]; exact hs y hy
  · obtain ⟨o, ho, hd⟩ := F.cell y a e
    refine ⟨o, (hsb.2 a (F.offC y a e).2.1).trans ho, ?_⟩
    rw [hd, hset]
    have : y ≠ x := fun z => hc x a hk (z ▸ e)
    rw [if_neg this]
theorem SU.storeC {x : Str} {i : Nat} {v : Value} {a : Addr} {Q : List (Option Value) → PM → Prop} (hk : env.kindOf x = some .cell) (hf : env.scope.kind = .function) (hi : idx ns x = some i) (ha : env.cells.lookup x = some a) (hab : env.locals < a) (q : Q (setN vs i v) u) : SU c env ns A vs (storeName env x v) u Q := fun h tk B E F => by
  obtain ⟨m, hm, hs⟩ := F.nsm
  have hlen : i < vs.length := F.len ▸ idx_lt hi
  have hset := slot_set (vs := vs) (w := v) hi (.inr hlen)
  obtain ⟨o, ho, hd⟩ := F.cell x a ha
  have off := F.offC x a ha
  refine wpAny_storeName_cell hf hk ha ⟨o, ho, hd⟩ fun h' hv hsb => ?_
  obtain ⟨o', ho', hd'⟩ := hv
  refine ⟨h', tk, u, setN vs i v, rfl, q, fun b o e => (hsb.2 b fun z => ?_).trans (E b o e), ⟨fun b o e => (hsb.2 b fun z => ?_).trans (B.keep b o e)⟩, ⟨⟨m, hm.sameBut hsb (Ne.symm off.2.1), fun y hy => ?_⟩, (setN_len _ _ _).trans F.len, fun y b e => ?_, F.offL, F.offC, F.inj, F.newL⟩, fun b o e1 e2 e3 e4 => ⟨(hsb.2 b fun z => e3.elim (fun e3 => Nat.lt_asymm e3 (z ▸ hab)) fun e3 => e3 x (z ▸ ha)).trans e4, e1⟩⟩
  · rw [z, off.1] at e; cases e
  · rw [z, off.2.2] at e; cases e
  · rw [hset]
    have : y ≠ x := fun z => by subst z; rw [hk] at hy; cases hy
    rw [if_neg this]; exact hs y hy
  · rw [hset]
    by_cases e2 : y = x
    · subst e2
      rw [ha] at e; cases e
      exact ⟨o', ho', by rw [hd', if_pos rfl]⟩
    · obtain ⟨o2, ho2, hd2⟩ := F.cell y b e
      have : b ≠ a := fun z => e2 (F.inj y x a (z ▸ e) ha)
      exact ⟨o2, (hsb.2 b this).trans ho2, by rw [hd2, if_neg e2]⟩
theorem SU.bindName {x : Str} {v : Value} {Q : List (Option Value) → PM → Prop} (x' : SU c env ns A vs (storeName env x v) u Q) : SU c env ns A vs (bindName env x v) u Q := fun h tk B E F => wpAny_bindName (x' h tk B E F)
end

/-! targets -/
noncomputable abbrev TT := Cx → Around → List (Option Value) → PM → Value → (List (Option Value) → PM → Prop) → Prop
noncomputable abbrev TTs := Cx → Around → List (Option Value) → PM → List Value → (List (Option Value) → PM → Prop) → Prop
/-- of a frame: names that are local have no cell -/
structure EnvOk2 (sc : Scope) (env : Env) : Prop extends EnvOk sc env where
  loc : ∀ y a, sc.names.lookup y = some .local → env.cells.lookup y ≠ some a
  own : ∀ y a, env.cells.lookup y = some a → env.locals < a
noncomputable def SimT (sc : Scope) (ns : List Str) (e : Expr) (T : TT) : Prop := ∀ c A env vs u v Q, EnvOk2 sc env → T c A vs u v Q → SU c env ns A vs (assign e env v) u Q
noncomputable def SimTs (sc : Scope) (ns : List Str) (es : List Expr) (T : TTs) : Prop := ∀ c A env vs u xs Q, EnvOk2 sc env → T c A vs u xs Q → SU c env ns A vs (assignInOrder ((assignEach es env).map (·.2)) xs) u Q
noncomputable def SimS' (sc : Scope) (ns : List Str) (s : Stmt) (T : ST) : Prop := ∀ c A env vs u Q, EnvOk2 sc env → T c A vs u Q → SJ c env ns A vs (exec s env) u Q
noncomputable def SimSs' (sc : Scope) (ns : List Str) (s : List Stmt) (T : ST) : Prop := ∀ c A env vs u Q, EnvOk2 sc env → T c A vs u Q → SJ c env ns A vs (execs s env) u Q
section
variable {sc : Scope} {ns : List Str}
noncomputable def gSlot (i : Nat) : TT := fun _ _ vs u v Q => Q (setN vs i v) u
theorem gLoc {x : Str} {pos : Pos} (i : Nat) (hk : sc.names.lookup x = some .local) (hi : idx ns x = some i) : SimT sc ns (.Name x pos) (gSlot i) := fun c A env vs u v Q ok q => by
  refine SU.of_eq (arm_assign_Name x pos env v) (SU.at_ (SU.bindName (SU.storeL ?_ (by rw [ok.isSc]; exact ok.k) hi (fun y a hy => ok.loc y a ?_) q)))
  · unfold Env.kindOf; rw [ok.isSc]; exact hk
  · unfold Env.kindOf at hy; rw [ok.isSc] at hy; exact hy
theorem gCell {x : Str} {pos : Pos} (i : Nat) (hk : sc.names.lookup x = some .cell) (hi : idx ns x = some i) : SimT sc ns (.Name x pos) (gSlot i) := fun c A env vs u v Q ok q => by
  obtain ⟨a, ha⟩ := Option.isSome_iff_exists.mp (ok.cells x (.inl hk))
  refine SU.of_eq (arm_assign_Name x pos env v) (SU.at_ (SU.bindName (SU.storeC ?_ (by rw [ok.isSc]; exact ok.k) hi ha (ok.own _ _ ha) q)))
  unfold Env.kindOf; rw [ok.isSc]; exact hk
noncomputable def gAtt (o : ET) (name : Str) : TT := fun c A vs u v Q => o c A vs u fun ov u1 => RU c A (setAttr ov name v) u1 fun _ u2 => Q vs u2
theorem gAttr {o : Expr} {name : Str} {pos : Pos} {a : ET} (so : SimE sc ns o a) : SimT sc ns (.Attribute o name pos) (gAtt a name) := fun c A env vs u v Q ok q =>
  SU.of_eq (arm_assign_Attribute o name pos env v) (SU.bindE (EJ.holding (so _ _ _ _ _ _ ok.toEnvOk q)) fun ov u1 q1 => SU.at_ (SU.bindE (EJ.holding (EJ.of q1)) fun _ u2 q2 => SU.ofE (EJ.release q2)))
noncomputable def gSub (o i : ET) : TT := fun c A vs u v Q => o c A vs u fun ov u1 => i c A vs u1 fun iv u2 => RU c A (setItem ov iv v) u2 fun _ u3 => Q vs u3
theorem gSubs {o i : Expr} {pos : Pos} {a b : ET} (so : SimE sc ns o a) (si : SimE sc ns i b) : SimT sc ns (.Subscript o i pos) (gSub a b) := fun c A env vs u v Q ok q =>
  SU.of_eq (arm_assign_Subscript o i pos env v) (SU.bindE (EJ.holding (so _ _ _ _ _ _ ok.toEnvOk q)) fun ov u1 q1 => SU.bindE (EJ.holding (si _ _ _ _ _ _ ok.toEnvOk q1)) fun iv u2 q2 => SU.at_ (SU.bindE (EJ.holding (EJ.of q2)) fun _ u3 q3 => SU.ofE (EJ.release q3)))
noncomputable def gNil : TTs := fun _ _ vs u _ Q => Q vs u
noncomputable def gCons (a : TT) (l : TTs) : TTs := fun c A vs u xs Q => match xs with
  | x :: xs => a c A vs u x fun vs1 u1 => l c A vs1 u1 xs Q
  | [] => Q vs u
theorem gsNil : SimTs sc ns [] gNil := fun c A env vs u xs Q ok q => by
  show SU c env ns A vs (assignInOrder [] xs) u Q
  unfold assignInOrder
  exact SU.pure q
theorem gsCons {e : Expr} {es : List Expr} {a : TT} {l : TTs} (sa : SimT sc ns e a) (sl : SimTs sc ns es l) (hp : plainE e = true) : SimTs sc ns (e :: es) (gCons a l) := fun c A env vs u xs Q ok q => by
  have e1 : assignEach (e :: es) env = (false, assign e env) :: assignEach es env := by cases e <;> first | rfl | cases hp
  rw [e1]
  cases xs with
  | nil => exact SU.pure q
  | cons x xs => exact SU.bindU (SU.holding (sa _ _ _ _ _ _ _ ok q)) fun vs1 u1 q1 => sl _ _ _ _ _ _ _ ok q1
theorem each_star {env : Env} : ∀ {es : List Expr}, es.all plainE = true → (assignEach es env).findIdx? (·.1) = none ∧ (assignEach es env).length = es.length
  | [], _ => ⟨rfl, rfl⟩
  | e :: rest, h => by
    obtain ⟨h1, h2⟩ := Bool.and_eq_true_iff.mp (show (plainE e && rest.all plainE) = true from h)
    have e1 : assignEach (e :: rest) env = (false, assign e env) :: assignEach rest env := by cases e <;> first | rfl | cases h1
    rw [e1]
    have ih := each_star (env := env) h2
    refine ⟨?_, by simp [ih.2]⟩
    rw [List.findIdx?_cons, ih.1]; rfl
noncomputable def gTup (n : Nat) (l : TTs) : TT := fun c A vs u v Q => RU c A (unpackItems v n none) u fun xs u1 => l c A vs u1 xs Q
theorem gTuple {es : List Expr} {k : Nat} {pos : Pos} {l : TTs} (sl : SimTs sc ns es l) (hp : es.all plainE = true) : SimT sc ns (.Tuple es k pos) (gTup es.length l) := fun c A env vs u v Q ok q => by
  refine SU.of_eq (arm_assign_Tuple es k pos env v) (SU.at_ ?_)
  unfold unpack
  obtain ⟨e1, e2⟩ := each_star (env := env) hp
  rw [e1, e2]
  exact SU.bindE (EJ.holding (EJ.of q)) fun xs u1 q1 => sl _ _ _ _ _ _ _ ok q1

/-! statements -/
noncomputable def notComp : Expr → Bool
  | .ListComp .. | .SetComp .. | .DictComp .. => false
  | _ => true
theorem swaps_no {value : Expr} {t : Option Expr} {line : Nat} {env : Env} (h : notComp value = true) : swapsWith value t line env = pure false := by
  unfold swapsWith
  cases value <;> first | rfl | cases h
noncomputable def tNil : ST := fun _ _ vs u Q => Q .next vs u
noncomputable def tSeq (a b : ST) : ST := fun c A vs u Q => a c A vs u fun f vs' u' => match f with
  | .next => b c A vs' u' Q
  | f => Q f vs' u'
theorem ssNil : SimSs' sc ns [] tNil := fun _ _ _ _ _ _ _ q => SJ.pure q
theorem ssCons {s : Stmt} {ss : List Stmt} {a b : ST} (sa : SimS' sc ns s a) (sb : SimSs' sc ns ss b) : SimSs' sc ns (s :: ss) (tSeq a b) := fun c A env vs u Q ok q =>
  SJ.of_eq (execs_cons env s ss) (SJ.bindS (sa _ _ _ _ _ _ ok q) fun f vs1 u1 q1 => by
    cases f with
    | next => exact sb _ _ _ _ _ _ ok q1
    | brk => exact SJ.pure q1
    | cont => exact SJ.pure q1
    | ret v => exact SJ.pure q1)
noncomputable def tRet (a : ET) : ST := fun c A vs u Q => a c A vs u fun v u1 => Q (.ret v) vs u1
theorem stRet {e : Expr} {pos : Pos} {a : ET} (sa : SimE sc ns e a) : SimS' sc ns (.Return (some e) pos) (tRet a) := fun c A env vs u Q ok q =>
  SJ.of_eq (exec_Return_some env e pos) (SJ.at_ (SJ.bindE (sa _ _ _ _ _ _ ok.toEnvOk q) fun v u1 q1 => SJ.pure q1))
noncomputable def tExp (a : ET) : ST := fun c A vs u Q => a c A vs u fun _ u1 => Q .next vs u1
theorem stExp {e : Expr} {pos : Pos} {a : ET} (sa : SimE sc ns e a) (hn : notComp e = true) : SimS' sc ns (.Expr e pos) (tExp a) := fun c A env vs u Q ok q => by
  have hi : interactive env = false := by unfold interactive; rw [ok.isSc, ok.k]; rfl
  refine SJ.of_eq (exec_Expr env e pos hi (swaps_no hn)) (SJ.at_ (SJ.bindE (sa _ _ _ _ _ _ ok.toEnvOk q) fun v u1 q1 => ?_))
  exact fun h tk B E F => wpAny_dropValue ⟨h, tk, u1, vs, rfl, q1, E, B, F, (Kp.refl u1 h).toS⟩
noncomputable def tAss (a : ET) (g : TT) : ST := fun c A vs u Q => a c A vs u fun v u1 => g c A vs u1 v fun vs2 u2 => Q .next vs2 u2
noncomputable def tgtOk : Expr → Bool
  | .Tuple .. => false
  | .List .. => false
  | .Starred .. => false
  | _ => true
theorem stAss {e t : Expr} {pos : Pos} {a : ET} {g : TT} (sa : SimE sc ns e a) (sg : SimT sc ns t g) (hn : notComp e = true) (ht : tgtOk t = true) : SimS' sc ns (.Assign [t] e pos) (tAss a g) := fun c A env vs u Q ok q => by
  refine SJ.of_eq (arm_exec_Assign [t] e pos env) (SJ.at_ ?_)
  have h1 : swapsWithSole [t] e pos.line env = pure false := swaps_no hn
  have h2 : swappedStores [t] e env = pure none := by unfold swappedStores; cases t <;> first | rfl | cases ht
  have h3 : (assignEach [t] env).map (·.2) = [assign t env] := by cases t <;> first | rfl | cases ht
  rw [h1, h2, h3]
  refine SJ.bindE (EJ.pure (Q := fun b u1 => b = false ∧ u1 = u) ⟨rfl, rfl⟩) ?_
  rintro _ _ ⟨rfl, rfl⟩
  refine SJ.bindE (sa _ _ _ _ _ _ ok.toEnvOk q) fun v u1 q1 => SJ.bindE (EJ.pure (Q := fun b u2 => b = none ∧ u2 = u1) ⟨rfl, rfl⟩) ?_
  rintro _ _ ⟨rfl, rfl⟩
  exact SJ.bindU (sg _ _ _ _ _ _ _ ok q1) fun vs2 u2 q2 => SJ.pure q2
/-- the answer of swappedStores by the scope alone -/
noncomputable def swN (sc : Scope) (ts vs : List Expr) : Option (Option (List Str)) :=
  if !(ts.length == 2 || ts.length == 3) || vs.length != ts.length then some none
  else if vs.any (fun | .Starred .. => true | _ => false) then some none
  else
    let line := (ts.head?.map (·.pos.line)).getD 0
    let names := ts.filterMap fun
      | .Name id pos => if sc.names.lookup id == some .local && pos.line == line then some id else none
      | _ => none
    if names.length != ts.length || names.eraseDups.length != names.length then some none
    else if vs.all (foldedForSure 8) then some none
    else if vs.all (constantsAlone 8) then none
    else some (some names)
theorem swN_is {env : Env} {ts vs : List Expr} {k k' : Nat} {p p' : Pos} {r : Option (List Str)} (ok : EnvOk sc env) (h : swN sc ts vs = some r) : swappedStores [.Tuple ts k p] (.Tuple vs k' p') env = pure r := by
  have hb : (env.blockKind != .function) = false := by unfold Env.blockKind; rw [ok.isSc, ok.k]; rfl
  have hk : ∀ id, env.kindOf id = sc.names.lookup id := fun id => by unfold Env.kindOf; rw [ok.isSc]
  unfold swappedStores
  simp only [hb, Bool.or_false, hk]
  unfold swN at h
  by_cases h1 : (!(ts.length == 2 || ts.length == 3) || vs.length != ts.length) = true
  · rw [if_pos h1] at h ⊢; cases h; rfl
  · rw [if_neg h1] at h ⊢
    by_cases h2 : (vs.any fun | .Starred .. => true | _ => false) = true
    · rw [if_pos h2] at h; cases h; erw [if_pos h2]
    · rw [if_neg h2] at h; erw [if_neg h2]
      dsimp only at h ⊢
      split at h
      · rename_i h3; cases h; erw [if_pos h3]
      · rename_i h3
        erw [if_neg h3]
        split at h
        · rename_i h4; cases h; erw [if_pos h4]
        · rename_i h4
          erw [if_neg h4]
          split at h
          · cases h
          · rename_i h5; cases h; erw [if_neg h5]; rfl
end
end Mine
end
section
open PySem PySem.W PySem.Calls PyProof.Rows
set_option Elab.async false
set_option maxRecDepth 100000
set_option linter.unusedVariables false
namespace Mine

noncomputable def Le (u u' : PM) : Prop := ∀ b o, u b = some o → u' b = some o
theorem Le.refl (u : PM) : Le u u := fun _ _ e => e
theorem Le.trans {u v w : PM} (x : Le u v) (y : Le v w) : Le u w := fun b o e => y b o (x b o e)

section
variable {sc : Scope} {ns : List Str}
/-! If, AugAssign, Raise -/
noncomputable def tIf (t : BT') (a b : ST) : ST := fun c A vs u Q => t c A vs u fun x u1 => match x with | true => a c A vs u1 Q | false => b c A vs u1 Q
theorem stIf {t : Expr} {x y : List Stmt} {pos : Pos} {b : BT'} {a a' : ST} (st : SimB sc ns t b) (sa : SimSs' sc ns x a) (sb : SimSs' sc ns y a') : SimS' sc ns (.If t x y pos) (tIf b a a') := fun c A env vs u Q ok q =>
  SJ.of_eq (exec_If env t x y pos) (SJ.at_ (SJ.bindE (st _ _ _ _ _ _ ok.toEnvOk q) fun t u1 q1 => by
    cases t with
    | true => exact sa _ _ _ _ _ _ ok q1
    | false => exact sb _ _ _ _ _ _ ok q1))
noncomputable def tAugN (op : Operator) (i : Nat) (a : ET) : ST := fun c A vs u Q => tLoc i c A vs u fun old u0 => a c A vs u0 fun v u1 => RU c A (inplaceOp op old v) u1 fun r u2 => Q .next (setN vs i r) u2
theorem stAugN {x : Str} {op : Operator} {e : Expr} {pos np : Pos} {a : ET} (i : Nat) (hk : sc.names.lookup x = some .local) (hi : idx ns x = some i) (hd : (x == ("__debug__" : Str)) = false) (sa : SimE sc ns e a) : SimS' sc ns (.AugAssign (.Name x np) op e pos) (tAugN op i a) := fun c A env vs u Q ok q => by
  refine SJ.of_eq (arm_exec_AugAssign x np op e pos env) (SJ.at_ ?_)
  have h1 : EJ c env ns A vs (loadName env x) u fun old u0 => a c A vs u0 fun v u1 => RU c A (inplaceOp op old v) u1 fun r u2 => Q .next (setN vs i r) u2 := fun h tk B E F => by
    obtain ⟨m, hm, hs⟩ := F.nsm
    unfold tAugN tLoc at q
    split at q
    · rename_i v hv
      have hl : env.kindOf x = some .local := by unfold Env.kindOf; rw [ok.isSc]; exact hk
      exact wpAny_loadName_local (by rw [ok.isSc]; exact ok.k) hl hm ((hs x hl).trans ((slot_nth hi).trans hv)) (OutX.same q E B)
    · exact q.elim
  refine SJ.bindE h1 fun old u0 q0 => SJ.bindE (EJ.holding (sa _ _ _ _ _ _ ok.toEnvOk q0)) fun v u1 q1 => SJ.at_ (SJ.bindE (EJ.operate (EJ.of q1)) fun r u2 q2 => SJ.at_ (SJ.bindU (SU.bindName (SU.storeL ?_ (by rw [ok.isSc]; exact ok.k) hi (fun y a hy => ok.loc y a ?_) q2)) fun vs1 u3 q3 => SJ.pure q3))
  · unfold Env.kindOf; rw [ok.isSc]; exact hk
  · unfold Env.kindOf at hy; rw [ok.isSc] at hy; exact hy
noncomputable def tAugA (op : Operator) (o : ET) (name : Str) (a : ET) : ST := fun c A vs u Q => o c A vs u fun ov u1 => RU c A (getAttr ov name true) u1 fun old u2 => a c A vs u2 fun v u3 => RU c A (inplaceOp op old v) u3 fun r u4 => RU c A (setAttr ov name r) u4 fun _ u5 => Q .next vs u5
theorem stAugA {o e : Expr} {name : Str} {op : Operator} {pos tp : Pos} {a b : ET} (so : SimE sc ns o a) (sa : SimE sc ns e b) : SimS' sc ns (.AugAssign (.Attribute o name tp) op e pos) (tAugA op a name b) := fun c A env vs u Q ok q =>
  SJ.of_eq (arm_exec_AugAssign_2 o name tp op e pos env) (SJ.at_ (SJ.bindE (so _ _ _ _ _ _ ok.toEnvOk q) fun ov u1 q1 =>
    SJ.bindE (EJ.holding (EJ.at_ (EJ.bindm (EJ.of q1) fun old u2 q2 => EJ.bindm (EJ.holding (sa _ _ _ _ _ _ ok.toEnvOk q2)) fun v u3 q3 => EJ.at_ (EJ.operate (EJ.of q3))))) fun r u4 q4 =>
      SJ.at_ (SJ.bindE (EJ.holding (EJ.of q4)) fun _ u5 q5 => SJ.bindE (EJ.release (Q := fun _ u6 => Q .next vs u6) q5) fun _ u6 q6 => SJ.pure q6)))
noncomputable def tNo : ST := fun _ _ _ _ _ => False
theorem stNo {s : Stmt} : SimS' sc ns s tNo := fun _ _ _ _ _ _ _ q => (show False from q).elim
theorem stRet0 {pos : Pos} : SimS' sc ns (.Return none pos) (tRet (tVal .none)) := fun c A env vs u Q ok q =>
  SJ.of_eq (exec_Return_none env pos) (SJ.at_ (SJ.pure q))

/-! While -/
noncomputable def tWhile (t : BT') (b : ST) : ST := fun c A vs u Q => ∃ (J : Nat → List (Option Value) → PM → Prop) (n : Nat), J n vs u ∧ ∀ n vs1 u1, J n vs1 u1 →
  t c A vs1 u1 fun x u2 => match x with
    | true => b c A vs1 u2 fun f vs3 u3 => match f with
      | .next | .cont => ∃ m, m < n ∧ J m vs3 u3
      | .brk => Q .next vs3 u3
      | .ret v => Q (.ret v) vs3 u3
    | false => Q .next vs1 u2
theorem stWhile {t : Expr} {b : List Stmt} {pos : Pos} {tt : BT'} {tb : ST} (st : SimB sc ns t tt) (sb : SimSs' sc ns b tb) : SimS' sc ns (.While t b [] pos) (tWhile tt tb) := fun c A env vs u Q ok q h tk B E F => by
  obtain ⟨J, n, h0, step⟩ := q
  refine wpAny_While (codeAny_whileLoop (fun n s' => ∃ h' tk' vs' u', s' = sh c h' tk' ∧ J n vs' u' ∧ Emb u' h' ∧ Base c h' ∧ Fm c env ns vs' u' h' ∧ KpS env u h h' u') ?_ n ⟨h, tk, vs, u, rfl, h0, E, B, F, (Kp.refl _ _).toS⟩)
  rintro n _ ⟨h1, tk1, vs1, u1, rfl, hJ, E1, B1, F1, K1⟩
  refine wpAny_mono (st _ _ _ _ _ _ ok.toEnvOk (step n vs1 u1 hJ) h1 tk1 B1 E1 F1) (fun x s2 z => ?_) fun _ _ x => x.elim
  obtain ⟨h2, tk2, u2, rfl, q2, E2, B2, K2⟩ := z
  cases x with
  | true =>
    refine wpAny_mono (sb _ _ _ _ _ _ ok q2 h2 tk2 B2 E2 (F1.kp K2)) (fun f s3 z => ?_) fun _ _ x => x.elim
    obtain ⟨h3, tk3, u3, vs3, rfl, q3, E3, B3, F3, K3⟩ := z
    have K' := (K1.trans K2.toS).trans K3
    cases f with
    | next => obtain ⟨m, hm, hj⟩ := q3; exact ⟨m, hm, h3, tk3, vs3, u3, rfl, hj, E3, B3, F3, K'⟩
    | cont => obtain ⟨m, hm, hj⟩ := q3; exact ⟨m, hm, h3, tk3, vs3, u3, rfl, hj, E3, B3, F3, K'⟩
    | brk => exact ⟨h3, tk3, u3, vs3, rfl, q3, E3, B3, F3, K'⟩
    | ret v => exact ⟨h3, tk3, u3, vs3, rfl, q3, E3, B3, F3, K'⟩
  | false =>
    exact wpAny_execs_nil ⟨h2, tk2, u2, vs1, rfl, q2, E2, B2, F1.kp K2, K1.trans K2.toS⟩

end

/-! For -/
structure Turns (c : Cx) (A : Around) (tgt : Expr) (I : Addr) (wr : List Addr) (n : Nat) (H : PM → Prop) (P : Nat → Value → PM → Prop) (S : Nat → PM → Heap → Prop) : Prop where
  item : ∀ i u h tk (K : Value → Shared → Prop), i < n → Emb u h → S i u h →
    (∀ v h1 tk1 u1, Le u u1 → (∀ b o, u b = none → h.get? b = some o → u1 b = none) → P i v u1 → Emb u1 h1 → S (i + 1) u1 h1 → (∀ b o, b ∉ wr → h.get? b = some o → h1.get? b = some o) → K v (sh c h1 tk1)) →
    wpAny (MM c) A (pyNext (.ref I)) (fun r s1 => match r with | some v => wpAny (MM c) A (letOwnedTupleGo tgt (.ref I) v) (fun _ s2 => K v s2) no s1 | none => False) no (sh c h tk)
  done : ∀ u h tk (Q : Shared → Prop), Emb u h → S n u h → (∀ h1 tk1, Emb u h1 → (∀ b o, b ∉ wr → h.get? b = some o → h1.get? b = some o) → Q (sh c h1 tk1)) →
    wpAny (MM c) A (pyNext (.ref I)) (fun r s1 => match r with | some _ => False | none => Q s1) no (sh c h tk)
  mono : ∀ u u', Le u u' → H u → H u'
  self : ∀ i u h tk (Q : Value → Shared → Prop), Emb u h → S i u h → Q (.ref I) (sh c h tk) → wpAny (MM c) A (pyIter (.ref I)) Q no (sh c h tk)
  frame : ∀ i u h u' h', S i u h → Emb u h → Emb u' h' → H u → H u' → (∀ b ∈ wr, ∀ o, u b = none → h.get? b = some o → h'.get? b = some o ∧ u' b = none) → S i u' h'
noncomputable def Iters (c : Cx) (A : Around) (tgt : Expr) (x : Value) (u u' : PM) (n : Nat) (H : PM → Prop) (P : Nat → Value → PM → Prop) : Prop :=
  H u' ∧ Le u' u ∧ ∀ h tk, Base c h → Emb u h → wpAny (MM c) A (pyIter x) (fun it s1 => ∃ I wr S h1 tk1, it = .ref I ∧ s1 = sh c h1 tk1 ∧ Turns c A tgt I wr n H P S ∧ S 0 u' h1 ∧
    (∀ b o, h.get? b = some o → h1.get? b = some o) ∧ (∀ b ∈ wr, (h.get? b = none ∨ u b ≠ none) ∧ c.h0.get? b = none ∧ b < h1.objs.size)) no (sh c h tk)
theorem Le.none {u u' : PM} (x : Le u' u) {b : Addr} (e : u b = none) : u' b = none := by
  cases q : u' b with
  | none => rfl
  | some o => rw [x b o q] at e; cases e

section
variable {c : Cx} {A : Around} {u : PM} {env : Env} {ns : List Str} {vs : List (Option Value)}
theorem Base.of {h h' : Heap} (B : Base c h) (k : ∀ b o, c.h0.get? b = some o → h.get? b = some o → h'.get? b = some o) {L : Addr} (hl : c.h0.get? L = none) {o : Obj} (e : h'.get? L = some o) : Base c h' :=
  ⟨fun b o e => k b o e (B.keep b o e)⟩
theorem Fm.got {h : Heap} (F : Fm c env ns vs u h) : ∃ o, h.get? env.locals = some o := by
  obtain ⟨m, ⟨oL, es, ep, hL, r⟩, hs⟩ := F.nsm; exact ⟨oL, hL⟩

/-- a turn keeps the frame -/
theorem Fm.turn {h h1 : Heap} {u1 : PM} {wr : List Addr} (F : Fm c env ns vs u h) (kn : ∀ b o, u b = none → h.get? b = some o → u1 b = none) (kh : ∀ b o, b ∉ wr → h.get? b = some o → h1.get? b = some o)
    (hL : env.locals ∉ wr) (hC : ∀ x a, env.cells.lookup x = some a → a ∉ wr) : Fm c env ns vs u1 h1 := by
  obtain ⟨m, hm, hs⟩ := F.nsm
  obtain ⟨oL, es, ep, hg, r⟩ := id hm
  refine ⟨⟨m, ⟨oL, es, ep, kh _ _ hL hg, r⟩, hs⟩, F.len, fun x a e => ?_, kn _ _ F.offL hg, fun x a e => ?_, F.inj, F.newL⟩
  · obtain ⟨o, ho, hd⟩ := F.cell x a e
    exact ⟨o, kh _ _ (hC x a e) ho, hd⟩
  · obtain ⟨o, ho, hd⟩ := F.cell x a e
    exact ⟨kn _ _ (F.offC x a e).1 ho, (F.offC x a e).2⟩
end

section
variable {sc : Scope} {ns : List Str}
/-- a name, a tuple, other -/
noncomputable def tkind : Expr → Nat
  | .Name .. => 0
  | .Tuple .. => 1
  | _ => 2
noncomputable def tFor (it : ET) (tk : Nat) (g : TT) (b : ST) : ST := fun c A vs u Q => it c A vs u fun x u1 => ∃ n H P u1', (∀ tgt, tkind tgt = tk → Iters c A tgt x u1 u1' n H P) ∧ ∃ J : Nat → List (Option Value) → PM → Prop, J 0 vs u1' ∧
  (∀ i v vs1 u2 u3, i < n → J i vs1 u2 → H u2 → Le u2 u3 → P i v u3 → g c A vs1 u3 v fun vs2 u4 => b c A vs2 u4 fun f vs3 u5 => match f with
    | .next | .cont => H u5 ∧ J (i + 1) vs3 u5
    | .brk => Q .next vs3 u5
    | .ret v => Q (.ret v) vs3 u5) ∧
  ∀ vs1 u2, J n vs1 u2 → H u2 → Q .next vs1 u2
theorem stFor {tgt iter : Expr} {body : List Stmt} {pos : Pos} {it : ET} {g : TT} {b : ST} (si : SimE sc ns iter it) (sg : SimT sc ns tgt g) (sb : SimSs' sc ns body b) (hs : ∀ env x, foldedSetIterable iter env x = pure x) {tkd : Nat} (htk : tkind tgt = tkd) : SimS' sc ns (.For tgt iter body [] pos) (tFor it tkd g b) := fun c A env vs u Q ok q h tk B E F => by
  refine wpAny_For (wpAny_mono (si _ _ _ _ _ _ ok.toEnvOk q h tk B E F) (fun x s1 z => ?_) fun _ _ x => x.elim) (hs env)
  obtain ⟨h1, tk1, u1, rfl, q1, E1, B1, K1⟩ := z
  obtain ⟨n, H, P, u1', hIt, J, h0, step, fin⟩ := q1
  obtain ⟨hH, hle, hI⟩ := hIt tgt htk
  have F1 := F.kp K1
  refine wpAny_mono (hI h1 tk1 B1 E1) (fun itv s2 z => ?_) fun _ _ x => x.elim
  obtain ⟨I, wr, S, h2, tk2, rfl, rfl, W, hS, hk, hw⟩ := z
  have offw : ∀ b o, u1 b = none → h1.get? b = some o → b ∉ wr := fun b o e1 e hb => by
    rcases (hw b hb).1 with q | q
    · rw [q] at e; cases e
    · exact q e1
  obtain ⟨oL, hoL⟩ := F1.got
  have hL : env.locals ∉ wr := offw _ _ F1.offL hoL
  have hC : ∀ x a, env.cells.lookup x = some a → a ∉ wr := fun x a e => by obtain ⟨o, ho, _⟩ := F1.cell x a e; exact offw _ _ (F1.offC x a e).1 ho
  have h0w : ∀ b o, c.h0.get? b = some o → b ∉ wr := fun b o e hb => by rw [(hw b hb).2.1] at e; cases e
  have K2 : KpS env u h h2 u1' := fun b o e1 e3 e4 e2 => let ⟨a1, a2⟩ := K1 b o e1 e2; ⟨hk _ _ a1, hle.none a2⟩
  have F2 : Fm c env ns vs u1' h2 := F1.turn (wr := []) (fun _ _ e _ => hle.none e) (fun b o _ e => hk b o e) (by simp) (by simp)
  have B2 : Base c h2 := ⟨fun b o e => hk _ _ (B1.keep b o e)⟩
  have E2 : Emb u1' h2 := fun b o e => hk b o (E1 b o (hle b o e))
  have K0 : ∀ b o, u b = none → b ≠ env.locals → (b < env.locals ∨ ∀ x, env.cells.lookup x ≠ some b) → h.get? b = some o → b ∉ wr := fun b o e1 _ _ e2 => offw b o (K1 b o e1 e2).2 (K1 b o e1 e2).1
  refine codeAny_forLoop_any (fun k s' => ∃ h' tk' vs' u' i, s' = sh c h' tk' ∧ k = n + 1 - i ∧ i ≤ n ∧ J i vs' u' ∧ H u' ∧ S i u' h' ∧ Emb u' h' ∧ Base c h' ∧ Fm c env ns vs' u' h' ∧ KpS env u h h' u' ∧ True) ?_ (n + 1) ⟨h2, tk2, vs, u1', 0, rfl, rfl, Nat.zero_le _, h0, hH, hS, E2, B2, F2, K2, trivial⟩
  rintro k _ ⟨h', tk', vs', u', i, rfl, rfl, hi, hJ, hH', hS', E', B', F', K', -⟩
  obtain ⟨oL', hoL'⟩ := F'.got
  by_cases hlt : i < n
  · refine wpAny_mono (W.item i u' h' tk' (fun v s2 => wpAny (MM c) A (assign tgt env v) (fun _ s₂ => wpAny (MM c) A (execs body env) (fun f s₃ => match f with
            | .next | .cont => ∃ m, m < n + 1 - i ∧ ∃ h' tk' vs' u' i, s₃ = sh c h' tk' ∧ m = n + 1 - i ∧ i ≤ n ∧ J i vs' u' ∧ H u' ∧ S i u' h' ∧ Emb u' h' ∧ Base c h' ∧ Fm c env ns vs' u' h' ∧ KpS env u h h' u' ∧ True
            | .brk => OutS c env ns u h Q .next s₃
            | .ret v => OutS c env ns u h Q (.ret v) s₃) no s₂) no s2) hlt E' hS' fun v h3 tk3 u3 le kn hP E3 hS3 k3 => ?_) (fun r s1 z => ?_) fun _ _ x => x.elim
    · have F3 : Fm c env ns vs' u3 h3 := F'.turn kn k3 hL hC
      have B3 : Base c h3 := B'.of (fun b o e1 e2 => k3 b o (h0w b o e1) e2) F3.newL (F3.got.choose_spec)
      refine wpAny_mono (sg _ _ _ _ _ _ _ ok (step i v vs' u' u3 hlt hJ hH' le hP) h3 tk3 B3 E3 F3) (fun _ s4 z => ?_) fun _ _ x => x
      obtain ⟨h4, tk4, u4, vs4, rfl, q4, E4, B4, F4, K4⟩ := z
      refine wpAny_mono (sb _ _ _ _ _ _ ok q4 h4 tk4 B4 E4 F4) (fun f s5 z => ?_) fun _ _ x => x
      obtain ⟨h5, tk5, u5, vs5, rfl, q5, E5, B5, F5, K5⟩ := z
      have KK5 : KpS env u h h5 u5 := fun b o e1 e3 e4 e2 => by
        obtain ⟨a1, a2⟩ := K' b o e1 e3 e4 e2
        exact (K4.trans K5) b o (kn b o a2 a1) e3 e4 (k3 b o (K0 b o e1 e3 e4 e2) a1)
      have st5 : ∀ hh : H u5, S (i + 1) u5 h5 := fun hh => by
        refine W.frame (i + 1) u3 h3 u5 h5 hS3 E3 E5 (W.mono _ _ le hH') hh fun b hb o e1 e2 => (K4.trans K5) b o e1 (fun e => hL (e ▸ hb)) (.inr fun x e => hC x b e hb) e2
      have goOn : H u5 ∧ J (i + 1) vs5 u5 → ∃ m, m < n + 1 - i ∧ ∃ h' tk' vs' u' i, sh c h5 tk5 = sh c h' tk' ∧ m = n + 1 - i ∧ i ≤ n ∧ J i vs' u' ∧ H u' ∧ S i u' h' ∧ Emb u' h' ∧ Base c h' ∧ Fm c env ns vs' u' h' ∧ KpS env u h h' u' ∧ True := fun ⟨hh, hj⟩ =>
        ⟨n + 1 - (i + 1), by omega, h5, tk5, vs5, u5, i + 1, rfl, rfl, hlt, hj, hh, st5 hh, E5, B5, F5, KK5, trivial⟩
      cases f with
      | next => exact goOn q5
      | cont => exact goOn q5
      | brk => exact ⟨h5, tk5, u5, vs5, rfl, q5, E5, B5, F5, KK5⟩
      | ret v => exact ⟨h5, tk5, u5, vs5, rfl, q5, E5, B5, F5, KK5⟩
    · cases r with
      | none => exact (show False from z).elim
      | some v =>
        refine wpAny_mono z (fun _ s₁' z => wpAny_mono z (fun _ s₂ z => wpAny_mono z (fun f s₃ z => ?_) fun _ _ x => x.elim) fun _ _ x => x.elim) fun _ _ x => x.elim
        cases f <;> exact z
  · have hin : i = n := by omega
    subst hin
    refine wpAny_mono (W.done u' h' tk' (fun s1 => wpAny (MM c) A (execs [] env) (fun f s₃ => OutS c env ns u h Q f s₃) no s1) E' hS' fun h3 tk3 E3 k3 => ?_) (fun r s1 z => ?_) fun _ _ x => x.elim
    · have F3 : Fm c env ns vs' u' h3 := F'.turn (fun _ _ e _ => e) k3 hL hC
      have B3 : Base c h3 := B'.of (fun b o e1 e2 => k3 b o (h0w b o e1) e2) F3.newL (F3.got.choose_spec)
      refine wpAny_execs_nil ⟨h3, tk3, u', vs', rfl, fin _ _ hJ hH', E3, B3, F3, fun b o e1 e3 e4 e2 => ?_⟩
      obtain ⟨a1, a2⟩ := K' b o e1 e3 e4 e2
      exact ⟨k3 b o (K0 b o e1 e3 e4 e2) a1, a2⟩
    · cases r with
      | some _ => exact (show False from z).elim
      | none => exact wpAny_mono z (fun _ _ x => x) fun _ _ x => x.elim
end
end Mine
end
section
open PySem PySem.W PySem.Calls PyProof.Rows
set_option Elab.async false
set_option maxRecDepth 100000
set_option linter.unusedVariables false
namespace Mine

/-! a call of a def -/
noncomputable def vs0 (vals : List Value) (k : Nat) : List (Option Value) := vals.map some ++ List.replicate k none
theorem slot_none : ∀ {ps : List Str} {vs : List (Option Value)} {x : Str}, x ∉ ps → slot ps vs x = none
  | [], _, _, _ => by unfold slot; rfl
  | p :: ps, [], x, _ => by unfold slot; rfl
  | p :: ps, v :: vs, x, h => by
    unfold slot
    rw [if_neg (fun e => h (by rw [e]; exact List.mem_cons_self ..))]
    exact slot_none fun hm => h (List.mem_cons_of_mem _ hm)
theorem slot_rep : ∀ {ps : List Str} {k : Nat} {x : Str}, slot ps (List.replicate k none) x = none
  | [], _, _ => by unfold slot; rfl
  | p :: ps, 0, x => by unfold slot; rfl
  | p :: ps, k + 1, x => by
    rw [List.replicate_succ]; unfold slot
    split
    · rfl
    · exact slot_rep
theorem bindL_slot {kindOf : Str → Option NameKind} {x : Str} (hx : kindOf x = some .local) {rest : List Str} {k : Nat} : ∀ (ps : List Str) (vals : List Value) (m : Str → Option Value), ps.length = vals.length → (ps ++ rest).Nodup →
    bindL kindOf (ps.zip vals) m x = (slot (ps ++ rest) (vs0 vals k) x).or (m x)
  | [], [], m, _, _ => by
    show m x = (slot rest (List.replicate k none) x).or (m x)
    rw [slot_rep]; rfl
  | [], _ :: _, _, h, _ => by cases h
  | _ :: _, [], _, h, _ => by cases h
  | p :: ps, v :: vals, m, h, nd => by
    obtain ⟨n1, n2⟩ := List.nodup_cons.mp (show (p :: (ps ++ rest)).Nodup from nd)
    show bindL kindOf (ps.zip vals) _ x = (slot (p :: (ps ++ rest)) (some v :: vs0 vals k) x).or (m x)
    rw [bindL_slot hx (k := k) ps vals _ (Nat.succ.inj h) n2]
    have u : slot (p :: (ps ++ rest)) (some v :: vs0 vals k) x = if p = x then some v else slot (ps ++ rest) (vs0 vals k) x := by conv => lhs; unfold slot
    rw [u]
    by_cases e : p = x
    · subst e
      rw [slot_none n1, if_pos hx, if_pos rfl, if_pos rfl]; rfl
    · rw [if_neg e]
      split
      · exact congrArg _ (if_neg (Ne.symm e))
      · rfl
theorem bindC_slot {kindOf : Str → Option NameKind} {x : Str} (hx : kindOf x ≠ some .local) {rest : List Str} {k : Nat} : ∀ (ps : List Str) (vals : List Value) (m : Str → Option Value), ps.length = vals.length → (ps ++ rest).Nodup →
    bindC kindOf (ps.zip vals) m x = (slot (ps ++ rest) (vs0 vals k) x).or (m x)
  | [], [], m, _, _ => by
    show m x = (slot rest (List.replicate k none) x).or (m x)
    rw [slot_rep]; rfl
  | [], _ :: _, _, h, _ => by cases h
  | _ :: _, [], _, h, _ => by cases h
  | p :: ps, v :: vals, m, h, nd => by
    obtain ⟨n1, n2⟩ := List.nodup_cons.mp (show (p :: (ps ++ rest)).Nodup from nd)
    show bindC kindOf (ps.zip vals) _ x = (slot (p :: (ps ++ rest)) (some v :: vs0 vals k) x).or (m x)
    rw [bindC_slot hx (k := k) ps vals _ (Nat.succ.inj h) n2]
    have u : slot (p :: (ps ++ rest)) (some v :: vs0 vals k) x = if p = x then some v else slot (ps ++ rest) (vs0 vals k) x := by conv => lhs; unfold slot
    rw [u]
    by_cases e : p = x
    · subst e
      rw [slot_none n1, if_neg hx, if_pos rfl, if_pos rfl]; rfl
    · rw [if_neg e]
      split
      · rfl
      · exact congrArg _ (if_neg (Ne.symm e))
theorem or_none' (a : Option Value) : a.or none = a := by cases a <;> rfl
theorem cells_mem : ∀ {names : List (Str × NameKind)} {n : Nat} {acc : List (Str × Addr)} {x : Str} {a : Addr}, (x, a) ∈ cellsFrom n names acc → (x, a) ∈ acc ∨ (x, NameKind.cell) ∈ names
  | [], _, _, _, _, h => .inl h
  | (nm, kd) :: r, n, acc, x, a, h => by
    unfold cellsFrom at h
    split at h
    · rename_i hk
      rcases cells_mem h with q | q
      · rcases List.mem_cons.mp q with q | q
        · have : kd = .cell := by simpa using hk
          cases q; exact .inr (by rw [this]; exact List.mem_cons_self ..)
        · exact .inl q
      · exact .inr (List.mem_cons_of_mem _ q)
    · rcases cells_mem h with q | q
      · exact .inl q
      · exact .inr (List.mem_cons_of_mem _ q)
/-- what a def's text must satisfy: told by the kernel -/
noncomputable def defOk (d : DefRec) (ns : List Str) (np : Nat) : Bool :=
  (d.scope.kind == .function) && (!d.scope.isCoroutine && (!d.scope.isGenerator &&
  (d.scope.names.all (fun p => p.2 != .free) && (decide ((d.scope.names.map (·.1)).Nodup) && (decide (ns.Nodup) && (decide (np ≤ ns.length) &&
  (ns.take np).all (fun x => d.scope.names.lookup x == some .local || d.scope.names.lookup x == some .cell)))))))
theorem cells_has : ∀ {names : List (Str × NameKind)} {n : Nat} {acc : List (Str × Addr)} {x : Str}, (names.lookup x = some .cell ∨ (acc.lookup x).isSome = true) → ((cellsFrom n names acc).lookup x).isSome = true
  | [], _, _, _, h => h.elim (fun h => nomatch h) id
  | (nm, kd) :: r, n, acc, x, h => by
    unfold cellsFrom
    rw [List.lookup_cons] at h
    cases hb : x == nm with
    | true =>
      rw [hb] at h
      have e : x = nm := beq_iff_eq.mp hb
      split
      · refine cells_has (.inr ?_)
        rw [List.lookup_cons, hb]; rfl
      · rename_i hk
        rcases h with h | h
        · have : kd = .cell := Option.some.inj h
          exact absurd (by rw [this]; rfl) hk
        · exact cells_has (.inr h)
    | false =>
      rw [hb] at h
      split
      · refine cells_has (h.imp (fun h => h) fun h => ?_)
        rw [List.lookup_cons, hb]; exact h
      · exact cells_has h
theorem kind_uniq {names : List (Str × NameKind)} (nd : (names.map (·.1)).Nodup) {x : Str} {k k' : NameKind} (h : names.lookup x = some k) (h' : (x, k') ∈ names) : k' = k := by
  have := lookup_of_mem_nodup' nd h'
  exact Option.some.inj (this.symm.trans h)
where
  lookup_of_mem_nodup' : ∀ {cs : List (Str × NameKind)} {n : Str} {c : NameKind}, (cs.map (·.1)).Nodup → (n, c) ∈ cs → cs.lookup n = some c
  | (n', c') :: cs, n, c, hnd, hm => by
    rw [List.map_cons, List.nodup_cons] at hnd
    rcases List.mem_cons.mp hm with e | hm
    · cases e; simp
    · have hne : n ≠ n' := fun e => hnd.1 (e ▸ List.mem_map.mpr ⟨(n, c), hm, rfl⟩)
      rw [List.lookup_cons, beq_eq_false_iff_ne.mpr hne]
      exact lookup_of_mem_nodup' hnd.2 hm

structure Deeper (A A' : Around) : Prop where
  h : A'.handled = A.handled
  d : A'.depth = A.depth + 1
  g : A'.guards = A.guards
  u : A'.units = A.units + 3
/-- room for k calls on top of one another -/
structure Room (A : Around) (k : Nat) : Prop where
  h : A.handled = none
  d : A.depth + k < 400
  g : A.guards = some []
  u : A.units + 3 * k < 400
theorem Room.lt {A : Around} {k : Nat} (R : Room A k) : A.depth < recursionLimit := Nat.lt_of_le_of_lt (Nat.le_add_right _ k) (Nat.lt_trans R.d (by decide))
theorem Room.step {A A' : Around} {k : Nat} (R : Room A (k + 1)) (D : Deeper A A') : Room A' k := ⟨D.h ▸ R.h, by rw [D.d]; have := R.d; omega, D.g ▸ R.g, by rw [D.u]; have := R.u; omega⟩
theorem Room.le {A : Around} {k j : Nat} (R : Room A k) (h : j ≤ k) : Room A j := ⟨R.h, by have := R.d; omega, R.g, by have := R.u; omega⟩
noncomputable def retOf : Flow → Value
  | .ret v => v
  | _ => .none
/-- a call, as a code -/
noncomputable def RUc (c : Cx) (A : Around) (f : Value) (args : List Value) (u : PM) (Q : Value → PM → Prop) : Prop :=
  ∀ h tk (R : Result → Shared → Prop), Base c h → Emb u h → (∀ v s', OutX c u h Q v s' → R (.ok (.ret v)) s') → codeAny (MM c) A (.call f ⟨args, []⟩) R (sh c h tk)
theorem RUc.ru {c : Cx} {A : Around} {f : Value} {args : List Value} {u : PM} {Q : Value → PM → Prop} (x : RUc c A f args u Q) : RU c A (call f args) u Q := fun h tk B E => wpAny_call (x h tk _ B E fun _ _ z => z)
theorem callDef {c : Cx} {A : Around} {u : PM} {fa cd : Addr} {d : DefRec} {qual : Str} {dV pm : Value} {ns : List Str} {np : Nat} {vals vals' : List Value} {Q : Value → PM → Prop} {T : ST}
    (hK : ∀ P, (KK P).lookup fa = some (fno d qual dV pm cd)) (hC : (cd, qual) ∈ codes) (hok : defOk d ns np = true) (hroom : A.depth < recursionLimit)
    (hb : ∀ s : Shared, (KK c.w.params).In s.heap → BindsTo s (fnOf d.name qual d.params d.body d.scope dV .none .none pm none (.ref cd) .none) ⟨vals, []⟩ ((ns.take np).zip vals')) (hl : vals'.length = np)
    (sim : SimSs' d.scope ns d.body T) (q : ∀ A', Deeper A A' → T c A' (vs0 vals' (ns.length - np)) u (fun f _ u' => Q (retOf f) u')) : RUc c A (.ref fa) vals u Q := fun h tk R B E hR => by
  obtain ⟨o1, hok⟩ := Bool.and_eq_true_iff.mp hok
  obtain ⟨o2, hok⟩ := Bool.and_eq_true_iff.mp hok
  obtain ⟨o3, hok⟩ := Bool.and_eq_true_iff.mp hok
  obtain ⟨o4, hok⟩ := Bool.and_eq_true_iff.mp hok
  obtain ⟨o5, hok⟩ := Bool.and_eq_true_iff.mp hok
  obtain ⟨o6, hok⟩ := Bool.and_eq_true_iff.mp hok
  obtain ⟨o7, o8⟩ := Bool.and_eq_true_iff.mp hok
  replace o1 : d.scope.kind = .function := by simpa using o1
  replace o2 : d.scope.isCoroutine = false := by simpa using o2
  replace o3 : d.scope.isGenerator = false := by simpa using o3
  replace o5 := of_decide_eq_true o5
  replace o6 := of_decide_eq_true o6
  replace o7 := of_decide_eq_true o7
  have hin := c.kin B
  have hsplit : ns = ns.take np ++ ns.drop np := (List.take_append_drop np ns).symm
  have hlen : (ns.take np).length = vals'.length := by rw [List.length_take, hl]; exact Nat.min_eq_left o7
  have nd : (ns.take np ++ ns.drop np).Nodup := hsplit ▸ o6
  refine codeAny_call_function (fd := fnOf d.name qual d.params d.body d.scope dV .none .none pm none (.ref cd) .none) (body := d.body) hroom (hin _ _ (hK _)) rfl o2 o3 rfl ((c.says.2 _ hC).keeps B.keep) (hb (sh c h tk) hin _ _ _ _ ?_)
  refine wpAny_newFunctionEnv_cells o1 (fun x hx => ?_) fun env he s' x => ?_
  · have hm : x.1 ∈ ns.take np := (List.of_mem_zip hx).1
    have := List.all_eq_true.mp o8 _ hm
    rcases Bool.or_eq_true_iff.mp this with t | t
    · exact .inl (by simpa using t)
    · have t' : d.scope.names.lookup x.1 = some .cell := by simpa using t
      exact .inr ⟨t', cells_has (.inl t')⟩
  subst he
  have hkeep := x.toInCall.keep
  refine ⟨(c.lim.keeps B.keep).keeps hkeep, codeAny_func ?_⟩
  obtain ⟨h₁, tk₁, rfl, _⟩ := x.done
  have E1 : Emb u h₁ := fun b o e => hkeep b o (E b o e)
  have cellUp : ∀ n a, (n, a) ∈ cellsFrom (h.objs.size + 1) d.scope.names [] → h.objs.size < a := fun n a hm => x.above n a hm
  have noneAt : ∀ a, h.objs.size ≤ a → u a = none := fun a ha => by
    cases e : u a with
    | none => rfl
    | some o => exact absurd (Heap.lt_size (E a o e)) (Nat.not_lt.mpr ha)
  have ns1 := x.toInCall.ns
  have F : Fm c (newEnv d.scope h.objs.size mainGlobals (cellsFrom (h.objs.size + 1) d.scope.names []) (qual ++ ".<locals>.") (some fa) (.ref cd) none builtinsNs) ns (vs0 vals' (ns.length - np)) u h₁ := by
    refine ⟨⟨_, ns1, fun y hy => ?_⟩, ?_, fun y a e => ?_, noneAt _ (Nat.le_refl _), fun y a e => ?_, fun y z a e1 e2 => ?_, h0new B (Nat.le_refl _)⟩
    · have e := bindL_slot hy (rest := ns.drop np) (k := ns.length - np) (ns.take np) vals' (fun _ => none) hlen nd
      rw [or_none', ← hsplit] at e; exact e
    · unfold vs0; simp [hl]; omega
    · obtain ⟨o, ho, hd⟩ := x.cell y a e
      refine ⟨o, ho, ?_⟩
      have hy : Env.kindOf (newEnv d.scope h.objs.size mainGlobals (cellsFrom (h.objs.size + 1) d.scope.names []) (qual ++ ".<locals>.") (some fa) (.ref cd) none builtinsNs) y ≠ some .local := by
        intro hy
        have hm := mem_of_lookup e
        rcases cells_mem hm with q | q
        · cases q
        · exact nomatch kind_uniq o5 (show d.scope.names.lookup y = some .local from hy) q
      have e := bindC_slot hy (rest := ns.drop np) (k := ns.length - np) (ns.take np) vals' (fun _ => none) hlen nd
      rw [or_none', ← hsplit] at e
      exact hd.trans (congrArg _ e)
    · have hm := cellUp _ _ (mem_of_lookup e)
      exact ⟨noneAt _ (Nat.le_of_lt hm), Nat.ne_of_gt hm, h0new B (Nat.le_of_lt hm)⟩
    · exact name_of_addr x.apart (mem_of_lookup e1) (mem_of_lookup e2)
  have B1 : Base c h₁ := B.of (fun b o e1 e2 => hkeep b o e2) F.newL F.got.choose_spec
  refine wpAny_mono (sim c (A.deeper _) _ _ u _ ⟨⟨rfl, rfl, rfl, o1, fun y hy => ?_⟩, fun y a hy e => ?_, fun y a e => cellUp _ _ (mem_of_lookup e)⟩ (q _ ⟨rfl, rfl, rfl, rfl⟩) h₁ tk₁ B1 E1 F) (fun f s2 z => ?_) fun _ _ x => x.elim
  · rcases hy with hy | hy
    · exact cells_has (.inl hy)
    · have := List.all_eq_true.mp o4 _ (mem_of_lookup hy)
      exact absurd this (by simp)
  · rcases cells_mem (mem_of_lookup e) with q | q
    · cases q
    · exact nomatch kind_uniq o5 hy q
  · obtain ⟨h2, tk2, u2, vs2, rfl, q2, E2, B2, F2, K2⟩ := z
    have K3 : Kp u h h2 u2 := fun b o e1 e2 => by
      have hlt := Heap.lt_size e2
      exact K2 b o e1 (Nat.ne_of_lt hlt) (.inr fun y e => Nat.lt_irrefl _ (Nat.lt_trans (cellUp y b (mem_of_lookup e)) hlt)) (hkeep b o e2)
    cases f <;> exact hR _ _ ⟨h2, tk2, u2, rfl, q2, E2, B2, K3⟩
end Mine
end
section
open PySem PySem.W PySem.Calls PyProof.Rows
set_option Elab.async false
set_option maxRecDepth 100000
set_option linter.unusedVariables false
namespace Mine

noncomputable def upd (u : PM) (a : Addr) (o : Obj) : PM := fun b => if b = a then some o else u b
theorem upd_self {u : PM} {a : Addr} {o : Obj} : upd u a o a = some o := if_pos rfl
theorem upd_ne {u : PM} {a b : Addr} {o : Obj} (h : b ≠ a) : upd u a o b = u b := if_neg h
theorem upd_le {u : PM} {a : Addr} {o : Obj} (h : u a = none) : Le u (upd u a o) := fun b x e => by
  have : b ≠ a := fun z => by rw [z, h] at e; cases e
  rw [upd_ne this]; exact e
theorem emb_upd {u : PM} {h : Heap} {a : Addr} {o : Obj} (E : Emb u h) (e : h.get? a = some o) : Emb (upd u a o) h := fun b x q => by
  by_cases z : b = a
  · subst z; rw [upd_self] at q; cases q; exact e
  · rw [upd_ne z] at q; exact E b x q
noncomputable abbrev lstOf (xs : List Value) (n : Nat) : Obj := { cls := .type "list", data := .seq xs.toArray n }
noncomputable def LstO (o : Obj) (xs : List Value) : Prop := ∃ n, o = lstOf xs n
noncomputable def TupO (o : Obj) (xs : List Value) : Prop := o.cls = .type "tuple" ∧ ∃ n, o.data = .seq xs.toArray n
noncomputable def Lst (u : PM) (a : Addr) (xs : List Value) : Prop := ∃ o, u a = some o ∧ LstO o xs
noncomputable def Tup (u : PM) (a : Addr) (xs : List Value) : Prop := ∃ o, u a = some o ∧ TupO o xs
theorem Lst.isList {u : PM} {h : Heap} {a : Addr} {xs : List Value} (x : Lst u a xs) (E : Emb u h) : h.IsList a xs.toArray := let ⟨o, e, n, d⟩ := x; ⟨o, E _ _ e, by rw [d], n, by rw [d]⟩
theorem Lst.plain {u : PM} {h : Heap} {a : Addr} {xs : List Value} (x : Lst u a xs) (E : Emb u h) : h.PlainList a xs.toArray := let ⟨o, e, n, d⟩ := x; ⟨n, by rw [d] at e; exact E _ _ e⟩
theorem Tup.isTuple {u : PM} {h : Heap} {a : Addr} {xs : List Value} (x : Tup u a xs) (E : Emb u h) : h.IsTuple a xs.toArray := let ⟨o, e, c, n, d⟩ := x; ⟨o, E _ _ e, c, n, d⟩
theorem Lst.le {u u' : PM} {a : Addr} {xs : List Value} (x : Lst u a xs) (l : Le u u') : Lst u' a xs := let ⟨o, e, r⟩ := x; ⟨o, l _ _ e, r⟩
theorem Tup.le {u u' : PM} {a : Addr} {xs : List Value} (x : Tup u a xs) (l : Le u u') : Tup u' a xs := let ⟨o, e, r⟩ := x; ⟨o, l _ _ e, r⟩

/-! iterators -/
section
variable {c : Cx} {A : Around} {u : PM}
theorem letGo_range {E : Value → Shared → Prop} {prog : Program} {w : World} {target : Expr} {I : Addr} {a n k : Int} {v : Value} {Q' : Unit → Shared → Prop} {s' : Shared} (hit : IsRangeIter s'.heap I a n k) (h : Q' () s') :
    wpAny (model prog w) A (letOwnedTupleGo target (.ref I) v) Q' E s' := by
  unfold letOwnedTupleGo
  cases target <;> first
    | exact wpAny_pure h
    | (cases v <;> first
        | exact wpAny_pure h
        | (refine wpAny_bind (wpAny_load hit ?_)
           exact wpAny_pure h))
theorem Turns.ofWalks {tgt : Expr} {I : Addr} {fp wr : List Addr} {n : Nat} {P : Nat → Value → Prop} {St : Nat → Heap → Prop} (W : Walks pw c.w A I fp wr n P St) (srcs : List (Addr × Obj))
    (hfp : ∀ b ∈ fp, b ∈ wr ∨ ∃ o, (b, o) ∈ srcs) (live : ∀ i h, St i h → ∀ b ∈ wr, ∃ o, h.get? b = some o)
    (hgo : ∀ i v (s : Shared) (Q : Unit → Shared → Prop), St i s.heap → Q () s → wpAny (MM c) A (letOwnedTupleGo tgt (.ref I) v) Q no s) :
    Turns c A tgt I wr n (fun u => ∀ p ∈ srcs, u p.1 = some p.2) (fun i v _ => P i v) (fun i u h => St i h ∧ ∀ b ∈ wr, u b = none) where
  item := fun i u h tk K hi E st hK => by
    refine W.item i _ _ _ hi st.1 fun v h' tk' hP st' hk => ?_
    refine hgo _ v _ _ st' (hK v h' tk' u (Le.refl u) (fun _ _ e _ => e) hP (fun b o e => hk b o (fun hb => by rw [st.2 b hb] at e; cases e) (E b o e)) ⟨st', st.2⟩ hk)
  done := fun u h tk Q E st hQ => W.done _ _ _ st.1 fun h' tk' hk => hQ h' tk' (fun b o e => hk b o (fun hb => by rw [st.2 b hb] at e; cases e) (E b o e)) hk
  mono := fun u u' l hu p hp => l _ _ (hu p hp)
  self := fun i u h tk Q E st hQ => W.self i _ _ _ st.1 hQ
  frame := fun i u h u' h' st E E' hu hu' hk => by
    refine ⟨W.frame i h h' st.1 fun b hb o e => ?_, fun b hb => ?_⟩
    · rcases hfp b hb with q | ⟨o', q⟩
      · exact (hk b q o (st.2 b q) e).1
      · have e1 := E _ _ (hu _ q)
        rw [e] at e1
        rw [Option.some.inj e1]
        exact E' _ _ (hu' _ q)
    · obtain ⟨o, e⟩ := live i h st.1 b hb
      exact (hk b hb o (st.2 b hb) e).2
theorem size_none (h : Heap) : h.get? h.objs.size = none := by
  cases e : h.get? h.objs.size with
  | none => rfl
  | some o => exact absurd (Heap.lt_size e) (Nat.lt_irrefl _)
theorem iterOf {tgt : Expr} {x : Value} {n : Nat} {H : PM → Prop} {P : Nat → Value → PM → Prop} (hH : H u)
    (y : ∀ h tk (Q : Value → Shared → Prop), Base c h → Emb u h → (∀ o S, Turns c A tgt h.objs.size [h.objs.size] n H P S → S 0 u (h.push o) → Q (.ref h.objs.size) (sh c (h.push o) tk)) → wpAny (MM c) A (pyIter x) Q no (sh c h tk)) :
    Iters c A tgt x u u n H P := ⟨hH, Le.refl u, fun h tk B E => y h tk _ B E fun o S W hS => ⟨_, _, S, _, _, rfl, rfl, W, hS, fun b o e => Heap.get?_push_of_some _ e, fun b hb => by
      rw [List.mem_singleton.mp hb]
      refine ⟨.inl (size_none h), ?_, by rw [Heap.size_push]; exact Nat.lt_succ_self _⟩
      cases e : c.h0.get? h.objs.size with
      | none => rfl
      | some o => have := B.keep _ _ e; rw [size_none] at this; cases this⟩⟩
theorem iterList {tgt : Expr} {a : Addr} {o : Obj} {xs : List Value} (hh : A.handled = none) (e : u a = some o) (L : LstO o xs) : Iters c A tgt (.ref a) u u xs.length (fun u => ∀ p ∈ [(a, o)], u p.1 = some p.2) (fun i v _ => xs[i]? = some v) :=
  iterOf (by simpa using e) fun h tk Q B E hQ => by
    have hl : h.IsList a xs.toArray := Lst.isList ⟨o, e, L⟩ E
    have hlt : a < h.objs.size := Heap.lt_size (E _ _ e)
    have W := Walks.list (prog := pw) (w := c.w) (A := A) hh h.objs.size a (Nat.ne_of_lt hlt) xs.toArray
    have hn : xs.toArray.size = xs.length := by simp
    rw [hn] at W
    have T := Turns.ofWalks (c := c) (tgt := tgt) W [(a, o)] (fun b hb => by
        rcases List.mem_cons.mp hb with q | q
        · exact .inl (by simp [q])
        · exact .inr ⟨o, by simpa using q⟩) (fun i h st b hb => by
        rw [List.mem_singleton.mp hb]
        obtain ⟨oi, hi, _⟩ := st.1; exact ⟨oi, hi⟩) (fun i v s Q st q => letGo_listiter st.1 q)
    refine wpAny_pyIter_list hl (hQ _ _ ⟨fun i u h tk K hi E st hK => T.item i u h tk K hi E st fun v h1 tk1 u1 l k p => hK v h1 tk1 u1 l k (by simpa using p), T.done, T.mono, T.self, T.frame⟩ ⟨⟨⟨_, Heap.get?_push_size _ rfl, rfl, rfl⟩, hl.at fun o e => Heap.get?_push_of_some _ e⟩, fun b hb => ?_⟩)
    rw [List.mem_singleton.mp hb]; exact emb_new E
theorem iterTuple {tgt : Expr} {a : Addr} {o : Obj} {xs : List Value} (hh : A.handled = none) (e : u a = some o) (L : TupO o xs) : Iters c A tgt (.ref a) u u xs.length (fun u => ∀ p ∈ [(a, o)], u p.1 = some p.2) (fun i v _ => xs[i]? = some v) :=
  iterOf (by simpa using e) fun h tk Q B E hQ => by
    have hl : h.IsTuple a xs.toArray := Tup.isTuple ⟨o, e, L⟩ E
    have hlt : a < h.objs.size := Heap.lt_size (E _ _ e)
    have W := Walks.tuple (prog := pw) (w := c.w) (A := A) hh h.objs.size a (Nat.ne_of_lt hlt) xs.toArray
    have hn : xs.toArray.size = xs.length := by simp
    rw [hn] at W
    have T := Turns.ofWalks (c := c) (tgt := tgt) W [(a, o)] (fun b hb => by
        rcases List.mem_cons.mp hb with q | q
        · exact .inl (by simp [q])
        · exact .inr ⟨o, by simpa using q⟩) (fun i h st b hb => by
        rw [List.mem_singleton.mp hb]
        obtain ⟨oi, hi, _⟩ := st.1; exact ⟨oi, hi⟩) (fun i v s Q st q => letGo_tupleiter st.1 q)
    refine wpAny_pyIter_tuple hl (hQ _ _ ⟨fun i u h tk K hi E st hK => T.item i u h tk K hi E st fun v h1 tk1 u1 l k p => hK v h1 tk1 u1 l k (by simpa using p), T.done, T.mono, T.self, T.frame⟩ ⟨⟨⟨_, Heap.get?_push_size _ rfl, rfl, rfl⟩, hl.at fun o e => Heap.get?_push_of_some _ e⟩, fun b hb => ?_⟩)
    rw [List.mem_singleton.mp hb]; exact emb_new E
theorem fits {i : Int} (h0 : 0 ≤ i) (h1 : i < 1000001) : Builtin.Range.rangeFitsLong i = true := by
  unfold Builtin.Range.rangeFitsLong
  have e : (2 : Int) ^ 63 = 9223372036854775808 := rfl
  rw [Bool.and_eq_true]
  exact ⟨decide_eq_true (by rw [e]; omega), decide_eq_true (by rw [e]; omega)⟩
/-- a range from 0 to n -/
noncomputable def RngO (o : Obj) (n : Nat) : Prop := ∃ t1 t2 t3, o = { cls := .type "range", dict := none, data := .fields #[.int 0 t1, .int n t2, .int 1 t3], slots := #[] }
theorem iterRange {tgt : Expr} {a : Addr} {o : Obj} {n : Nat} (hh : A.handled = none) (e : u a = some o) (L : RngO o n) (hn : n < 1000000) : Iters c A tgt (.ref a) u u n (fun _ => True) (fun i v _ => ∃ t, v = .int i t) :=
  iterOf trivial fun h tk Q B E hQ => by
    obtain ⟨t1, t2, t3, rfl⟩ := L
    have hsz : Builtin.Range.rangeSize 0 (n : Int) 1 = n := by unfold Builtin.Range.rangeSize; simp; omega
    have W := Walks.range (prog := pw) (w := c.w) (A := A) hh h.objs.size 0 1 n
    have T := Turns.ofWalks (c := c) (tgt := tgt) W [] (fun b hb => .inl hb) (fun i h st b hb => by rw [List.mem_singleton.mp hb]; exact ⟨_, st⟩) (fun i v s Q st q => letGo_range st q)
    refine wpAny_pyIter_range (E _ _ e) ?_ (hQ _ _ ⟨fun i u h tk K hi E st hK => T.item i u h tk K hi E st fun v h1 tk1 u1 l k p => hK v h1 tk1 u1 l k (by obtain ⟨t, q⟩ := p; exact ⟨t, by rw [q]; congr 1; omega⟩), T.done, fun _ _ _ _ => trivial, T.self, fun i u h u' h' st E E' _ _ hk => T.frame i u h u' h' st E E' (by simp) (by simp) hk⟩ ⟨?_, fun b hb => ?_⟩)
    · unfold Builtin.Range.small
      rw [hsz, fits (i := 0) (by omega) (by omega), fits (i := (n : Int)) (by omega) (by omega), fits (i := 1) (by omega) (by omega), if_pos (by decide), fits (i := (n : Int) + (1 - 1)) (by omega) (by omega)]
      simp
    · have := Heap.get?_push_size h (o := { cls := .type "range_iterator", data := .fields #[rawInt 0, rawInt (Builtin.Range.rangeSize 0 (n : Int) 1), rawInt 1] }) rfl
      simpa [IsRangeIter, hsz] using this
    · rw [List.mem_singleton.mp hb]; exact emb_new E
theorem letGo_stop {E : Value → Shared → Prop} {prog : Program} {w : World} {x : Str} {pos : Pos} {I v : Value} {Q' : Unit → Shared → Prop} {s' : Shared} (h : Q' () s') : wpAny (model prog w) A (letOwnedTupleGo (.Name x pos) I v) Q' E s' := wpAny_pure h
theorem iterStr {s : Str} {t : Tok} (hh : A.handled = none) : ∀ tgt, tkind tgt = 0 → Iters c A tgt (.str s t) u u s.cps.size (fun _ => True) (fun i v _ => ∃ k t, s.cps[i]? = some k ∧ v = .str ⟨#[k]⟩ t) := fun tgt htk => by
  cases tgt <;> first | (cases htk; done) | skip
  rename_i x pos
  exact iterOf trivial fun h tk Q B E hQ => by
    have go : ∀ ty, Walks pw c.w A h.objs.size [h.objs.size] [h.objs.size] s.cps.size (SignAt s) (fun i h' => h'.IsStrIter h.objs.size ty s t i) → Turns c A (.Name x pos) h.objs.size [h.objs.size] s.cps.size (fun _ => True) (fun i v _ => ∃ k t, s.cps[i]? = some k ∧ v = .str ⟨#[k]⟩ t) (fun i u h' => h'.IsStrIter h.objs.size ty s t i ∧ ∀ b ∈ [h.objs.size], u b = none) := fun ty W => by
      have T := Turns.ofWalks (c := c) (tgt := .Name x pos) W [] (fun b hb => .inl hb) (fun i h st b hb => ?_) (fun i v s Q st q => letGo_stop q)
      · exact ⟨T.item, T.done, fun _ _ _ _ => trivial, T.self, fun i u h u' h' st E E' _ _ hk => T.frame i u h u' h' st E E' (by simp) (by simp) hk⟩
      · rw [List.mem_singleton.mp hb]; obtain ⟨o, e, _⟩ := st; exact ⟨o, e⟩
    have hid : ∀ b ∈ [h.objs.size], u b = none := fun b hb => by rw [List.mem_singleton.mp hb]; exact emb_new E
    cases ha : s.cps.all (· < 128)
    · exact wpAny_pyIter_wide ha (hQ _ _ (go "str_iterator" (Walks.strWide hh _ s t)) ⟨⟨_, Heap.get?_push_size _ rfl, rfl, rfl⟩, hid⟩)
    · exact wpAny_pyIter_ascii ha (hQ _ _ (go "str_ascii_iterator" (Walks.strAscii hh _ s t)) ⟨⟨_, Heap.get?_push_size _ rfl, rfl, rfl⟩, hid⟩)

noncomputable abbrev enumO (it : Addr) : Obj := { cls := .type "enumerate", dict := none, data := .fields #[.none, .bool false, .ref it, rawInt 0, .none, .none], slots := #[] }
noncomputable def LitO (o : Obj) (l : Addr) : Prop := o.cls = .type "list_iterator" ∧ o.data = .fields #[.ref l, .int 0 0]
theorem enumCall {l : Addr} {xs : List Value} {Q : Value → PM → Prop} (L : Lst u l xs)
    (q : ∀ e it oi, u e = none → u it = none → e ≠ it → c.h0.get? e = none → c.h0.get? it = none → LitO oi l → Q (.ref e) (upd (upd u it oi) e (enumO it))) : RU c A (call (.type "enumerate") [.ref l]) u Q := fun h tk B E => by
  have fresh : ∀ k, u (h.objs.size + k) = none ∧ c.h0.get? (h.objs.size + k) = none := fun k => by
    refine ⟨?_, ?_⟩
    · cases e : u (h.objs.size + k) with
      | none => rfl
      | some o => exact absurd (emb_lt E e) (Nat.not_lt.mpr (Nat.le_add_right _ _))
    · cases e : c.h0.get? (h.objs.size + k) with
      | none => rfl
      | some o => exact absurd (Heap.lt_size (B.keep _ _ e)) (Nat.not_lt.mpr (Nat.le_add_right _ _))
  refine call_enumerate_list (L.isList E) fun h' he hit hsz hk => ?_
  obtain ⟨oi, hoi, hc, hd⟩ := hit
  have f1 := fresh 1
  have f0 := fresh 0
  refine OutX.mk (q (h.objs.size + 1) h.objs.size oi f1.1 f0.1 (Nat.succ_ne_self _) f1.2 f0.2 ⟨hc, hd⟩) (emb_upd (emb_upd (fun b o e => hk b o (E b o e)) hoi) he) ⟨fun b o e => hk _ _ (B.keep b o e)⟩ fun b o e1 e2 => ⟨hk _ _ e2, ?_⟩
  have hlt := Heap.lt_size e2
  rw [upd_ne (Nat.ne_of_lt (Nat.lt_succ_of_lt hlt)), upd_ne (Nat.ne_of_lt hlt)]; exact e1
theorem iterEnum {a e it : Addr} {o oi : Obj} {xs : List Value} (hh : A.handled = none) (ea : u a = some o) (L : LstO o xs) (hi : LitO oi a) (he : u e = none) (hit : u it = none) (hne : e ≠ it) (h0e : c.h0.get? e = none) (h0i : c.h0.get? it = none) :
    ∀ tgt, tkind tgt = 1 → Iters c A tgt (.ref e) (upd (upd u it oi) e (enumO it)) u xs.length (fun u => ∀ p ∈ [(a, o)], u p.1 = some p.2) (fun i v u => ∃ T t x, v = .ref T ∧ xs[i]? = some x ∧ Tup u T [.int i t, x]) := fun tgt htk => by
  cases tgt <;> first | (cases htk; done) | skip
  rename_i es k pos
  have le : Le u (upd (upd u it oi) e (enumO it)) := (upd_le hit).trans (upd_le (by rw [upd_ne hne]; exact he))
  have hae : a ≠ e := fun z => by rw [z, he] at ea; cases ea
  have hai : a ≠ it := fun z => by rw [z, hit] at ea; cases ea
  refine ⟨by simpa using ea, le, fun h tk B E => ?_⟩
  have W := WalksT.enumerate (prog := pw) (w := c.w) (A := A) hh e it a hne hae hai xs.toArray
  have hn : xs.toArray.size = xs.length := by simp
  rw [hn] at W
  have E0 : Emb u h := fun b o x => E b o (le b o x)
  have hE : IsEnum h e it 0 .none := E e _ upd_self
  have hI : h.get? it = some oi := E it _ (by rw [upd_ne hne.symm]; exact upd_self)
  have hl : h.IsList a xs.toArray := Lst.isList ⟨o, ea, L⟩ E0
  refine wpAny_pyIter_enum hE ⟨e, [e, it], fun i u h => ((∃ old, IsEnum h e it i old) ∧ h.IsListIter it a i ∧ h.IsList a xs.toArray) ∧ u e = none ∧ u it = none, h, tk, rfl, rfl, ⟨?_, ?_, fun u u' l hu p hp => l _ _ (hu p hp), fun i u h tk Q E st q => W.self i _ _ _ st.1 q, ?_⟩, ⟨⟨⟨_, hE⟩, ⟨oi, hI, hi⟩, hl⟩, he, hit⟩, fun _ _ e => e, fun b hb => ?_⟩
  · intro i u h tk K hi E st hK
    refine W.item i _ _ _ hi st.1 fun T vals h1 tk1 hP hT hT' hm hk => ?_
    refine W.go es k pos i T _ _ _ hm fun h2 st2 hk2 => ?_
    have hTw := W.apart i T h1 hm
    obtain ⟨oT, hoT, hcT, nT, hdT⟩ := hT'
    have hoT2 : h2.get? T = some oT := hk2 _ _ hTw hoT
    obtain ⟨t, x, hx, rfl⟩ := hP
    have hwu : ∀ b ∈ [e, it], u b = none := fun b hb => by
      rcases List.mem_cons.mp hb with rfl | hb
      · exact st.2.1
      · rw [List.mem_singleton.mp hb]; exact st.2.2
    have huT : u T = none := by
      cases q : u T with
      | none => rfl
      | some o => exact absurd (emb_lt E q) (Nat.not_lt.mpr hT)
    have hke : ∀ b o, b ∉ [e, it] → h.get? b = some o → h2.get? b = some o := fun b o hb q => hk2 b o hb (hk b o hb q)
    have hTe : T ≠ e := fun z => hTw (by simp [z])
    have hTi : T ≠ it := fun z => hTw (by simp [z])
    refine hK (.ref T) h2 tk1 (upd u T oT) (upd_le huT) (fun b o q1 q2 => ?_) ⟨T, t, x, rfl, by simpa using hx, oT, upd_self, hcT, nT, hdT⟩ (emb_upd (fun b o q => hke b o (fun hb => by rw [hwu b hb] at q; cases q) (E b o q)) hoT2) ⟨st2, by rw [upd_ne hTe.symm]; exact st.2.1, by rw [upd_ne hTi.symm]; exact st.2.2⟩ hke
    have hbT : b ≠ T := fun z => absurd (Heap.lt_size q2) (Nat.not_lt.mpr (by rw [z]; exact hT))
    rw [upd_ne hbT]; exact q1
  · intro u h tk Q E st hQ
    have hwu : ∀ b ∈ [e, it], u b = none := fun b hb => by
      rcases List.mem_cons.mp hb with rfl | hb
      · exact st.2.1
      · rw [List.mem_singleton.mp hb]; exact st.2.2
    exact W.done _ _ _ st.1 fun h' tk' hk => hQ h' tk' (fun b o q => hk b o (fun hb => by rw [hwu b hb] at q; cases q) (E b o q)) hk
  · intro i u h u' h' st E E' hu hu' hk
    have hwu : ∀ b ∈ [e, it], u b = none := fun b hb => by
      rcases List.mem_cons.mp hb with rfl | hb
      · exact st.2.1
      · rw [List.mem_singleton.mp hb]; exact st.2.2
    obtain ⟨old, hold⟩ := st.1.1
    obtain ⟨oi', hoi', _⟩ := st.1.2.1
    refine ⟨W.frame i h h' st.1 fun b hb o' q => ?_, (hk e (by simp) _ st.2.1 hold).2, (hk it (by simp) _ st.2.2 hoi').2⟩
    by_cases hbw : b ∈ [e, it]
    · exact (hk b hbw o' (hwu b hbw) q).1
    · have hba : b = a := by
        rcases List.mem_cons.mp hb with z | hb
        · exact absurd (by simp [z]) hbw
        · rcases List.mem_cons.mp hb with z | hb
          · exact absurd (by simp [z]) hbw
          · exact List.mem_singleton.mp hb
      subst hba
      have e1 := E _ _ (hu (b, o) (by simp))
      rw [q] at e1; cases e1
      exact E' _ _ (hu' (b, o) (by simp))
  · rcases List.mem_cons.mp hb with rfl | hb
    · exact ⟨.inr (by rw [upd_self]; simp), h0e, Heap.lt_size hE⟩
    · rw [List.mem_singleton.mp hb]
      exact ⟨.inr (by rw [upd_ne hne.symm, upd_self]; simp), h0i, Heap.lt_size hI⟩
end
end Mine
end
section
open PySem PySem.W PySem.Calls PyProof.Rows
set_option Elab.async false
set_option maxRecDepth 100000
set_option linter.unusedVariables false
namespace Mine

/-! list comprehensions -/
noncomputable def relab0 (scope sc : Scope) : Scope := { scope with names := scope.names.map fun (n, k) => if (k == .free && sc.kind == .function && sc.names.lookup n == some .cell) then (n, .cell) else (n, k) }
theorem relab_eq {scope sc : Scope} {env : Env} (h : env.scope = sc) : relabel scope env = relab0 scope sc := by
  subst h; rfl
/-- what a comprehension's scope must satisfy: told by the kernel -/
noncomputable def compOk (scope sc : Scope) (own fr ns : List Str) (fi : List Nat) : Bool :=
  (scope.kind == .function) && ((sc.kind == .function) && (decide ((scope.names.map (·.1)).Nodup) && (decide ((own ++ fr).Nodup) &&
  (scope.names.all (fun p => (p.2 != .free || (fr.contains p.1 && sc.names.lookup p.1 == some .cell)) && (p.2 != .cell || own.contains p.1)) &&
  (fr.all (fun x => scope.names.lookup x == some .free) && (fr.map (idx ns) == fi.map some))))))
theorem cellsFrom_app : ∀ (names : List (Str × NameKind)) (n : Nat) (acc : List (Str × Addr)), cellsFrom n names acc = cellsFrom n names [] ++ acc
  | [], _, _ => rfl
  | (nm, kd) :: r, n, acc => by
    unfold cellsFrom
    split
    · rw [cellsFrom_app r (n + 1) ((nm, n) :: acc), cellsFrom_app r (n + 1) [(nm, n)], List.append_assoc]; rfl
    · exact cellsFrom_app r n acc
theorem lookup_app {α : Type} : ∀ {l1 l2 : List (Str × α)} {x : Str} {a : α}, (l1 ++ l2).lookup x = some a → l1.lookup x = some a ∨ (l1.lookup x = none ∧ l2.lookup x = some a)
  | [], _, _, _, h => .inr ⟨rfl, h⟩
  | (k, v) :: r, l2, x, a, h => by
    rw [List.cons_append, List.lookup_cons] at h
    rw [List.lookup_cons]
    cases hb : x == k with
    | true => rw [hb] at h; exact .inl h
    | false => rw [hb] at h; exact lookup_app h
theorem closure_is {env : Env} (look : ∀ n, (env.cells.lookup n).isSome = true ∨ True) : ∀ (names : List (Str × NameKind)) (acc : List (Str × Addr)), (∀ p ∈ names, p.2 = .free → (env.cells.lookup p.1).isSome = true) →
    ∃ cl, (forIn names acc fun (x : Str × NameKind) (r : List (Str × Addr)) => (if (x.2 == NameKind.free) = true then do let a ← cellOf env x.1; pure (ForInStep.yield ((x.1, a) :: r)) else pure (ForInStep.yield r) : Sem (ForInStep (List (Str × Addr))))) = pure (cl ++ acc) ∧
      (∀ x a, (x, a) ∈ cl → (x, NameKind.free) ∈ names ∧ env.cells.lookup x = some a) ∧ (∀ x, (x, NameKind.free) ∈ names → ∃ a, (x, a) ∈ cl)
  | [], acc, _ => ⟨[], by rw [List.forIn_nil]; rfl, by simp, by simp⟩
  | (n, k) :: r, acc, h => by
    rw [List.forIn_cons]
    by_cases hk : k = .free
    · subst hk
      obtain ⟨a, ha⟩ := Option.isSome_iff_exists.mp (h (n, .free) (List.mem_cons_self ..) rfl)
      have e : cellOf env n = pure a := by unfold cellOf; rw [ha]
      obtain ⟨cl, e1, e2, e3⟩ := closure_is look r ((n, a) :: acc) fun p hp => h p (List.mem_cons_of_mem _ hp)
      refine ⟨cl ++ [(n, a)], ?_, fun x b hm => ?_, fun x hm => ?_⟩
      · rw [List.append_assoc]
        show (Bind.bind (if (NameKind.free == NameKind.free) = true then do let a ← cellOf env n; pure (ForInStep.yield ((n, a) :: acc)) else pure (ForInStep.yield acc)) _ : Sem _) = _
        rw [if_pos (show (NameKind.free == NameKind.free) = true from rfl), e]
        exact e1
      · rcases List.mem_append.mp hm with q | q
        · exact ⟨List.mem_cons_of_mem _ (e2 x b q).1, (e2 x b q).2⟩
        · cases List.mem_singleton.mp q; exact ⟨List.mem_cons_self .., ha⟩
      · rcases List.mem_cons.mp hm with q | q
        · cases q; exact ⟨a, List.mem_append_right _ (List.mem_singleton.mpr rfl)⟩
        · obtain ⟨b, hb⟩ := e3 x q; exact ⟨b, List.mem_append_left _ hb⟩
    · obtain ⟨cl, e1, e2, e3⟩ := closure_is look r acc fun p hp => h p (List.mem_cons_of_mem _ hp)
      refine ⟨cl, ?_, fun x b hm => ⟨List.mem_cons_of_mem _ (e2 x b hm).1, (e2 x b hm).2⟩, fun x hm => ?_⟩
      · have : (k == NameKind.free) = false := by simpa using hk
        show (Bind.bind (if (k == NameKind.free) = true then do let a ← cellOf env n; pure (ForInStep.yield ((n, a) :: acc)) else pure (ForInStep.yield acc)) _ : Sem _) = _
        rw [this, if_neg (by decide)]
        exact e1
      · rcases List.mem_cons.mp hm with q | q
        · cases q; exact absurd rfl hk
        · exact e3 x q
theorem closureFor_is {scope : Scope} {env : Env} (h : ∀ p ∈ scope.names, p.2 = .free → (env.cells.lookup p.1).isSome = true) :
    ∃ cl, closureFor scope env = pure cl ∧ (∀ x a, (x, a) ∈ cl → (x, NameKind.free) ∈ scope.names ∧ env.cells.lookup x = some a) ∧ (∀ x, (x, NameKind.free) ∈ scope.names → ∃ a, (x, a) ∈ cl) := by
  obtain ⟨cl, e1, e2, e3⟩ := closure_is (env := env) (fun _ => .inr trivial) scope.names [] h
  refine ⟨cl, ?_, e2, e3⟩
  unfold closureFor
  rw [List.append_nil] at e1
  refine Eq.trans ?_ (Eq.trans (congrArg (fun t => t >>= fun cs => (pure cs : Sem (List (Str × Addr)))) e1) rfl)
  congr 1
theorem newEnvComp {M : Model} {A : Around} {E : Value → Shared → Prop} {s : Shared} {scope : Scope} {globals : Addr} {cl : List (Str × Addr)} {qual : Str} {outer : Env} {Q : Env → Shared → Prop}
    (hQ : ∀ h', h'.Ns s.heap.objs.size (fun _ => none) → (∀ b o, s.heap.get? b = some o → h'.get? b = some o) → CellsOk h' (s.heap.objs.size + 1) (cellsFrom (s.heap.objs.size + 1) scope.names []) →
      Q (newEnv scope s.heap.objs.size globals (cellsFrom (s.heap.objs.size + 1) scope.names [] ++ cl) qual none .none (some outer) builtinsNs) { s with heap := h' }) :
    wpAny M A (newFunctionEnv scope globals cl [] qual none .none (some outer)) Q E s := by
  simp only [newFunctionEnv, Option.isSome_some, if_true]
  refine wpAny_bind (wpAny_alloc ?_)
  refine wpAny_bind (wpAny_layCells _ (fun name kind cells => by cases hkc : kind == NameKind.cell <;> simp) _ _ _ _ ?_)
  have ok := cellsFrom_ok scope.names (s.heap.push { cls := .type "dict", data := .dict #[] }) (s.heap.objs.size + 1) [] ⟨fun _ _ hm => (nomatch hm), List.Pairwise.nil⟩ (by rw [Heap.size_push]; exact Nat.le_refl _)
  rw [Heap.size_push] at ok
  rw [show ({ s with heap := s.heap.push { cls := .type "dict", data := .dict #[] } } : Shared).heap.objs.size = s.heap.objs.size + 1 from Heap.size_push .., cellsFrom_app]
  simp only [List.forIn_nil]
  exact wpAny_bind (wpAny_pure (wpAny_pure (hQ _ ((Heap.Ns.new s.heap (.type "dict")).keeps (pushCells_keeps _ _)) (fun b o e => pushCells_keeps _ _ b o (Heap.get?_push_of_some _ e)) ok)))

noncomputable def SimC (sc : Scope) (ns own : List Str) (e : Expr) (T : TT) : Prop := ∀ c A env vs u v Q, EnvOk sc env → (∀ y a, y ∈ own → env.cells.lookup y = some a → env.locals < a) → (∀ y a, sc.names.lookup y = some .local → env.cells.lookup y ≠ some a) → T c A vs u v Q → SU c env ns A vs (assign e env v) u Q
noncomputable def SimCs (sc : Scope) (ns own : List Str) (es : List Expr) (T : TTs) : Prop := ∀ c A env vs u xs Q, EnvOk sc env → (∀ y a, y ∈ own → env.cells.lookup y = some a → env.locals < a) → (∀ y a, sc.names.lookup y = some .local → env.cells.lookup y ≠ some a) → T c A vs u xs Q → SU c env ns A vs (assignInOrder ((assignEach es env).map (·.2)) xs) u Q
noncomputable def SimI (sc : Scope) (ns : List Str) (ifs : List Expr) (T : BT') : Prop := ∀ c A env vs u Q, EnvOk sc env → T c A vs u Q → EJ c env ns A vs (forIn ifs true fun x r => if r = true then do let ok ← isTrue x env (eval x env); pure (ForInStep.yield ok) else pure (ForInStep.yield r)) u Q
section
variable {sc : Scope} {ns own : List Str}
theorem gcLoc {x : Str} {pos : Pos} (i : Nat) (hk : sc.names.lookup x = some .local) (hi : idx ns x = some i) : SimC sc ns own (.Name x pos) (gSlot i) := fun c A env vs u v Q ok ow lc q => by
  refine SU.of_eq (arm_assign_Name x pos env v) (SU.at_ (SU.bindName (SU.storeL ?_ (by rw [ok.isSc]; exact ok.k) hi (fun y a hy => lc y a ?_) q)))
  · unfold Env.kindOf; rw [ok.isSc]; exact hk
  · unfold Env.kindOf at hy; rw [ok.isSc] at hy; exact hy
theorem gcCell {x : Str} {pos : Pos} (i : Nat) (hk : sc.names.lookup x = some .cell) (hi : idx ns x = some i) (ho : x ∈ own) : SimC sc ns own (.Name x pos) (gSlot i) := fun c A env vs u v Q ok ow lc q => by
  obtain ⟨a, ha⟩ := Option.isSome_iff_exists.mp (ok.cells x (.inl hk))
  refine SU.of_eq (arm_assign_Name x pos env v) (SU.at_ (SU.bindName (SU.storeC ?_ (by rw [ok.isSc]; exact ok.k) hi ha (ow _ _ ho ha) q)))
  unfold Env.kindOf; rw [ok.isSc]; exact hk
theorem gcNil : SimCs sc ns own [] gNil := fun c A env vs u xs Q ok ow lc q => by
  show SU c env ns A vs (assignInOrder [] xs) u Q
  unfold assignInOrder
  exact SU.pure q
theorem gcCons {e : Expr} {es : List Expr} {a : TT} {l : TTs} (sa : SimC sc ns own e a) (sl : SimCs sc ns own es l) (hp : plainE e = true) : SimCs sc ns own (e :: es) (gCons a l) := fun c A env vs u xs Q ok ow lc q => by
  have e1 : assignEach (e :: es) env = (false, assign e env) :: assignEach es env := by cases e <;> first | rfl | cases hp
  rw [e1]
  cases xs with
  | nil => exact SU.pure q
  | cons x xs => exact SU.bindU (SU.holding (sa _ _ _ _ _ _ _ ok ow lc q)) fun vs1 u1 q1 => sl _ _ _ _ _ _ _ ok ow lc q1
theorem gcTuple {es : List Expr} {k : Nat} {pos : Pos} {l : TTs} (sl : SimCs sc ns own es l) (hp : es.all plainE = true) : SimC sc ns own (.Tuple es k pos) (gTup es.length l) := fun c A env vs u v Q ok ow lc q => by
  refine SU.of_eq (arm_assign_Tuple es k pos env v) (SU.at_ ?_)
  unfold unpack
  obtain ⟨e1, e2⟩ := each_star (env := env) hp
  rw [e1, e2]
  exact SU.bindE (EJ.holding (EJ.of q)) fun xs u1 q1 => sl _ _ _ _ _ _ _ ok ow lc q1
theorem siNil : SimI sc ns [] bTrue := fun _ _ _ _ _ _ _ q => by
  rw [List.forIn_nil]; exact EJ.pure q
theorem siOne {t : Expr} {b : BT'} (st : SimB sc ns t b) : SimI sc ns [t] b := fun _ _ _ _ _ _ ok q h tk B E F => wpAny_tests_one (st _ _ _ _ _ _ ok q h tk B E F)
end

theorem slot_cons {n : Str} {ns : List Str} {v : Option Value} {vs : List (Option Value)} {x : Str} : slot (n :: ns) (v :: vs) x = if n = x then v else slot ns vs x := rfl
theorem slot_right : ∀ {own fr : List Str} {vals : List (Option Value)} {x : Str}, x ∉ own → slot (own ++ fr) (List.replicate own.length none ++ vals) x = slot fr vals x
  | [], _, _, _, _ => rfl
  | o :: own, fr, vals, x, h => by
    show slot (o :: (own ++ fr)) (none :: (List.replicate own.length none ++ vals)) x = _
    rw [slot_cons, if_neg (fun e => h (by rw [e]; exact List.mem_cons_self ..))]
    exact slot_right fun hm => h (List.mem_cons_of_mem _ hm)
theorem slot_left : ∀ {own fr : List Str} {vals : List (Option Value)} {x : Str}, x ∉ fr → slot (own ++ fr) (List.replicate own.length none ++ vals) x = none
  | [], fr, vals, x, h => by
    show slot fr vals x = none
    exact slot_none h
  | o :: own, fr, vals, x, h => by
    show slot (o :: (own ++ fr)) (none :: (List.replicate own.length none ++ vals)) x = _
    unfold slot
    split
    · rfl
    · exact slot_left h
theorem slot_map : ∀ {fr ns : List Str} {fi : List Nat} {vs : List (Option Value)} {x : Str}, fr.map (idx ns) = fi.map some → x ∈ fr → slot fr (fi.map (nth vs)) x = slot ns vs x
  | [], _, _, _, _, _, h => nomatch h
  | f :: fr, ns, [], _, _, h, _ => by cases h
  | f :: fr, ns, i :: fi, vs, x, h, hm => by
    have h1 : idx ns f = some i := (List.cons.inj h).1
    have h2 : fr.map (idx ns) = fi.map some := (List.cons.inj h).2
    show slot (f :: fr) (nth vs i :: fi.map (nth vs)) x = _
    by_cases e : f = x
    · subst e
      rw [slot_cons, if_pos rfl]; exact (slot_nth h1).symm
    · rw [slot_cons, if_neg e]
      rcases List.mem_cons.mp hm with q | q
      · exact absurd q.symm e
      · exact slot_map h2 q
end Mine
end
section
open PySem PySem.W PySem.Calls PyProof.Rows
set_option Elab.async false
set_option maxRecDepth 100000
set_option linter.unusedVariables false
namespace Mine

structure CompOk (scope sc : Scope) (own fr ns : List Str) (fi : List Nat) : Prop where
  k1 : scope.kind = .function
  k2 : sc.kind = .function
  nd : (scope.names.map (·.1)).Nodup
  nd2 : (own ++ fr).Nodup
  free : ∀ x, (x, NameKind.free) ∈ scope.names → x ∈ fr ∧ sc.names.lookup x = some .cell
  cell : ∀ x, (x, NameKind.cell) ∈ scope.names → x ∈ own
  frL : ∀ x ∈ fr, scope.names.lookup x = some .free
  fiL : fr.map (idx ns) = fi.map some
theorem compOk_is {scope sc : Scope} {own fr ns : List Str} {fi : List Nat} (h : compOk scope sc own fr ns fi = true) : CompOk scope sc own fr ns fi := by
  obtain ⟨h1, h⟩ := Bool.and_eq_true_iff.mp h
  obtain ⟨h2, h⟩ := Bool.and_eq_true_iff.mp h
  obtain ⟨h3, h⟩ := Bool.and_eq_true_iff.mp h
  obtain ⟨h4, h⟩ := Bool.and_eq_true_iff.mp h
  obtain ⟨h5, h⟩ := Bool.and_eq_true_iff.mp h
  obtain ⟨h6, h7⟩ := Bool.and_eq_true_iff.mp h
  refine ⟨by simpa using h1, by simpa using h2, of_decide_eq_true h3, of_decide_eq_true h4, fun x hx => ?_, fun x hx => ?_, fun x hx => ?_, by simpa using h7⟩
  · have := List.all_eq_true.mp h5 _ hx
    simpa using this
  · have := List.all_eq_true.mp h5 _ hx
    simpa using this
  · have := List.all_eq_true.mp h6 _ hx
    simpa using this
/-- a name's kind within the comprehension -/
theorem relab_look {scope sc : Scope} {x : Str} : (relab0 scope sc).names.lookup x = (scope.names.lookup x).map fun k => if (k == .free && sc.kind == .function && sc.names.lookup x == some .cell) then .cell else k := by
  unfold relab0
  show List.lookup x (scope.names.map _) = _
  generalize scope.names = l
  induction l with
  | nil => rfl
  | cons p r ih =>
    obtain ⟨n, k⟩ := p
    simp only [List.map_cons]
    rw [List.lookup_cons]
    show List.lookup x ((if (k == .free && sc.kind == .function && sc.names.lookup n == some .cell) = true then (n, NameKind.cell) else (n, k)) :: _) = _
    have e2 : List.lookup x ((n, k) :: r) = (if x == n then some k else List.lookup x r) := by
      rw [List.lookup_cons]; cases x == n <;> rfl
    rw [e2]
    by_cases hc : (k == .free && sc.kind == .function && sc.names.lookup n == some .cell) = true
    · rw [if_pos hc]
      have e1 : ∀ l, List.lookup x ((n, NameKind.cell) :: l) = (if x == n then some .cell else List.lookup x l) := fun l => by
        rw [List.lookup_cons]; cases x == n <;> rfl
      rw [e1]
      cases hb : x == n with
      | true =>
        rw [beq_iff_eq.mp hb]
        exact (congrArg some (if_pos hc)).symm
      | false => exact ih
    · rw [if_neg hc]
      have e1 : ∀ l, List.lookup x ((n, k) :: l) = (if x == n then some k else List.lookup x l) := fun l => by
        rw [List.lookup_cons]; cases x == n <;> rfl
      rw [e1]
      cases hb : x == n with
      | true =>
        rw [beq_iff_eq.mp hb]
        exact (congrArg some (if_neg hc)).symm
      | false => exact ih
theorem look_mem : ∀ {l : List (Str × Addr)} {x : Str} {a : Addr}, (x, a) ∈ l → (l.lookup x).isSome = true
  | (n, k) :: r, x, a, h => by
    rw [List.lookup_cons]
    cases hb : x == n with
    | true => rfl
    | false =>
      rcases List.mem_cons.mp h with z | z
      · cases z; simp at hb
      · exact look_mem z

section
variable {c : Cx} {A : Around} {u : PM} {env : Env} {ns : List Str} {vs : List (Option Value)} {sc scope : Scope} {own fr : List Str} {fi : List Nat}
/-- the comprehension's own frame -/
theorem comp_frame {h h4 : Heap} {cl : List (Str × Addr)} {C : Addr} {cenv : Env} (K : CompOk scope sc own fr ns fi) (ok : EnvOk sc env) (B : Base c h) (E : Emb u h) (F : Fm c env ns vs u h)
    (hcl : ∀ x a, (x, a) ∈ cl → (x, NameKind.free) ∈ scope.names ∧ env.cells.lookup x = some a) (hcl2 : ∀ x, (x, NameKind.free) ∈ scope.names → ∃ a, (x, a) ∈ cl)
    (hC : h.objs.size ≤ C) (hns : h4.Ns C (fun _ => none)) (hk : ∀ b o, h.get? b = some o → h4.get? b = some o) (hco : CellsOk h4 (C + 1) (cellsFrom (C + 1) scope.names []))
    (e1 : cenv.scope = relabel scope env) (e2 : cenv.locals = C) (e3 : cenv.globals = env.globals) (e4 : cenv.cells = cellsFrom (C + 1) scope.names [] ++ cl) (e5 : cenv.builtins = builtinsNs) :
    EnvOk (relab0 scope sc) cenv ∧ (∀ y a, y ∈ own → cenv.cells.lookup y = some a → C < a) ∧ (∀ y a, (relab0 scope sc).names.lookup y = some .local → cenv.cells.lookup y ≠ some a) ∧
    Fm c cenv (own ++ fr) (List.replicate own.length none ++ fi.map (nth vs)) u h4 ∧ (∀ x a, cenv.cells.lookup x = some a → C < a ∨ (∃ y, env.cells.lookup y = some a)) := by
  have noneAt : ∀ a, h.objs.size ≤ a → u a = none := fun a ha => by
    cases e : u a with
    | none => rfl
    | some o => exact absurd (emb_lt E e) (Nat.not_lt.mpr ha)
  have disj : ∀ x, x ∈ own → x ∈ fr → False := fun x h1 h2 => (List.nodup_append.mp K.nd2).2.2 x h1 x h2 rfl
  have look : ∀ x a, cenv.cells.lookup x = some a → ((x, a) ∈ cellsFrom (C + 1) scope.names [] ∧ x ∈ own ∧ C < a) ∨ ((x, a) ∈ cl ∧ x ∈ fr ∧ env.cells.lookup x = some a) := fun x a e => by
    rw [e4] at e
    rcases lookup_app e with q | ⟨_, q⟩
    · have hm := mem_of_lookup q
      have := (hco.empty x a hm).2
      rcases cells_mem hm with z | z
      · cases z
      · exact .inl ⟨hm, K.cell x z, Nat.lt_of_succ_le this⟩
    · have hm := mem_of_lookup q
      exact .inr ⟨hm, (K.free x (hcl x a hm).1).1, (hcl x a hm).2⟩
  refine ⟨⟨e1.trans (relab_eq ok.isSc), e3.trans ok.gl, e5, K.k1, fun x hx => ?_⟩, fun y a hy e => ?_, fun y a hy e => ?_, ⟨⟨fun _ => none, e2 ▸ hns, fun x hx => ?_⟩, ?_, fun x a e => ?_, ?_, fun x a e => ?_, fun x y a h1 h2 => ?_, ?_⟩, fun x a e => ?_⟩
  · rw [relab_look] at hx
    have hl : scope.names.lookup x = some .cell ∨ scope.names.lookup x = some .free := by
      cases q : scope.names.lookup x with
      | none => rw [q] at hx; simp at hx
      | some k =>
        rw [q] at hx
        cases k <;> simp at hx <;> simp
    have isS : ∀ l1 l2 : List (Str × Addr), (l1.lookup x).isSome = true ∨ (l2.lookup x).isSome = true → ((l1 ++ l2).lookup x).isSome = true := by
      intro l1 l2 h
      induction l1 with
      | nil => exact h.elim (fun h => nomatch h) id
      | cons p r ih =>
        obtain ⟨n, k⟩ := p
        rw [List.cons_append, List.lookup_cons]
        rw [List.lookup_cons] at h
        cases hb : x == n with
        | true => rfl
        | false => rw [hb] at h; exact ih h
    rw [e4]
    rcases hl with q | q
    · exact isS _ _ (.inl (cells_has (.inl q)))
    · obtain ⟨a, ha⟩ := hcl2 x (mem_of_lookup q)
      exact isS _ _ (.inr (look_mem ha))
  · rcases look y a e with q | q
    · exact q.2.2
    · exact absurd q.2.1 fun q => disj y hy q
  · rw [relab_look] at hy
    rcases look y a e with q | q
    · have hm : scope.names.lookup y = some .local := by
        cases z : scope.names.lookup y with
        | none => rw [z] at hy; simp at hy
        | some k => rw [z] at hy; cases k <;> simp at hy <;> first | rfl | (split at hy <;> cases hy)
      rcases cells_mem q.1 with z | z
      · cases z
      · exact nomatch kind_uniq K.nd hm z
    · rw [K.frL y q.2.1] at hy
      have := (K.free y (hcl y a q.1).1).2
      rw [this] at hy; simp [K.k2] at hy
  · refine (slot_left fun hf => ?_).symm
    have hx' : (relab0 scope sc).names.lookup x = some .local := by
      have := hx; unfold Env.kindOf at this; rw [e1, relab_eq ok.isSc] at this; exact this
    rw [relab_look, K.frL x hf] at hx'
    have := (K.free x (mem_of_lookup (K.frL x hf))).2
    rw [this] at hx'; simp [K.k2] at hx'
  · have := congrArg List.length K.fiL
    simp at this
    simp [this]
  · rcases look x a e with q | q
    · obtain ⟨o, ho, hd⟩ := (hco.empty x a q.1).1
      exact ⟨o, ho, by rw [slot_left (fun hf => disj x q.2.1 hf)]; exact hd⟩
    · obtain ⟨o, ho, hd⟩ := F.cell x a q.2.2
      exact ⟨o, hk _ _ ho, by rw [slot_right (fun hf => disj x hf q.2.1), slot_map K.fiL q.2.1]; exact hd⟩
  · rw [e2]; exact noneAt _ hC
  · rw [e2]
    rcases look x a e with q | q
    · exact ⟨noneAt _ (Nat.le_of_lt (Nat.lt_of_le_of_lt hC q.2.2)), Nat.ne_of_gt q.2.2, h0new B (Nat.le_of_lt (Nat.lt_of_le_of_lt hC q.2.2))⟩
    · obtain ⟨o, ho, _⟩ := F.cell x a q.2.2
      exact ⟨(F.offC x a q.2.2).1, Nat.ne_of_lt (Nat.lt_of_lt_of_le (Heap.lt_size ho) hC), (F.offC x a q.2.2).2.2⟩
  · rcases look x a h1 with q | q <;> rcases look y a h2 with z | z
    · exact name_of_addr hco.apart q.1 z.1
    · obtain ⟨o, ho, _⟩ := F.cell y a z.2.2
      exact absurd (Nat.lt_of_lt_of_le (Heap.lt_size ho) hC) (Nat.lt_asymm q.2.2)
    · obtain ⟨o, ho, _⟩ := F.cell x a q.2.2
      exact absurd (Nat.lt_of_lt_of_le (Heap.lt_size ho) hC) (Nat.lt_asymm z.2.2)
    · exact F.inj x y a q.2.2 z.2.2
  · rw [e2]; exact h0new B hC
  · rcases look x a e with q | q
    · exact .inl q.2.2
    · exact .inr ⟨x, q.2.2⟩
end
end Mine
end
section
open PySem PySem.W PySem.Calls PyProof.Rows
set_option Elab.async false
set_option maxRecDepth 100000
set_option linter.unusedVariables false
namespace Mine
section
variable {c : Cx} {A : Around} {env : Env} {ns : List Str} {vs : List (Option Value)} {sc scope : Scope} {own fr : List Str} {fi : List Nat}
noncomputable abbrev JT := Nat → List Value → List (Option Value) → PM → Prop
noncomputable def CompStep (c : Cx) (A : Around) (n : Nat) (H : PM → Prop) (P : Nat → Value → PM → Prop) (J : JT) (g : TT) (ti : BT') (el : ET) : Prop :=
  ∀ i acc v vs1 u2 u3, i < n → J i acc vs1 u2 → H u2 → Le u2 u3 → P i v u3 → g c A vs1 u3 v fun vs2 u4 => ti c A vs2 u4 fun b u5 => match b with
    | true => el c A vs2 u5 fun y u6 => H u6 ∧ J (i + 1) (acc ++ [y]) vs2 u6
    | false => H u5 ∧ J (i + 1) acc vs2 u5

theorem comp_core {elt iter tgt : Expr} {ifs : List Expr} {pos : Pos} {g : TT} {ti : BT'} {el : ET} {cl : List (Str × Addr)} {I : Addr} {wr : List Addr} {n : Nat} {H : PM → Prop} {P : Nat → Value → PM → Prop} {S : Nat → PM → Heap → Prop} {J : JT} {u : PM} {h : Heap} {tk : Nat} {RR : Value → Addr → Result → Shared → Prop}
    (K : CompOk scope sc own fr ns fi) (ok : EnvOk sc env) (sg : SimC (relab0 scope sc) (own ++ fr) own tgt g) (si : SimI (relab0 scope sc) (own ++ fr) ifs ti) (se : SimE (relab0 scope sc) (own ++ fr) elt el)
    (hcl : ∀ x a, (x, a) ∈ cl → (x, NameKind.free) ∈ scope.names ∧ env.cells.lookup x = some a) (hcl2 : ∀ x, (x, NameKind.free) ∈ scope.names → ∃ a, (x, a) ∈ cl)
    (B : Base c h) (E : Emb u h) (F : Fm c env ns vs u h) (W : Turns c A tgt I wr n H P S) (hS : S 0 u h) (hH : H u) (hn : n ≤ sizeLine)
    (hL : env.locals ∉ wr) (hC : ∀ x a, env.cells.lookup x = some a → a ∉ wr) (h0w : ∀ b o, c.h0.get? b = some o → b ∉ wr) (hwb : ∀ b ∈ wr, b < h.objs.size)
    (h0 : J 0 [] (List.replicate own.length none ++ fi.map (nth vs)) u) (step : CompStep c A n H P J g ti el)
    (fin : ∀ D C h' tk' u' acc vs' o, J n acc vs' u' → H u' → u' D = none → h'.get? D = some o → LstO o acc → D ≠ C → u' C = none → h.objs.size ≤ D → h.objs.size ≤ C → c.h0.get? D = none → (∃ m, h'.Ns C m) → Emb u' h' → Base c h' →
      (∀ b o, b ∉ wr → u b = none → h.get? b = some o → h'.get? b = some o ∧ u' b = none) → RR (.ref D) C (.ok .next) (sh c h' tk')) :
    wpAny (MM c) A (newList []) (fun acc s₃ => wpAny (MM c) A (newFunctionEnv scope env.globals cl [] env.qual none .none (some env)) (fun cenv s₄ =>
      codeAny (MM c) A (.compStart (.ListComp elt [⟨tgt, iter, ifs, 0⟩] scope pos) 0 (.ref I) acc { cenv with scope := relabel scope env }) (RR acc cenv.locals) s₄) no s₃) no (sh c h tk) := by
  refine wpAny_newList (wpAny_mono (newEnvComp fun h4 hns hk4 hco => ?_) (fun _ _ x => x) fun _ _ x => x)
  generalize hh3 : (sh c h tk).heap.push { cls := .type "list", dict := none, data := .seq ([] : List Value).toArray } = h3 at hns hk4 hco ⊢
  generalize hDd : (sh c h tk).heap.objs.size = D
  have hD : h.objs.size = D := hDd
  have hCs : h3.objs.size = D + 1 := by rw [← hh3, Heap.size_push, ← hDd]
  generalize hCC : h3.objs.size = C at *
  have hDC : D < C := by rw [hCs]; exact Nat.lt_succ_self _
  have hCle : h.objs.size ≤ C := hD ▸ Nat.le_of_lt hDC
  have ltC : ∀ {b : Nat}, b < h.objs.size → b < C := fun q => Nat.lt_of_lt_of_le q hCle
  have hk : ∀ b o, h.get? b = some o → h4.get? b = some o := fun b o e => hk4 b o (hh3 ▸ Heap.get?_push_of_some _ e)
  have hD4 : h4.get? D = some { cls := .type "list", dict := none, data := .seq ([] : List Value).toArray } := hk4 _ _ (by rw [← hh3, ← hDd]; exact Heap.get?_push_size _ rfl)
  generalize hce : ({ (newEnv scope C env.globals (cellsFrom (C + 1) scope.names [] ++ cl) env.qual none .none (some env) builtinsNs) with scope := relabel scope env } : Env) = cenv
  have e1 : cenv.scope = relabel scope env := by rw [← hce]
  have e2 : cenv.locals = C := by rw [← hce]; rfl
  have e3 : cenv.globals = env.globals := by rw [← hce]; rfl
  have e4 : cenv.cells = cellsFrom (C + 1) scope.names [] ++ cl := by rw [← hce]; rfl
  have e5 : cenv.builtins = builtinsNs := by rw [← hce]; exact ok.bl
  obtain ⟨okc, hown, hloc, Fc, hcells⟩ := comp_frame K ok B E F hcl hcl2 hCle hns hk hco e1 e2 e3 e4 e5
  have noneAt : ∀ a, h.objs.size ≤ a → u a = none := fun a ha => by
    cases e : u a with
    | none => rfl
    | some o => exact absurd (emb_lt E e) (Nat.not_lt.mpr ha)
  have old0 : ∀ a, h.objs.size ≤ a → c.h0.get? a = none := fun a ha => by
    cases e : c.h0.get? a with
    | none => rfl
    | some o => exact absurd (Heap.lt_size (B.keep _ _ e)) (Nat.not_lt.mpr ha)
  have hDw : D ∉ wr := fun hm => Nat.lt_irrefl _ (hD ▸ hwb _ hm)
  have hCw : C ∉ wr := fun hm => Nat.lt_irrefl _ (ltC (hwb _ hm))
  have hcw : ∀ x a, cenv.cells.lookup x = some a → a ∉ wr := fun x a e hm => by
    rcases hcells x a e with q | ⟨y, q⟩
    · exact Nat.lt_asymm q (ltC (hwb _ hm))
    · exact hC y a q hm
  have hcD : ∀ x a, cenv.cells.lookup x = some a → a ≠ D := fun x a e z => by
    rcases hcells x a e with q | ⟨y, q⟩
    · exact Nat.lt_asymm hDC (z ▸ q)
    · obtain ⟨o, ho, _⟩ := F.cell y a q
      exact absurd (Heap.lt_size ho) (by rw [z, hD]; exact Nat.lt_irrefl _)
  have E4 : Emb u h4 := fun b o e => hk b o (E b o e)
  have B4 : Base c h4 := B.of (fun b o _ e => hk b o e) Fc.newL Fc.got.choose_spec
  have hS4 : S 0 u h4 := W.frame 0 u h u h4 hS E E4 hH hH fun b hb o e1 e2 => ⟨hk b o e2, e1⟩
  have loop : ∀ tk, codeAny (MM c) A (.compLoop (.ListComp elt [⟨tgt, iter, ifs, 0⟩] scope pos) 0 (.ref I) (.ref D) cenv) (RR (.ref D) C) (sh c h4 tk) := fun tk4 => by
    refine codeAny_loop rfl (fun k s' => ∃ h' tk' vs' u' i acc, s' = sh c h' tk' ∧ k = n + 1 - i ∧ i ≤ n ∧ J i acc vs' u' ∧ H u' ∧ S i u' h' ∧ Emb u' h' ∧ Base c h' ∧ Fm c cenv (own ++ fr) vs' u' h' ∧
      h'.PlainList D acc.toArray ∧ acc.length ≤ i ∧ u' D = none ∧ ∀ b o, b ∉ wr → u b = none → h.get? b = some o → h'.get? b = some o ∧ u' b = none) (fun k s' hI => ?_) (n + 1)
      ⟨h4, tk4, _, u, 0, [], rfl, rfl, Nat.zero_le _, h0, hH, hS4, E4, B4, Fc, ⟨_, hD4⟩, Nat.le_refl _, noneAt _ (Nat.le_of_eq hD), fun b o _ q1 q2 => ⟨hk b o q2, q1⟩⟩
    obtain ⟨h', tk', vs', u', i, acc, rfl, rfl, hi, hJ, hH', hS', E', B', F', L', hlen, huD, Kq⟩ := hI
    show wpAny _ A ((compTurn (.ListComp elt [⟨tgt, iter, ifs, 0⟩] scope pos) 0 (.ref I) (.ref D) cenv).onRaise (fun x => do noteFrame x cenv; theTreesLotGoes x)) _ _ _
    refine wpAny_onRaise ?_
    rw [compTurn_list]
    have hDlt : D < h'.objs.size := let ⟨_, e⟩ := L'; Heap.lt_size e
    refine wpAny_bind (wpAny_standAt (wpAny_bind ?_))
    by_cases hlt : i < n
    · refine wpAny_mono (W.item i u' h' tk' (fun v s2 => wpAny (MM c) A (assign tgt cenv v) (fun _ s₂ => wpAny (MM c) A (forIn ifs true fun x r => if r = true then do let ok ← isTrue x cenv (eval x cenv); pure (ForInStep.yield ok) else pure (ForInStep.yield r)) (fun b s₃ =>
          if b = true then wpAny (MM c) A (eval elt cenv) (fun x s₄ => wpAny (MM c) A (call (.builtin "list.append") [.ref D, x]) (fun _ s₅ => ∃ m, m < n + 1 - i ∧ ∃ h' tk' vs' u' i acc, s₅ = sh c h' tk' ∧ m = n + 1 - i ∧ i ≤ n ∧ J i acc vs' u' ∧ H u' ∧ S i u' h' ∧ Emb u' h' ∧ Base c h' ∧ Fm c cenv (own ++ fr) vs' u' h' ∧
              h'.PlainList D acc.toArray ∧ acc.length ≤ i ∧ u' D = none ∧ ∀ b o, b ∉ wr → u b = none → h.get? b = some o → h'.get? b = some o ∧ u' b = none) no s₄) no s₃
          else ∃ m, m < n + 1 - i ∧ ∃ h' tk' vs' u' i acc, s₃ = sh c h' tk' ∧ m = n + 1 - i ∧ i ≤ n ∧ J i acc vs' u' ∧ H u' ∧ S i u' h' ∧ Emb u' h' ∧ Base c h' ∧ Fm c cenv (own ++ fr) vs' u' h' ∧
              h'.PlainList D acc.toArray ∧ acc.length ≤ i ∧ u' D = none ∧ ∀ b o, b ∉ wr → u b = none → h.get? b = some o → h'.get? b = some o ∧ u' b = none) no s₂) no s2) hlt E' hS' fun v h5 tk5 u5 le5 kn5 hP5 E5 hS5 k5 => ?_) (fun r s1 z => ?_) fun _ _ x => x.elim
      · have F5 : Fm c cenv (own ++ fr) vs' u5 h5 := F'.turn kn5 k5 (e2 ▸ hCw) hcw
        have B5 : Base c h5 := B'.of (fun b o q1 q2 => k5 b o (h0w b o q1) q2) F5.newL F5.got.choose_spec
        obtain ⟨nD, hoD⟩ := L'
        refine wpAny_mono (sg _ _ _ _ _ _ _ okc (fun y a q1 q2 => e2 ▸ hown y a q1 q2) hloc (step i acc v vs' u' u5 hlt hJ hH' le5 hP5) h5 tk5 B5 E5 F5) (fun _ s6 z => ?_) fun _ _ x => x
        obtain ⟨h6, tk6, u6, vs6, rfl, q6, E6, B6, F6, K6⟩ := z
        refine wpAny_mono (si _ _ _ _ _ _ okc q6 h6 tk6 B6 E6 F6) (fun b s7 z => ?_) fun _ _ x => x
        obtain ⟨h7, tk7, u7, rfl, q7, E7, B7, K7⟩ := z
        have KK : ∀ b o, (b < C) → u5 b = none → h5.get? b = some o → h7.get? b = some o ∧ u7 b = none := fun b o q1 q2 q3 => by
          obtain ⟨a1, a2⟩ := K6 b o q2 (by rw [e2]; exact Nat.ne_of_lt q1) (.inl (by rw [e2]; exact q1)) q3
          exact K7 b o a2 a1
        have uw : ∀ u'' h'', (∀ b o, u5 b = none → b ∈ wr → h5.get? b = some o → h''.get? b = some o ∧ u'' b = none) → Emb u'' h'' → H u'' → S (i + 1) u'' h'' := fun u'' h'' kk EE hh => W.frame (i + 1) u5 h5 u'' h'' hS5 E5 EE (W.mono _ _ le5 hH') hh fun b hb o q1 q2 => kk b o q1 hb q2
        have wC : ∀ b ∈ wr, b < C := fun b hb => ltC (hwb b hb)
        cases b with
        | false =>
          rw [if_neg (by decide)]
          obtain ⟨hh7, hj7⟩ := q7
          have d7 := KK D _ hDC (kn5 D _ huD hoD) (k5 D _ hDw hoD)
          refine ⟨n + 1 - (i + 1), by omega, h7, tk7, vs6, u7, i + 1, acc, rfl, rfl, hlt, hj7, hh7, uw u7 h7 (fun b o q1 q2 q3 => KK b o (wC b q2) q1 q3) E7 hh7, E7, B7, F6.kp K7, ⟨nD, d7.1⟩, Nat.le_succ_of_le hlen, d7.2, fun b o q1 q2 q3 => ?_⟩
          obtain ⟨a1, a2⟩ := Kq b o q1 q2 q3
          have := Heap.lt_size q3
          exact KK b o (ltC this) (kn5 b o a2 a1) (k5 b o q1 a1)
        | true =>
          rw [if_pos rfl]
          refine wpAny_mono (se _ _ _ _ _ _ okc q7 h7 tk7 B7 E7 (F6.kp K7)) (fun y s8 z => ?_) fun _ _ x => x
          obtain ⟨h8, tk8, u8, rfl, ⟨hh8, hj8⟩, E8, B8, K8⟩ := z
          have K58 : ∀ b o, (b < C) → u5 b = none → h5.get? b = some o → h8.get? b = some o ∧ u8 b = none := fun b o q1 q2 q3 => by
            obtain ⟨a1, a2⟩ := KK b o q1 q2 q3; exact K8 b o a2 a1
          have d8 := K58 D _ hDC (kn5 D _ huD hoD) (k5 D _ hDw hoD)
          refine wpAny_list_append_plain ⟨nD, d8.1⟩ (fun h9 L9 sb9 => ?_) (by rw [List.size_toArray]; omega)
          have k9 : ∀ b o, b ∉ [D] → h8.get? b = some o → h9.get? b = some o := fun b o q1 q2 => (sb9.2 b (fun z => q1 (by simp [z]))).trans q2
          have E9 : Emb u8 h9 := fun b o q => k9 b o (fun hm => by rw [List.mem_singleton.mp hm, d8.2] at q; cases q) (E8 b o q)
          have F9 : Fm c cenv (own ++ fr) vs6 u8 h9 := ((F6.kp K7).kp K8).turn (wr := [D]) (fun _ _ q _ => q) k9 (by rw [e2]; simp; exact Nat.ne_of_gt hDC) (fun x a q => by simpa using hcD x a q)
          have B9 : Base c h9 := ⟨fun b o q => k9 b o (fun hm => by rw [List.mem_singleton.mp hm, old0 D (Nat.le_of_eq hD)] at q; cases q) (B8.keep b o q)⟩
          refine ⟨n + 1 - (i + 1), by omega, h9, tk8, vs6, u8, i + 1, acc ++ [y], rfl, rfl, hlt, hj8, hh8, uw u8 h9 (fun b o q1 q2 q3 => ?_) E9 hh8, E9, B9, F9, by simpa using L9, by simp; omega, d8.2, fun b o q1 q2 q3 => ?_⟩
          · have := K58 b o (wC b q2) q1 q3
            exact ⟨k9 b o (fun hm => hDw (List.mem_singleton.mp hm ▸ q2)) this.1, this.2⟩
          · obtain ⟨a1, a2⟩ := Kq b o q1 q2 q3
            have := Heap.lt_size q3
            have z := K58 b o (ltC this) (kn5 b o a2 a1) (k5 b o q1 a1)
            exact ⟨k9 b o (fun hm => Nat.lt_irrefl _ (hD ▸ (List.mem_singleton.mp hm ▸ this))) z.1, z.2⟩
      · cases r with
        | none => exact (show False from z).elim
        | some v =>
          refine wpAny_bind (wpAny_mono z (fun _ s₁' z => wpAny_bind (wpAny_mono z (fun _ s₂ z => wpAny_bind (wpAny_mono z (fun b s₃ z => ?_) fun _ _ x => x.elim)) fun _ _ x => x.elim)) fun _ _ x => x.elim)
          cases b with
          | false => exact wpAny_pure ⟨rfl, z⟩
          | true =>
            rw [if_pos rfl] at z
            exact wpAny_bind (wpAny_bind (wpAny_mono z (fun x s₄ z => wpAny_bind (wpAny_mono z (fun _ s₅ z => wpAny_pure (wpAny_pure ⟨rfl, z⟩)) fun _ _ x => x.elim)) fun _ _ x => x.elim))
    · have hin : i = n := by omega
      subst hin
      refine wpAny_mono (W.done u' h' tk' (fun s1 => RR (.ref D) C (.ok .next) s1) E' hS' fun h5 tk5 E5 k5 => ?_) (fun r s1 z => ?_) fun _ _ x => x.elim
      · obtain ⟨nD, hoD⟩ := L'
        have F5 : Fm c cenv (own ++ fr) vs' u' h5 := F'.turn (fun _ _ q _ => q) k5 (e2 ▸ hCw) hcw
        have B5 : Base c h5 := B'.of (fun b o q1 q2 => k5 b o (h0w b o q1) q2) F5.newL F5.got.choose_spec
        obtain ⟨m, hm, _⟩ := F5.nsm
        refine fin D C h5 tk5 u' acc vs' _ hJ hH' huD (k5 D _ hDw hoD) ⟨nD, rfl⟩ (Nat.ne_of_lt hDC) (e2 ▸ F5.offL) (Nat.le_of_eq hD) hCle (old0 D (Nat.le_of_eq hD)) ⟨m, e2 ▸ hm⟩ E5 B5 fun b o q1 q2 q3 => ?_
        obtain ⟨a1, a2⟩ := Kq b o q1 q2 q3
        exact ⟨k5 b o q1 a1, a2⟩
      · cases r with
        | some _ => exact (show False from z).elim
        | none => exact wpAny_pure z
  have W1 := W.self 0 u h4 tk
  show codeAny (MM c) A (.compStart (.ListComp elt [⟨tgt, iter, ifs, 0⟩] scope pos) 0 (.ref I) (.ref D) cenv) (RR (.ref D) C) (sh c h4 tk)
  exact codeAny_compStart_list (loop tk) (wpAny_mono (W1 (fun it' s' => codeAny (MM c) A (.compLoop (.ListComp elt [⟨tgt, iter, ifs, 0⟩] scope pos) 0 it' (.ref D) cenv) (RR (.ref D) C) s') E4 hS4 (loop tk)) (fun _ _ x => x) fun _ _ x => x.elim)
end
end Mine
end
section
open PySem PySem.W PySem.Calls PyProof.Rows
set_option Elab.async false
set_option maxRecDepth 100000
set_option linter.unusedVariables false
namespace Mine
section
variable {sc scope : Scope} {ns own fr : List Str} {fi : List Nat}
noncomputable def tComp (tk : Nat) (it : ET) (g : TT) (ti : BT') (el : ET) (ol : Nat) (fi : List Nat) : ET := fun c A vs u Q => it c A vs u fun x u1 => ∃ n H P u1', (∀ tgt, tkind tgt = tk → Iters c A tgt x u1 u1' n H P) ∧ n ≤ sizeLine ∧ ∃ J : JT,
  J 0 [] (List.replicate ol none ++ fi.map (nth vs)) u1' ∧ CompStep c A n H P J g ti el ∧
  ∀ acc vs1 u2 D o, J n acc vs1 u2 → H u2 → u2 D = none → c.h0.get? D = none → LstO o acc → Q (.ref D) (upd u2 D o)
theorem names_of {scope sc : Scope} (K : CompOk scope sc own fr ns fi) : ∀ x ∈ scope.names, x.2 = .local → scope.names.lookup x.1 = some .local := fun x hx e => by
  have := kind_uniq.lookup_of_mem_nodup' K.nd (n := x.1) (c := x.2) hx
  rw [this, e]
theorem sComp {elt iter tgt : Expr} {ifs : List Expr} {pos : Pos} {it : ET} {g : TT} {ti : BT'} {el : ET} (hok : compOk scope sc own fr ns fi = true) (st : SimE sc ns iter it) (sg : SimC (relab0 scope sc) (own ++ fr) own tgt g)
    (si : SimI (relab0 scope sc) (own ++ fr) ifs ti) (se : SimE (relab0 scope sc) (own ++ fr) elt el) (hs : ∀ env x, foldedSetIterable iter env x = pure x) {tkd : Nat} (htk : tkind tgt = tkd) :
    SimE sc ns (.ListComp elt [⟨tgt, iter, ifs, 0⟩] scope pos) (tComp tkd it g ti el own.length fi) := fun c A env vs u Q ok q h tk B E F => by
  have K := compOk_is hok
  rw [eval_ListComp]
  obtain ⟨cl, hclos, hcl, hcl2⟩ := closureFor_is (scope := scope) (env := env) fun p hp e => ok.cells p.1 (.inl (K.free p.1 (by rw [← e]; exact hp)).2)
  refine wpAny_comprehension_free (use := none) rfl (hs env) hclos K.k1 (names_of K) (wpAny_mono (st _ _ _ _ _ _ ok q h tk B E F) (fun xv s1 z => ?_) fun _ _ x => x.elim)
  obtain ⟨h1, tk1, u1, rfl, ⟨n, H, P, u1', hIt, hn, J, h0, step, fin⟩, E1, B1, K1⟩ := z
  obtain ⟨hH, hle, hI⟩ := hIt tgt htk
  refine wpAny_mono (hI h1 tk1 B1 E1) (fun itv s2 z => ?_) fun _ _ x => x.elim
  obtain ⟨I, wr, S, h2, tk2, rfl, rfl, W, hS, hk, hw⟩ := z
  have F1 := F.kp K1
  have offw : ∀ b o, u1 b = none → h1.get? b = some o → b ∉ wr := fun b o e1 e hb => by
    rcases (hw b hb).1 with q | q
    · rw [q] at e; cases e
    · exact q e1
  obtain ⟨oL, hoL⟩ := F1.got
  have F2 : Fm c env ns vs u1' h2 := F1.turn (wr := []) (fun _ _ e _ => hle.none e) (fun b o _ e => hk b o e) (by simp) (by simp)
  have B2 : Base c h2 := ⟨fun b o e => hk _ _ (B1.keep b o e)⟩
  have E2 : Emb u1' h2 := fun b o e => hk b o (E1 b o (hle b o e))
  refine comp_core (iter := iter) (pos := pos) (RR := fun acc C => compPost (MM c) A no none (OutX c u h Q) acc C) K ok sg si se hcl hcl2 B2 E2 F2 W hS hH hn (offw _ _ F1.offL hoL)
    (fun x a e => by obtain ⟨o, ho, _⟩ := F1.cell x a e; exact offw _ _ (F1.offC x a e).1 ho) (fun b o e hb => by rw [(hw b hb).2.1] at e; cases e) (fun b hb => (hw b hb).2.2) h0 step ?_
  · intro D C h' tk' u' acc vs' o hJ hH' huD hgD LD hDC huC hD hC h0D hm E' B' kq
    obtain ⟨m, hm⟩ := hm
    refine ⟨m, hm, fun h'' sb => OutX.mk (fin acc vs' u' D o hJ hH' huD h0D LD) (emb_upd (fun b ob e => ?_) ((sb.2 D hDC).trans hgD)) ⟨fun b ob e => ?_⟩ fun b ob e1 e2 => ?_⟩
    · exact (sb.2 b fun z => by rw [z, huC] at e; cases e).trans (E' b ob e)
    · exact (sb.2 b fun z => by
        rw [z] at e
        exact absurd (Heap.lt_size (hk _ _ (B1.keep _ _ e))) (Nat.not_lt.mpr hC)).trans (B'.keep b ob e)
    · obtain ⟨a1, a2⟩ := K1 b ob e1 e2
      have lt2 := Heap.lt_size (hk _ _ a1)
      obtain ⟨a3, a4⟩ := kq b ob (offw b ob a2 a1) (hle.none a2) (hk _ _ a1)
      exact ⟨(sb.2 b (fun z : b = C => absurd lt2 (Nat.not_lt.mpr (z ▸ hC)))).trans a3, by rw [upd_ne (fun z : b = D => absurd lt2 (Nat.not_lt.mpr (z ▸ hD)))]; exact a4⟩
/-- x = [..], x a local name on the same line: the store comes ahead of the comprehension's end -/
noncomputable def swOk (sc scope : Scope) (x : Str) (l1 l2 : Nat) : Bool := sc.names.lookup x == some .local && (l1 == l2 && !(scope.names.any fun (n, k) => n == x && (k == .local || k == .cell)))
noncomputable def tCompS (i : Nat) (a : ET) : ST := fun c A vs u Q => a c A vs u fun v u1 => Q .next (setN vs i v) u1
theorem stComp {elt iter tgt : Expr} {ifs : List Expr} {x : Str} {np pos spos : Pos} {it : ET} {g : TT} {ti : BT'} {el : ET} (i : Nat) (hok : compOk scope sc own fr ns fi = true) (st : SimE sc ns iter it) (sg : SimC (relab0 scope sc) (own ++ fr) own tgt g)
    (si : SimI (relab0 scope sc) (own ++ fr) ifs ti) (se : SimE (relab0 scope sc) (own ++ fr) elt el) (hs : ∀ env x, foldedSetIterable iter env x = pure x) (hw : swOk sc scope x np.line pos.line = true) (hi : idx ns x = some i) {tkd : Nat} (htk : tkind tgt = tkd) :
    SimS' sc ns (.Assign [.Name x np] (.ListComp elt [⟨tgt, iter, ifs, 0⟩] scope pos) spos) (tCompS i (tComp tkd it g ti el own.length fi)) := fun c A env vs u Q ok q => by
  obtain ⟨w1, w2⟩ := Bool.and_eq_true_iff.mp hw
  obtain ⟨w2, w3⟩ := Bool.and_eq_true_iff.mp w2
  have hkx : env.kindOf x = some .local := by unfold Env.kindOf; rw [ok.isSc]; simpa using w1
  have h1 : swapsWithSole [.Name x np] (.ListComp elt [⟨tgt, iter, ifs, 0⟩] scope pos) spos.line env = pure true := by
    have hb : (env.blockKind == .function) = true := by unfold Env.blockKind; rw [ok.isSc, ok.k]; rfl
    unfold swapsWithSole swapsWith
    dsimp only
    have hp : (Expr.ListComp elt [⟨tgt, iter, ifs, 0⟩] scope pos).pos = pos := rfl
    rw [hkx, hb, hp, w2, w3]; rfl
  refine SJ.of_eq (arm_exec_Assign _ _ spos env) (SJ.at_ ?_)
  rw [h1]
  refine SJ.bindE (EJ.pure (Q := fun b u1 => b = true ∧ u1 = u) ⟨rfl, rfl⟩) ?_
  rintro _ _ ⟨rfl, rfl⟩
  rw [if_pos rfl]
  refine SJ.bindU (P := fun vs1 u1 => Q .next vs1 u1) (fun h tk B E F => ?_) fun vs1 u1 q1 => SJ.pure q1
  have K := compOk_is hok
  rw [arm_evalThenUse_ListComp]
  obtain ⟨cl, hclos, hcl, hcl2⟩ := closureFor_is (scope := scope) (env := env) fun p hp e => ok.cells p.1 (.inl (K.free p.1 (by rw [← e]; exact hp)).2)
  refine wpAny_bind (wpAny_mono (Q := fun _ s' => OutU c env ns _ h (fun vs1 u1 => Q .next vs1 u1) () s') ?_ (fun v s' z => wpAny_pure z) fun _ _ x => x)
  refine wpAny_comprehension_free rfl (hs env) hclos K.k1 (names_of K) (wpAny_mono (st _ _ _ _ _ _ ok.toEnvOk q h tk B E F) (fun xv s1 z => ?_) fun _ _ x => x.elim)
  obtain ⟨h1, tk1, u1, rfl, ⟨n, H, P, u1', hIt, hn, J, h0, step, fin⟩, E1, B1, K1⟩ := z
  obtain ⟨hH, hle, hI⟩ := hIt tgt htk
  refine wpAny_mono (hI h1 tk1 B1 E1) (fun itv s2 z => ?_) fun _ _ x => x.elim
  obtain ⟨I, wr, S, h2, tk2, rfl, rfl, W, hS, hk, hw⟩ := z
  have F1 := F.kp K1
  have offw : ∀ b o, u1 b = none → h1.get? b = some o → b ∉ wr := fun b o e1 e hb => by
    rcases (hw b hb).1 with q | q
    · rw [q] at e; cases e
    · exact q e1
  obtain ⟨oL, hoL⟩ := F1.got
  have F2 : Fm c env ns vs u1' h2 := F1.turn (wr := []) (fun _ _ e _ => hle.none e) (fun b o _ e => hk b o e) (by simp) (by simp)
  have B2 : Base c h2 := ⟨fun b o e => hk _ _ (B1.keep b o e)⟩
  have E2 : Emb u1' h2 := fun b o e => hk b o (E1 b o (hle b o e))
  refine comp_core (iter := iter) (pos := pos) (RR := fun acc C => compPost (MM c) A no (some fun v => assignAll v ((assignEach [.Name x np] env).map (·.2))) (fun _ s' => OutU c env ns _ h (fun vs1 u1 => Q .next vs1 u1) () s') acc C) K ok.toEnvOk sg si se hcl hcl2 B2 E2 F2 W hS hH hn (offw _ _ F1.offL hoL)
    (fun x a e => by obtain ⟨o, ho, _⟩ := F1.cell x a e; exact offw _ _ (F1.offC x a e).1 ho) (fun b o e hb => by rw [(hw b hb).2.1] at e; cases e) (fun b hb => (hw b hb).2.2) h0 step ?_
  · intro D C h' tk' u' acc vs' o hJ hH' huD hgD LD hDC huC hD hC h0D hm E' B' kq
    obtain ⟨m, hm⟩ := hm
    have kk : ∀ b ob, u1 b = none → h1.get? b = some ob → h'.get? b = some ob ∧ upd u' D o b = none ∧ b ≠ C := fun b ob a2 a1 => by
      have lt2 := Heap.lt_size (hk _ _ a1)
      obtain ⟨a3, a4⟩ := kq b ob (offw b ob a2 a1) (hle.none a2) (hk _ _ a1)
      exact ⟨a3, by rw [upd_ne (fun z : b = D => absurd lt2 (Nat.not_lt.mpr (z ▸ hD)))]; exact a4, fun z : b = C => absurd lt2 (Nat.not_lt.mpr (z ▸ hC))⟩
    have F' : Fm c env ns vs (upd u' D o) h' := F1.kp fun b ob e1 e2 => ⟨(kk b ob e1 e2).1, (kk b ob e1 e2).2.1⟩
    have E'' : Emb (upd u' D o) h' := emb_upd E' hgD
    have hlL : env.locals < h2.objs.size := Heap.lt_size (hk _ _ hoL)
    have huC' : upd u' D o C = none := by rw [upd_ne hDC.symm]; exact huC
    show wpAny (MM c) A (assign (.Name x np) env (.ref D)) _ no _
    have hst : SU c env ns A vs (assign (.Name x np) env (.ref D)) (upd u' D o) (fun vs1 u1 => Q .next vs1 u1) := SU.of_eq (arm_assign_Name x np env _) (SU.at_ (SU.bindName (SU.storeL hkx (by rw [ok.isSc]; exact ok.k) hi (fun y a hy => ok.loc y a (by unfold Env.kindOf at hy; rw [ok.isSc] at hy; exact hy)) (fin acc vs' u' D o hJ hH' huD h0D LD))))
    refine wpAny_mono (hst h' tk' B' E'' F') (fun _ s3 z => ?_) fun _ _ x => x.elim
    obtain ⟨h3, tk3, u3, vs3, rfl, q3, E3, B3, F3, K3⟩ := z
    obtain ⟨oC, es, ep, hCg, hr⟩ := hm
    have cellC : ∀ y, env.cells.lookup y ≠ some C := fun y e => by
      obtain ⟨oc, hoc, _⟩ := F1.cell y C e
      exact absurd (Heap.lt_size (hk _ _ hoc)) (Nat.not_lt.mpr hC)
    have hC3 := K3 C oC huC' (fun z => absurd hlL (Nat.not_lt.mpr (z ▸ hC))) (.inr cellC) hCg
    refine ⟨m, ⟨oC, es, ep, hC3.1, hr⟩, fun h'' sb => ⟨h'', tk3, u3, vs3, rfl, q3, fun b ob e => ?_, ⟨fun b ob e => ?_⟩, F3.turn (wr := [C]) (fun _ _ e _ => e) (fun b ob hb e => (sb.2 b fun z => hb (by simp [z])).trans e) (by simpa using fun z : env.locals = C => absurd hlL (Nat.not_lt.mpr (z ▸ hC))) (fun y a e => by simpa using fun z : a = C => cellC y (z ▸ e)), fun b ob e1 e3 e4 e2 => ?_⟩⟩
    · exact (sb.2 b fun z => by rw [z, hC3.2] at e; cases e).trans (E3 b ob e)
    · exact (sb.2 b fun z => by
        rw [z] at e
        exact absurd (Heap.lt_size (hk _ _ (B1.keep _ _ e))) (Nat.not_lt.mpr hC)).trans (B3.keep b ob e)
    · obtain ⟨a1, a2⟩ := K1 b ob e1 e2
      obtain ⟨a3, a4, a5⟩ := kk b ob a2 a1
      obtain ⟨a6, a7⟩ := K3 b ob a4 e3 e4 a3
      exact ⟨(sb.2 b a5).trans a6, a7⟩
end
end Mine
end
section
open PySem PySem.W PySem.Calls PyProof.Rows
set_option Elab.async false
set_option maxRecDepth 100000
set_option linter.unusedVariables false
namespace Mine
section
variable {sc : Scope} {ns : List Str}
noncomputable def tSw2 (a : ET) (i j : Nat) : ST := fun c A vs u Q => a c A vs u fun v u1 => RU c A (unpackItems v 2 none) u1 fun xs u2 => match xs with
  | [p, q] => Q .next (setN (setN vs j q) i p) u2
  | _ => False
theorem stSw2 {ts es : List Expr} {k k' : Nat} {p p' pos : Pos} {x y : Str} {a : ET} (i j : Nat) (sa : SimE sc ns (.Tuple es k' p') a) (hw : swN sc ts es = some (some [x, y])) (hi : idx ns x = some i) (hj : idx ns y = some j)
    (hx : sc.names.lookup x = some .local) (hy : sc.names.lookup y = some .local) : SimS' sc ns (.Assign [.Tuple ts k p] (.Tuple es k' p') pos) (tSw2 a i j) := fun c A env vs u Q ok q => by
  refine SJ.of_eq (arm_exec_Assign _ _ pos env) (SJ.at_ ?_)
  have h1 : swapsWithSole [.Tuple ts k p] (.Tuple es k' p') pos.line env = pure false := by unfold swapsWithSole; exact swaps_no rfl
  rw [h1, swN_is ok.toEnvOk hw]
  refine SJ.bindE (EJ.pure (Q := fun b u1 => b = false ∧ u1 = u) ⟨rfl, rfl⟩) ?_
  rintro _ _ ⟨rfl, rfl⟩
  rw [if_neg (by decide)]
  refine SJ.bindE (sa _ _ _ _ _ _ ok.toEnvOk q) fun v u1 q1 => SJ.bindE (EJ.pure (Q := fun b u2 => b = some [x, y] ∧ u2 = u1) ⟨rfl, rfl⟩) ?_
  rintro _ _ ⟨rfl, rfl⟩
  show SJ c env ns A vs (do rule "assign.swapped-stores"; let items ← unpackItems v 2 none; assignInOrder [bindName env y, bindName env x] items.reverse; pure .next) _ Q
  refine SJ.bindE (P := fun _ u2 => u2 = _) (fun h tk B E F => wpAny_rule (OutX.same rfl E B)) fun _ u2 e2 => ?_
  subst e2
  refine SJ.bindE (EJ.of q1) fun xs u3 q3 => ?_
  match xs, q3 with
  | [v1, v2], q3 =>
    have kx : ∀ z, sc.names.lookup z = some .local → env.kindOf z = some .local := fun z hz => by unfold Env.kindOf; rw [ok.isSc]; exact hz
    have st : ∀ (z : Str) (n : Nat) (w : Value) vs u P, sc.names.lookup z = some .local → idx ns z = some n → P (setN vs n w) u → SU c env ns A vs (bindName env z w) u P := fun z n w vs u P hz hn hP =>
      SU.bindName (SU.storeL (kx z hz) (by rw [ok.isSc]; exact ok.k) hn (fun y a hy => ok.loc y a (by unfold Env.kindOf at hy; rw [ok.isSc] at hy; exact hy)) hP)
    refine SJ.bindU (P := fun vs1 u1 => Q .next vs1 u1) ?_ fun vs1 u1 q1 => SJ.pure q1
    show SU c env ns A vs (assignInOrder [bindName env y, bindName env x] [v2, v1]) u3 _
    unfold assignInOrder
    refine SU.bindU (P := fun vs1 u1 => vs1 = setN vs j v2 ∧ u1 = u3) (SU.holding (st y j v2 vs u3 _ hy hj ⟨rfl, rfl⟩)) ?_
    rintro _ _ ⟨rfl, rfl⟩
    unfold assignInOrder
    refine SU.bindU (P := fun vs1 u1 => Q .next vs1 u1) (SU.holding (st x i v1 _ _ _ hx hi q3)) fun vs1 u1 q => ?_
    unfold assignInOrder
    exact SU.pure q
/-- (a, b) = e where the stores come in order -/
theorem stAssT {e : Expr} {ts : List Expr} {k : Nat} {p pos : Pos} {a : ET} {g : TT} (sa : SimE sc ns e a) (sg : SimT sc ns (.Tuple ts k p) g) (hn : notComp e = true) (hw : ∀ env, EnvOk sc env → swappedStores [.Tuple ts k p] e env = pure none) : SimS' sc ns (.Assign [.Tuple ts k p] e pos) (tAss a g) := fun c A env vs u Q ok q => by
  refine SJ.of_eq (arm_exec_Assign _ e pos env) (SJ.at_ ?_)
  have h1 : swapsWithSole [.Tuple ts k p] e pos.line env = pure false := by unfold swapsWithSole; exact swaps_no hn
  rw [h1, hw env ok.toEnvOk]
  refine SJ.bindE (EJ.pure (Q := fun b u1 => b = false ∧ u1 = u) ⟨rfl, rfl⟩) ?_
  rintro _ _ ⟨rfl, rfl⟩
  rw [if_neg (by decide)]
  refine SJ.bindE (sa _ _ _ _ _ _ ok.toEnvOk q) fun v u1 q1 => SJ.bindE (EJ.pure (Q := fun b u2 => b = none ∧ u2 = u1) ⟨rfl, rfl⟩) ?_
  rintro _ _ ⟨rfl, rfl⟩
  exact SJ.bindU (sg _ _ _ _ _ _ _ ok q1) fun vs2 u2 q2 => SJ.pure q2

/-! dict displays -/
noncomputable abbrev PT := Cx → Around → List (Option Value) → PM → (List (Value × Value) → PM → Prop) → Prop
noncomputable def SimP (sc : Scope) (ns : List Str) (ks : List (Option Expr)) (vs' : List Expr) (T : PT) : Prop := ∀ c A env vs u Q pos, EnvOk sc env → T c A vs u Q → EJ c env ns A vs (evalPairs (pairTrees ks vs' env pos)) u Q
noncomputable def pNil : PT := fun _ _ _ u Q => Q [] u
noncomputable def pCons (a b : ET) (l : PT) : PT := fun c A vs u Q => a c A vs u fun x u1 => b c A vs u1 fun y u2 => l c A vs u2 fun r u3 => Q ((x, y) :: r) u3
theorem spNil : SimP sc ns [] [] pNil := fun _ _ _ _ _ _ _ _ q => EJ.pure q
theorem spCons {k v : Expr} {ks : List (Option Expr)} {vs' : List Expr} {a b : ET} {l : PT} (sa : SimE sc ns k a) (sb : SimE sc ns v b) (sl : SimP sc ns ks vs' l) : SimP sc ns (some k :: ks) (v :: vs') (pCons a b l) := fun c A env vs u Q pos ok q => by
  have e : evalPairs (pairTrees (some k :: ks) (v :: vs') env pos) = (do
      let kv ← eval k env
      let vv ← holding [kv] (do let x ← eval v env; standAt pos; pure x)
      return (kv, vv) :: (← holding [kv, vv] (evalPairs (pairTrees ks vs' env pos)))) := by
    show evalPairs ((eval k env, (do let x ← eval v env; standAt pos; pure x)) :: pairTrees ks vs' env pos) = _
    rw [evalPairs]
  exact EJ.of_eq e (EJ.bindm (sa _ _ _ _ _ _ ok q) fun x u1 q1 => EJ.bindm (EJ.holding (EJ.bindm (sb _ _ _ _ _ _ ok q1) fun y u2 q2 => EJ.at_ (EJ.pure (Q := fun y u2 => l c A vs u2 fun r u3 => Q ((x, y) :: r) u3) q2))) fun y u2 q2 =>
    EJ.bindm (EJ.holding (sl _ _ _ _ _ _ _ ok q2)) fun r u3 q3 => EJ.pure q3)
noncomputable def tDic (p : PT) : ET := fun c A vs u Q => p c A vs u fun kvs u1 => allStrKeys kvs = true ∧ ((strPairs kvs).map (·.1)).Nodup ∧
  ∀ D o, u1 D = none → c.h0.get? D = none → (D == sysModules) = false → o.IsDictOf (strKind pw c.w) (strPairs kvs) → Q (.ref D) (upd u1 D o)
theorem notSys {c : Cx} {h : Heap} (B : Base c h) : (h.objs.size == sysModules) = false := by
  have e : (KK c.w.params).lookup 833 = some (fno d_law (so "law") (.none) (.str (so "law_pq0864_01") 1231) 832) := by kernel_rfl
  have h1 : 833 < h.objs.size := Heap.lt_size (c.kin B _ _ e)
  rw [beq_eq_false_iff_ne]
  intro z
  rw [z] at h1
  exact absurd h1 (by decide)
theorem h0none {c : Cx} {h : Heap} (B : Base c h) : c.h0.get? h.objs.size = none := by
  cases e : c.h0.get? h.objs.size with
  | none => rfl
  | some o => have := B.keep _ _ e; rw [size_none] at this; cases this
theorem sDic {ks : List (Option Expr)} {vs' : List Expr} {pos : Pos} {p : PT} (sp : SimP sc ns ks vs' p) (hk : (ks.all (·.isSome) && (ks.length == vs'.length && (!ks.isEmpty && decide (ks.length ≤ 15)))) = true) : SimE sc ns (.Dict ks vs' pos) (tDic p) := fun c A env vs u Q ok q h tk B E F => by
  obtain ⟨h1, hk⟩ := Bool.and_eq_true_iff.mp hk
  obtain ⟨h2, hk⟩ := Bool.and_eq_true_iff.mp hk
  obtain ⟨h3, h4⟩ := Bool.and_eq_true_iff.mp hk
  refine wpAny_Dict_walk (knd := strKind pw c.w) h1 (by simpa using h2) (by intro e; rw [e] at h3; cases h3) (of_decide_eq_true h4) ?_
  generalize hh1 : (sh c h tk).heap.push { cls := .type "dict", data := .dict #[] } = h1
  generalize hD : (sh c h tk).heap.objs.size = D
  have hDs : h.objs.size = D := hD
  have hk1 : ∀ b o, h.get? b = some o → h1.get? b = some o := fun b o e => hh1 ▸ Heap.get?_push_of_some _ e
  have gD : h1.DictOf (strKind pw c.w) D [] := by rw [← hh1, ← hD]; exact Heap.DictOf.new _
  have B1 : Base c h1 := ⟨fun b o e => hk1 _ _ (B.keep _ _ e)⟩
  have E1 : Emb u h1 := fun b o e => hk1 _ _ (E b o e)
  have F1 : Fm c env ns vs u h1 := F.kp fun b o e1 e2 => ⟨hk1 _ _ e2, e1⟩
  have uD : u D = none := hDs ▸ emb_new E
  refine wpAny_mono (sp _ _ _ _ _ _ pos ok q h1 tk B1 E1 F1) (fun kvs s2 z => ?_) fun _ _ x => x.elim
  obtain ⟨h2, tk2, u2, rfl, ⟨q1, q2, q3⟩, E2, B2, K2⟩ := z
  obtain ⟨oD, es, ep, hg, hr⟩ := gD
  have kD := K2 D oD uD hg
  refine display_done_str q1 q2 ⟨oD, es, ep, kD.1, hr⟩ fun h' hd sb => ?_
  obtain ⟨o', ho', hi'⟩ := Heap.dictOf_iff.mp hd
  refine OutX.mk (q3 D o' kD.2 (hDs ▸ h0none B) (hDs ▸ notSys B) hi') (emb_upd (fun b o e => (sb.2 b fun z => by rw [z, kD.2] at e; cases e).trans (E2 b o e)) ho') ⟨fun b o e => (sb.2 b fun z => by rw [z, ← hDs, h0none B] at e; cases e).trans (B2.keep b o e)⟩ fun b o e1 e2 => ?_
  have ne : b ≠ D := fun z => absurd (Heap.lt_size e2) (by rw [z, hDs]; exact Nat.lt_irrefl _)
  obtain ⟨a1, a2⟩ := K2 b o e1 (hk1 _ _ e2)
  exact ⟨(sb.2 b ne).trans a1, by rw [upd_ne ne]; exact a2⟩
/-- what a display of no pairs makes -/
noncomputable abbrev dictO : Obj := { cls := .type "dict", data := .dict #[] }
noncomputable def tDic0 : ET := fun c A vs u Q => ∀ D, u D = none → c.h0.get? D = none → (D == sysModules) = false → Q (.ref D) (upd u D dictO)
theorem push_out {α : Type} {c : Cx} {u : PM} {h : Heap} {tk : Nat} {o : Obj} {Q : α → PM → Prop} {v : α} (B : Base c h) (E : Emb u h) (hf : o.isFreed = false) (q : Q v (upd u h.objs.size o)) : OutX c u h Q v (sh c (h.push o) tk) := by
  refine OutX.mk q (emb_upd (fun b o e => Heap.get?_push_of_some _ (E b o e)) (Heap.get?_push_size _ hf)) ⟨fun b o e => Heap.get?_push_of_some _ (B.keep _ _ e)⟩ fun b o e1 e2 => ⟨Heap.get?_push_of_some _ e2, ?_⟩
  rw [upd_ne (fun z => absurd (Heap.lt_size e2) (by rw [z]; exact Nat.lt_irrefl _))]; exact e1
theorem sDic0 {pos : Pos} : SimE sc ns (.Dict [] [] pos) tDic0 := fun c A env vs u Q ok q h tk B E F => by
  rw [eval_Dict_empty]
  refine wpAny_bind (wpAny_standAt ?_)
  unfold newDict
  refine wpAny_newObj_type (push_out B E rfl (q _ (emb_new E) (h0none B) (notSys B)))
end
end Mine
end
section
open PySem PySem.W PySem.Calls PyProof.Rows
set_option Elab.async false
set_option maxRecDepth 100000
set_option linter.unusedVariables false
namespace Mine
theorem Cx.mgAt (c : Cx) {x : Str} {v : Value} (e : ∀ P, nsIn (KK P) mainGlobals x = some (some v)) : c.mg x = some v := mg_of c.says.1 c.g (e _)
theorem Cx.mgNo (c : Cx) {x : Str} (e : ∀ P, nsIn (KK P) mainGlobals x = some none) : c.mg x = none := mg_none_of c.says.1 c.g (e _)
noncomputable def tNoE : ET := fun _ _ _ _ _ => False
theorem sNoE {sc : Scope} {ns : List Str} {e : Expr} : SimE sc ns e tNoE := fun _ _ _ _ _ _ _ q => (show False from q).elim
theorem stAssC {sc : Scope} {ns : List Str} {e t : Expr} {pos : Pos} {a : ET} {g : TT} (sa : SimE sc ns e a) (sg : SimT sc ns t g) (ht : tgtOk t = true) (hw : ∀ env, EnvOk sc env → ∀ l, swapsWith e (some t) l env = pure false) : SimS' sc ns (.Assign [t] e pos) (tAss a g) := fun c A env vs u Q ok q => by
  refine SJ.of_eq (arm_exec_Assign [t] e pos env) (SJ.at_ ?_)
  have h1 : swapsWithSole [t] e pos.line env = pure false := by unfold swapsWithSole; exact hw env ok.toEnvOk _
  have h2 : swappedStores [t] e env = pure none := by unfold swappedStores; cases t <;> first | rfl | cases ht
  have h3 : (assignEach [t] env).map (·.2) = [assign t env] := by cases t <;> first | rfl | cases ht
  rw [h1, h2, h3]
  refine SJ.bindE (EJ.pure (Q := fun b u1 => b = false ∧ u1 = u) ⟨rfl, rfl⟩) ?_
  rintro _ _ ⟨rfl, rfl⟩
  rw [if_neg (by decide)]
  refine SJ.bindE (sa _ _ _ _ _ _ ok.toEnvOk q) fun v u1 q1 => SJ.bindE (EJ.pure (Q := fun b u2 => b = none ∧ u2 = u1) ⟨rfl, rfl⟩) ?_
  rintro _ _ ⟨rfl, rfl⟩
  exact SJ.bindU (sg _ _ _ _ _ _ _ ok q1) fun vs2 u2 q2 => SJ.pure q2
theorem stAssK {sc : Scope} {ns : List Str} {e : Expr} {x : Str} {np pos : Pos} {a : ET} {g : TT} (sa : SimE sc ns e a) (sg : SimT sc ns (.Name x np) g) (hk : (sc.names.lookup x == some .local) = false) : SimS' sc ns (.Assign [.Name x np] e pos) (tAss a g) :=
  stAssC sa sg rfl fun env ok l => by
    have hkx : (env.kindOf x == some .local) = false := by unfold Env.kindOf; rw [ok.isSc]; exact hk
    unfold swapsWith
    cases e <;> first | rfl | (dsimp only; rw [hkx]; simp)
end Mine
end
section
open PySem PySem.W PySem.Calls PyProof.Rows
set_option Elab.async false
set_option maxRecDepth 100000
set_option linter.unusedVariables false
namespace Mine
noncomputable def N_least : List Str := []
noncomputable def T_least : ST := (tSeq (tRet (tUn .USub (tBin .Pow (tInt 2) (tInt 63)))) tNil)
theorem S_least : SimSs' d_least.scope N_least d_least.body T_least := by
  refine ssCons ?_ ?_
  refine stRet ?_
  refine sUn ?_
  refine sBin ?_ ?_
  refine sInt
  refine sInt
  refine ssNil
noncomputable def N_greatest : List Str := []
noncomputable def T_greatest : ST := (tSeq (tRet (tBin .Sub (tBin .Pow (tInt 2) (tInt 63)) (tInt 1))) tNil)
theorem S_greatest : SimSs' d_greatest.scope N_greatest d_greatest.body T_greatest := by
  refine ssCons ?_ ?_
  refine stRet ?_
  refine sBin ?_ ?_
  refine sBin ?_ ?_
  refine sInt
  refine sInt
  refine sInt
  refine ssNil
noncomputable def N_Ref_init : List Str := [so "self", so "value"]
noncomputable def T_Ref_init : ST := (tSeq (tAss (tLoc 1) (gAtt (tLoc 0) (so "value"))) (tSeq (tAss (tInt 0) (gAtt (tLoc 0) (so "holders"))) (tSeq (tAss (tLst lNil) (gAtt (tLoc 0) (so "types"))) tNil)))
theorem S_Ref_init : SimSs' d_Ref_init.scope N_Ref_init d_Ref_init.body T_Ref_init := by
  refine ssCons ?_ ?_
  refine stAss ?_ ?_ ?_ ?_
  refine sLoc 1 ?_ ?_ ?_
  kernel_rfl
  kernel_rfl
  kernel_rfl
  refine gAttr ?_
  refine sLoc 0 ?_ ?_ ?_
  kernel_rfl
  kernel_rfl
  kernel_rfl
  kernel_rfl
  kernel_rfl
  refine ssCons ?_ ?_
  refine stAss ?_ ?_ ?_ ?_
  refine sInt
  refine gAttr ?_
  refine sLoc 0 ?_ ?_ ?_
  kernel_rfl
  kernel_rfl
  kernel_rfl
  kernel_rfl
  kernel_rfl
  refine ssCons ?_ ?_
  refine stAss ?_ ?_ ?_ ?_
  refine sLst ?_ ?_
  refine svNil
  kernel_rfl
  refine gAttr ?_
  refine sLoc 0 ?_ ?_ ?_
  kernel_rfl
  kernel_rfl
  kernel_rfl
  kernel_rfl
  kernel_rfl
  refine ssNil
noncomputable def N_Absent_init : List Str := [so "self", so "was_unset"]
noncomputable def T_Absent_init : ST := (tSeq (tAss (tLoc 1) (gAtt (tLoc 0) (so "was_unset"))) tNil)
theorem S_Absent_init : SimSs' d_Absent_init.scope N_Absent_init d_Absent_init.body T_Absent_init := by
  refine ssCons ?_ ?_
  refine stAss ?_ ?_ ?_ ?_
  refine sLoc 1 ?_ ?_ ?_
  kernel_rfl
  kernel_rfl
  kernel_rfl
  refine gAttr ?_
  refine sLoc 0 ?_ ?_ ?_
  kernel_rfl
  kernel_rfl
  kernel_rfl
  kernel_rfl
  kernel_rfl
  refine ssNil
noncomputable def N_Obj_init : List Str := [so "self", so "cls", so "handle"]
noncomputable def T_Obj_init : ST := (tSeq (tAss (tLoc 1) (gAtt (tLoc 0) (so "cls"))) (tSeq (tAss (tLoc 2) (gAtt (tLoc 0) (so "handle"))) (tSeq (tAss tDic0 (gAtt (tLoc 0) (so "props"))) (tSeq (tAss (tVal .none) (gAtt (tLoc 0) (so "data"))) (tSeq (tAss tDic0 (gAtt (tLoc 0) (so "guards"))) (tSeq (tAss (tVal (.bool false)) (gAtt (tLoc 0) (so "is_busy"))) (tSeq (tAss (tVal (.bool false)) (gAtt (tLoc 0) (so "is_destructed"))) tNil)))))))
theorem S_Obj_init : SimSs' d_Obj_init.scope N_Obj_init d_Obj_init.body T_Obj_init := by
  refine ssCons ?_ ?_
  refine stAss ?_ ?_ ?_ ?_
  refine sLoc 1 ?_ ?_ ?_
  kernel_rfl
  kernel_rfl
  kernel_rfl
  refine gAttr ?_
  refine sLoc 0 ?_ ?_ ?_
  kernel_rfl
  kernel_rfl
  kernel_rfl
  kernel_rfl
  kernel_rfl
  refine ssCons ?_ ?_
  refine stAss ?_ ?_ ?_ ?_
  refine sLoc 2 ?_ ?_ ?_
  kernel_rfl
  kernel_rfl
  kernel_rfl
  refine gAttr ?_
  refine sLoc 0 ?_ ?_ ?_
  kernel_rfl
  kernel_rfl
  kernel_rfl
  kernel_rfl
  kernel_rfl
  refine ssCons ?_ ?_
  refine stAss ?_ ?_ ?_ ?_
  refine sDic0
  refine gAttr ?_
  refine sLoc 0 ?_ ?_ ?_
  kernel_rfl
  kernel_rfl
  kernel_rfl
  kernel_rfl
  kernel_rfl
  refine ssCons ?_ ?_
  refine stAss ?_ ?_ ?_ ?_
  refine sNone
  refine gAttr ?_
  refine sLoc 0 ?_ ?_ ?_
  kernel_rfl
  kernel_rfl
  kernel_rfl
  kernel_rfl
  kernel_rfl
  refine ssCons ?_ ?_
  refine stAss ?_ ?_ ?_ ?_
  refine sDic0
  refine gAttr ?_
  refine sLoc 0 ?_ ?_ ?_
  kernel_rfl
  kernel_rfl
  kernel_rfl
  kernel_rfl
  kernel_rfl
  refine ssCons ?_ ?_
  refine stAss ?_ ?_ ?_ ?_
  refine sBool
  refine gAttr ?_
  refine sLoc 0 ?_ ?_ ?_
  kernel_rfl
  kernel_rfl
  kernel_rfl
  kernel_rfl
  kernel_rfl
  refine ssCons ?_ ?_
  refine stAss ?_ ?_ ?_ ?_
  refine sBool
  refine gAttr ?_
  refine sLoc 0 ?_ ?_ ?_
  kernel_rfl
  kernel_rfl
  kernel_rfl
  kernel_rfl
  kernel_rfl
  refine ssNil
noncomputable def N_deref : List Str := [so "slot"]
noncomputable def T_deref : ST := (tSeq (tIf (bVal (tCall (tVal (.builtin "isinstance")) (lCons (tLoc 0) (lCons (tVal (.ref 125)) lNil)))) (tSeq (tAss (tAtt (tLoc 0) (so "value")) (gSlot 0)) tNil) tNil) (tSeq (tIf (bVal (tCall (tVal (.builtin "isinstance")) (lCons (tLoc 0) (lCons (tVal (.ref 147)) lNil)))) (tSeq (tRet (tVal .none)) tNil) tNil) (tSeq (tRet (tLoc 0)) tNil)))
theorem S_deref : SimSs' d_deref.scope N_deref d_deref.body T_deref := by
  refine ssCons ?_ ?_
  refine stIf ?_ ?_ ?_
  refine sbVal ?_ ?_
  refine sCall ?_ ?_ ?_ ?_
  refine sBlt (.builtin "isinstance") ?_ ?_ ?_ ?_ ?_
  kernel_rfl
  (intro c; refine c.mgNo ?_; intro _; kernel_rfl)
  kernel_rfl
  decide
  kernel_rfl
  refine svCons ?_ ?_
  refine sLoc 0 ?_ ?_ ?_
  kernel_rfl
  kernel_rfl
  kernel_rfl
  refine svCons ?_ ?_
  refine sGlob (.ref 125) ?_ ?_ ?_
  kernel_rfl
  (intro c; refine c.mgAt ?_; intro _; kernel_rfl)
  kernel_rfl
  refine svNil
  kernel_rfl
  kernel_rfl
  (intro _ _; rfl)
  refine ssCons ?_ ?_
  refine stAss ?_ ?_ ?_ ?_
  refine sAtt ?_ ?_
  refine sLoc 0 ?_ ?_ ?_
  kernel_rfl
  kernel_rfl
  kernel_rfl
  kernel_rfl
  refine gLoc 0 ?_ ?_
  kernel_rfl
  kernel_rfl
  kernel_rfl
  kernel_rfl
  refine ssNil
  refine ssNil
  refine ssCons ?_ ?_
  refine stIf ?_ ?_ ?_
  refine sbVal ?_ ?_
  refine sCall ?_ ?_ ?_ ?_
  refine sBlt (.builtin "isinstance") ?_ ?_ ?_ ?_ ?_
  kernel_rfl
  (intro c; refine c.mgNo ?_; intro _; kernel_rfl)
  kernel_rfl
  decide
  kernel_rfl
  refine svCons ?_ ?_
  refine sLoc 0 ?_ ?_ ?_
  kernel_rfl
  kernel_rfl
  kernel_rfl
  refine svCons ?_ ?_
  refine sGlob (.ref 147) ?_ ?_ ?_
  kernel_rfl
  (intro c; refine c.mgAt ?_; intro _; kernel_rfl)
  kernel_rfl
  refine svNil
  kernel_rfl
  kernel_rfl
  (intro _ _; rfl)
  refine ssCons ?_ ?_
  refine stRet ?_
  refine sNone
  refine ssNil
  refine ssNil
  refine ssCons ?_ ?_
  refine stRet ?_
  refine sLoc 0 ?_ ?_ ?_
  kernel_rfl
  kernel_rfl
  kernel_rfl
  refine ssNil
noncomputable def N_Arr_init : List Str := [so "self", so "size"]
noncomputable def T_Arr_init : ST := (tSeq (tAss (tVal (.bool true)) (gAtt (tLoc 0) (so "is_packed"))) (tSeq (tAss (tLst lNil) (gAtt (tLoc 0) (so "keys"))) (tSeq (tAss (tLst lNil) (gAtt (tLoc 0) (so "vals"))) (tSeq (tAss (tLst lNil) (gAtt (tLoc 0) (so "heads"))) (tSeq (tAss (tLst lNil) (gAtt (tLoc 0) (so "nexts"))) (tSeq (tAss (tLoc 1) (gAtt (tLoc 0) (so "size"))) (tSeq (tAss (tInt 0) (gAtt (tLoc 0) (so "count"))) (tSeq (tAss (tCall (tVal (.ref 100)) lNil) (gAtt (tLoc 0) (so "next"))) (tSeq (tAss (tInt 0) (gAtt (tLoc 0) (so "at"))) (tSeq (tAss (tVal (.bool false)) (gAtt (tLoc 0) (so "is_shared"))) (tSeq (tAss tDic0 (gAtt (tLoc 0) (so "walks"))) tNil)))))))))))
theorem S_Arr_init : SimSs' d_Arr_init.scope N_Arr_init d_Arr_init.body T_Arr_init := by
  refine ssCons ?_ ?_
  refine stAss ?_ ?_ ?_ ?_
  refine sBool
  refine gAttr ?_
  refine sLoc 0 ?_ ?_ ?_
  kernel_rfl
  kernel_rfl
  kernel_rfl
  kernel_rfl
  kernel_rfl
  refine ssCons ?_ ?_
  refine stAss ?_ ?_ ?_ ?_
  refine sLst ?_ ?_
  refine svNil
  kernel_rfl
  refine gAttr ?_
  refine sLoc 0 ?_ ?_ ?_
  kernel_rfl
  kernel_rfl
  kernel_rfl
  kernel_rfl
  kernel_rfl
  refine ssCons ?_ ?_
  refine stAss ?_ ?_ ?_ ?_
  refine sLst ?_ ?_
  refine svNil
  kernel_rfl
  refine gAttr ?_
  refine sLoc 0 ?_ ?_ ?_
  kernel_rfl
  kernel_rfl
  kernel_rfl
  kernel_rfl
  kernel_rfl
  refine ssCons ?_ ?_
  refine stAss ?_ ?_ ?_ ?_
  refine sLst ?_ ?_
  refine svNil
  kernel_rfl
  refine gAttr ?_
  refine sLoc 0 ?_ ?_ ?_
  kernel_rfl
  kernel_rfl
  kernel_rfl
  kernel_rfl
  kernel_rfl
  refine ssCons ?_ ?_
  refine stAss ?_ ?_ ?_ ?_
  refine sLst ?_ ?_
  refine svNil
  kernel_rfl
  refine gAttr ?_
  refine sLoc 0 ?_ ?_ ?_
  kernel_rfl
  kernel_rfl
  kernel_rfl
  kernel_rfl
  kernel_rfl
  refine ssCons ?_ ?_
  refine stAss ?_ ?_ ?_ ?_
  refine sLoc 1 ?_ ?_ ?_
  kernel_rfl
  kernel_rfl
  kernel_rfl
  refine gAttr ?_
  refine sLoc 0 ?_ ?_ ?_
  kernel_rfl
  kernel_rfl
  kernel_rfl
  kernel_rfl
  kernel_rfl
  refine ssCons ?_ ?_
  refine stAss ?_ ?_ ?_ ?_
  refine sInt
  refine gAttr ?_
  refine sLoc 0 ?_ ?_ ?_
  kernel_rfl
  kernel_rfl
  kernel_rfl
  kernel_rfl
  kernel_rfl
  refine ssCons ?_ ?_
  refine stAss ?_ ?_ ?_ ?_
  refine sCall ?_ ?_ ?_ ?_
  refine sGlob (.ref 100) ?_ ?_ ?_
  kernel_rfl
  (intro c; refine c.mgAt ?_; intro _; kernel_rfl)
  kernel_rfl
  refine svNil
  kernel_rfl
  kernel_rfl
  refine gAttr ?_
  refine sLoc 0 ?_ ?_ ?_
  kernel_rfl
  kernel_rfl
  kernel_rfl
  kernel_rfl
  kernel_rfl
  refine ssCons ?_ ?_
  refine stAss ?_ ?_ ?_ ?_
  refine sInt
  refine gAttr ?_
  refine sLoc 0 ?_ ?_ ?_
  kernel_rfl
  kernel_rfl
  kernel_rfl
  kernel_rfl
  kernel_rfl
  refine ssCons ?_ ?_
  refine stAss ?_ ?_ ?_ ?_
  refine sBool
  refine gAttr ?_
  refine sLoc 0 ?_ ?_ ?_
  kernel_rfl
  kernel_rfl
  kernel_rfl
  kernel_rfl
  kernel_rfl
  refine ssCons ?_ ?_
  refine stAss ?_ ?_ ?_ ?_
  refine sDic0
  refine gAttr ?_
  refine sLoc 0 ?_ ?_ ?_
  kernel_rfl
  kernel_rfl
  kernel_rfl
  kernel_rfl
  kernel_rfl
  refine ssNil
noncomputable def N_Arr_find : List Str := [so "self", so "key", so "place"]
noncomputable def T_Arr_find : ST := (tSeq (tIf (bVal (tAtt (tLoc 0) (so "is_packed"))) (tSeq (tRet (tIte (bAnd (bVal (tCall (tVal (.builtin "isinstance")) (lCons (tLoc 1) (lCons (tVal (.type "int")) lNil)))) (bAnd (bVal (tCall (tVal (.ref 264)) (lCons (tLoc 0) (lCons (tLoc 1) lNil)))) bTrue)) (tLoc 1) (tUn .USub (tInt 1)))) tNil) tNil) (tSeq (tAss (tSub (tAtt (tLoc 0) (so "heads")) (tBin .Mod (tCall (tVal (.ref 271)) (lCons (tLoc 1) lNil)) (tAtt (tLoc 0) (so "size")))) (gSlot 2)) (tSeq (tWhile (bAnd (bCmp .GtE (tLoc 2) (tInt 0)) (bAnd (bCmp .NotEq (tSub (tAtt (tLoc 0) (so "keys")) (tLoc 2)) (tLoc 1)) bTrue)) (tSeq (tAss (tSub (tAtt (tLoc 0) (so "nexts")) (tLoc 2)) (gSlot 2)) tNil)) (tSeq (tRet (tLoc 2)) tNil))))
theorem S_Arr_find : SimSs' d_Arr_find.scope N_Arr_find d_Arr_find.body T_Arr_find := by
  refine ssCons ?_ ?_
  refine stIf ?_ ?_ ?_
  refine sbVal ?_ ?_
  refine sAtt ?_ ?_
  refine sLoc 0 ?_ ?_ ?_
  kernel_rfl
  kernel_rfl
  kernel_rfl
  kernel_rfl
  (intro _ _; rfl)
  refine ssCons ?_ ?_
  refine stRet ?_
  refine sIte ?_ ?_ ?_
  refine sbBool ?_
  refine saAnd ?_ ?_
  refine sbVal ?_ ?_
  refine sCall ?_ ?_ ?_ ?_
  refine sBlt (.builtin "isinstance") ?_ ?_ ?_ ?_ ?_
  kernel_rfl
  (intro c; refine c.mgNo ?_; intro _; kernel_rfl)
  kernel_rfl
  decide
  kernel_rfl
  refine svCons ?_ ?_
  refine sLoc 1 ?_ ?_ ?_
  kernel_rfl
  kernel_rfl
  kernel_rfl
  refine svCons ?_ ?_
  refine sBlt (.type "int") ?_ ?_ ?_ ?_ ?_
  kernel_rfl
  (intro c; refine c.mgNo ?_; intro _; kernel_rfl)
  kernel_rfl
  decide
  kernel_rfl
  refine svNil
  kernel_rfl
  kernel_rfl
  (intro _ _; rfl)
  refine saAnd ?_ ?_
  refine sbVal ?_ ?_
  refine sCall ?_ ?_ ?_ ?_
  refine sGlob (.ref 264) ?_ ?_ ?_
  kernel_rfl
  (intro c; refine c.mgAt ?_; intro _; kernel_rfl)
  kernel_rfl
  refine svCons ?_ ?_
  refine sLoc 0 ?_ ?_ ?_
  kernel_rfl
  kernel_rfl
  kernel_rfl
  refine svCons ?_ ?_
  refine sLoc 1 ?_ ?_ ?_
  kernel_rfl
  kernel_rfl
  kernel_rfl
  refine svNil
  kernel_rfl
  kernel_rfl
  (intro _ _; rfl)
  refine saAnd0
  refine sLoc 1 ?_ ?_ ?_
  kernel_rfl
  kernel_rfl
  kernel_rfl
  refine sUn ?_
  refine sInt
  refine ssNil
  refine ssNil
  refine ssCons ?_ ?_
  refine stAss ?_ ?_ ?_ ?_
  refine sSub ?_ ?_
  refine sAtt ?_ ?_
  refine sLoc 0 ?_ ?_ ?_
  kernel_rfl
  kernel_rfl
  kernel_rfl
  kernel_rfl
  refine sBin ?_ ?_
  refine sCall ?_ ?_ ?_ ?_
  refine sGlob (.ref 271) ?_ ?_ ?_
  kernel_rfl
  (intro c; refine c.mgAt ?_; intro _; kernel_rfl)
  kernel_rfl
  refine svCons ?_ ?_
  refine sLoc 1 ?_ ?_ ?_
  kernel_rfl
  kernel_rfl
  kernel_rfl
  refine svNil
  kernel_rfl
  kernel_rfl
  refine sAtt ?_ ?_
  refine sLoc 0 ?_ ?_ ?_
  kernel_rfl
  kernel_rfl
  kernel_rfl
  kernel_rfl
  refine gLoc 2 ?_ ?_
  kernel_rfl
  kernel_rfl
  kernel_rfl
  kernel_rfl
  refine ssCons ?_ ?_
  refine stWhile ?_ ?_
  refine sbBool ?_
  refine saAnd ?_ ?_
  refine sbCmp ?_ ?_ ?_
  refine sLoc 2 ?_ ?_ ?_
  kernel_rfl
  kernel_rfl
  kernel_rfl
  refine sInt
  kernel_rfl
  refine saAnd ?_ ?_
  refine sbCmp ?_ ?_ ?_
  refine sSub ?_ ?_
  refine sAtt ?_ ?_
  refine sLoc 0 ?_ ?_ ?_
  kernel_rfl
  kernel_rfl
  kernel_rfl
  kernel_rfl
  refine sLoc 2 ?_ ?_ ?_
  kernel_rfl
  kernel_rfl
  kernel_rfl
  refine sLoc 1 ?_ ?_ ?_
  kernel_rfl
  kernel_rfl
  kernel_rfl
  kernel_rfl
  refine saAnd0
  refine ssCons ?_ ?_
  refine stAss ?_ ?_ ?_ ?_
  refine sSub ?_ ?_
  refine sAtt ?_ ?_
  refine sLoc 0 ?_ ?_ ?_
  kernel_rfl
  kernel_rfl
  kernel_rfl
  kernel_rfl
  refine sLoc 2 ?_ ?_ ?_
  kernel_rfl
  kernel_rfl
  kernel_rfl
  refine gLoc 2 ?_ ?_
  kernel_rfl
  kernel_rfl
  kernel_rfl
  kernel_rfl
  refine ssNil
  refine ssCons ?_ ?_
  refine stRet ?_
  refine sLoc 2 ?_ ?_ ?_
  kernel_rfl
  kernel_rfl
  kernel_rfl
  refine ssNil
noncomputable def N_Arr_has : List Str := [so "self", so "key"]
noncomputable def T_Arr_has : ST := (tSeq (tRet (tCmp .GtE (tMeth (tLoc 0) (so "find") (lCons (tLoc 1) lNil)) (tInt 0))) tNil)
theorem S_Arr_has : SimSs' d_Arr_has.scope N_Arr_has d_Arr_has.body T_Arr_has := by
  refine ssCons ?_ ?_
  refine stRet ?_
  refine sCmp ?_ ?_ ?_
  refine sMeth ?_ ?_ ?_ ?_ ?_ ?_
  refine sLoc 0 ?_ ?_ ?_
  kernel_rfl
  kernel_rfl
  kernel_rfl
  refine svCons ?_ ?_
  refine sLoc 1 ?_ ?_ ?_
  kernel_rfl
  kernel_rfl
  kernel_rfl
  refine svNil
  kernel_rfl
  kernel_rfl
  decide
  kernel_rfl
  refine sInt
  kernel_rfl
  refine ssNil
noncomputable def N_Arr_slot : List Str := [so "self", so "key", so "place"]
noncomputable def T_Arr_slot : ST := (tSeq (tAss (tMeth (tLoc 0) (so "find") (lCons (tLoc 1) lNil)) (gSlot 2)) (tSeq (tRet (tIte (bCmp .Lt (tLoc 2) (tInt 0)) (tVal .none) (tSub (tAtt (tLoc 0) (so "vals")) (tLoc 2)))) tNil))
theorem S_Arr_slot : SimSs' d_Arr_slot.scope N_Arr_slot d_Arr_slot.body T_Arr_slot := by
  refine ssCons ?_ ?_
  refine stAss ?_ ?_ ?_ ?_
  refine sMeth ?_ ?_ ?_ ?_ ?_ ?_
  refine sLoc 0 ?_ ?_ ?_
  kernel_rfl
  kernel_rfl
  kernel_rfl
  refine svCons ?_ ?_
  refine sLoc 1 ?_ ?_ ?_
  kernel_rfl
  kernel_rfl
  kernel_rfl
  refine svNil
  kernel_rfl
  kernel_rfl
  decide
  kernel_rfl
  refine gLoc 2 ?_ ?_
  kernel_rfl
  kernel_rfl
  kernel_rfl
  kernel_rfl
  refine ssCons ?_ ?_
  refine stRet ?_
  refine sIte ?_ ?_ ?_
  refine sbCmp ?_ ?_ ?_
  refine sLoc 2 ?_ ?_ ?_
  kernel_rfl
  kernel_rfl
  kernel_rfl
  refine sInt
  kernel_rfl
  refine sNone
  refine sSub ?_ ?_
  refine sAtt ?_ ?_
  refine sLoc 0 ?_ ?_ ?_
  kernel_rfl
  kernel_rfl
  kernel_rfl
  kernel_rfl
  refine sLoc 2 ?_ ?_ ?_
  kernel_rfl
  kernel_rfl
  kernel_rfl
  refine ssNil
noncomputable def N_Arr_put : List Str := [so "self", so "key", so "slot", so "place"]
noncomputable def T_Arr_put : ST := (tSeq (tAss (tMeth (tLoc 0) (so "find") (lCons (tLoc 1) lNil)) (gSlot 3)) (tSeq (tIf (bCmp .GtE (tLoc 3) (tInt 0)) (tSeq (tAss (tLoc 2) (gSub (tAtt (tLoc 0) (so "vals")) (tLoc 3))) tNil) (tSeq (tExp (tCall (tVal (.ref 330)) (lCons (tLoc 0) (lCons (tLoc 1) (lCons (tLoc 2) lNil))))) tNil)) tNil))
theorem S_Arr_put : SimSs' d_Arr_put.scope N_Arr_put d_Arr_put.body T_Arr_put := by
  refine ssCons ?_ ?_
  refine stAss ?_ ?_ ?_ ?_
  refine sMeth ?_ ?_ ?_ ?_ ?_ ?_
  refine sLoc 0 ?_ ?_ ?_
  kernel_rfl
  kernel_rfl
  kernel_rfl
  refine svCons ?_ ?_
  refine sLoc 1 ?_ ?_ ?_
  kernel_rfl
  kernel_rfl
  kernel_rfl
  refine svNil
  kernel_rfl
  kernel_rfl
  decide
  kernel_rfl
  refine gLoc 3 ?_ ?_
  kernel_rfl
  kernel_rfl
  kernel_rfl
  kernel_rfl
  refine ssCons ?_ ?_
  refine stIf ?_ ?_ ?_
  refine sbCmp ?_ ?_ ?_
  refine sLoc 3 ?_ ?_ ?_
  kernel_rfl
  kernel_rfl
  kernel_rfl
  refine sInt
  kernel_rfl
  refine ssCons ?_ ?_
  refine stAss ?_ ?_ ?_ ?_
  refine sLoc 2 ?_ ?_ ?_
  kernel_rfl
  kernel_rfl
  kernel_rfl
  refine gSubs ?_ ?_
  refine sAtt ?_ ?_
  refine sLoc 0 ?_ ?_ ?_
  kernel_rfl
  kernel_rfl
  kernel_rfl
  kernel_rfl
  refine sLoc 3 ?_ ?_ ?_
  kernel_rfl
  kernel_rfl
  kernel_rfl
  kernel_rfl
  kernel_rfl
  refine ssNil
  refine ssCons ?_ ?_
  refine stExp ?_ ?_
  refine sCall ?_ ?_ ?_ ?_
  refine sGlob (.ref 330) ?_ ?_ ?_
  kernel_rfl
  (intro c; refine c.mgAt ?_; intro _; kernel_rfl)
  kernel_rfl
  refine svCons ?_ ?_
  refine sLoc 0 ?_ ?_ ?_
  kernel_rfl
  kernel_rfl
  kernel_rfl
  refine svCons ?_ ?_
  refine sLoc 1 ?_ ?_ ?_
  kernel_rfl
  kernel_rfl
  kernel_rfl
  refine svCons ?_ ?_
  refine sLoc 2 ?_ ?_ ?_
  kernel_rfl
  kernel_rfl
  kernel_rfl
  refine svNil
  kernel_rfl
  kernel_rfl
  kernel_rfl
  refine ssNil
  refine ssNil
noncomputable def N_Arr_key_at : List Str := [so "self", so "place"]
noncomputable def T_Arr_key_at : ST := (tSeq (tRet (tIte (bVal (tAtt (tLoc 0) (so "is_packed"))) (tLoc 1) (tSub (tAtt (tLoc 0) (so "keys")) (tLoc 1)))) tNil)
theorem S_Arr_key_at : SimSs' d_Arr_key_at.scope N_Arr_key_at d_Arr_key_at.body T_Arr_key_at := by
  refine ssCons ?_ ?_
  refine stRet ?_
  refine sIte ?_ ?_ ?_
  refine sbVal ?_ ?_
  refine sAtt ?_ ?_
  refine sLoc 0 ?_ ?_ ?_
  kernel_rfl
  kernel_rfl
  kernel_rfl
  kernel_rfl
  (intro _ _; rfl)
  refine sLoc 1 ?_ ?_ ?_
  kernel_rfl
  kernel_rfl
  kernel_rfl
  refine sSub ?_ ?_
  refine sAtt ?_ ?_
  refine sLoc 0 ?_ ?_ ?_
  kernel_rfl
  kernel_rfl
  kernel_rfl
  kernel_rfl
  refine sLoc 1 ?_ ?_ ?_
  kernel_rfl
  kernel_rfl
  kernel_rfl
  refine ssNil
noncomputable def N_is_living : List Str := [so "arr", so "place"]
noncomputable def T_is_living : ST := (tSeq (tRet (tAnd (tCmp2 .LtE .Lt (tInt 0) (tLoc 1) (tCall (tVal (.builtin "len")) (lCons (tAtt (tLoc 0) (so "vals")) lNil))) (tUn .Not (tCall (tVal (.builtin "isinstance")) (lCons (tSub (tAtt (tLoc 0) (so "vals")) (tLoc 1)) (lCons (tVal (.ref 147)) lNil)))))) tNil)
theorem S_is_living : SimSs' d_is_living.scope N_is_living d_is_living.body T_is_living := by
  refine ssCons ?_ ?_
  refine stRet ?_
  refine sAnd ?_ ?_
  refine sCmp2 ?_ ?_ ?_ ?_
  refine sInt
  refine sLoc 1 ?_ ?_ ?_
  kernel_rfl
  kernel_rfl
  kernel_rfl
  refine sCall ?_ ?_ ?_ ?_
  refine sBlt (.builtin "len") ?_ ?_ ?_ ?_ ?_
  kernel_rfl
  (intro c; refine c.mgNo ?_; intro _; kernel_rfl)
  kernel_rfl
  decide
  kernel_rfl
  refine svCons ?_ ?_
  refine sAtt ?_ ?_
  refine sLoc 0 ?_ ?_ ?_
  kernel_rfl
  kernel_rfl
  kernel_rfl
  kernel_rfl
  refine svNil
  kernel_rfl
  kernel_rfl
  kernel_rfl
  refine sUn ?_
  refine sCall ?_ ?_ ?_ ?_
  refine sBlt (.builtin "isinstance") ?_ ?_ ?_ ?_ ?_
  kernel_rfl
  (intro c; refine c.mgNo ?_; intro _; kernel_rfl)
  kernel_rfl
  decide
  kernel_rfl
  refine svCons ?_ ?_
  refine sSub ?_ ?_
  refine sAtt ?_ ?_
  refine sLoc 0 ?_ ?_ ?_
  kernel_rfl
  kernel_rfl
  kernel_rfl
  kernel_rfl
  refine sLoc 1 ?_ ?_ ?_
  kernel_rfl
  kernel_rfl
  kernel_rfl
  refine svCons ?_ ?_
  refine sGlob (.ref 147) ?_ ?_ ?_
  kernel_rfl
  (intro c; refine c.mgAt ?_; intro _; kernel_rfl)
  kernel_rfl
  refine svNil
  kernel_rfl
  kernel_rfl
  refine ssNil
noncomputable def N_hash_of : List Str := [so "key", so "found", so "sign"]
noncomputable def T_hash_of : ST := (tSeq (tIf (bVal (tCall (tVal (.builtin "isinstance")) (lCons (tLoc 0) (lCons (tVal (.type "int")) lNil)))) (tSeq (tRet (tBin .Mod (tLoc 0) (tBin .Pow (tInt 2) (tInt 64)))) tNil) tNil) (tSeq (tAss (tInt 5381) (gSlot 1)) (tSeq (tFor (tLoc 0) 0 (gSlot 2) (tSeq (tAss (tBin .Mod (tBin .Add (tBin .Mult (tLoc 1) (tInt 33)) (tCall (tVal (.builtin "ord")) (lCons (tLoc 2) lNil))) (tBin .Pow (tInt 2) (tInt 64))) (gSlot 1)) tNil)) (tSeq (tRet (tBin .BitOr (tLoc 1) (tBin .Pow (tInt 2) (tInt 63)))) tNil))))
theorem S_hash_of : SimSs' d_hash_of.scope N_hash_of d_hash_of.body T_hash_of := by
  refine ssCons ?_ ?_
  refine stIf ?_ ?_ ?_
  refine sbVal ?_ ?_
  refine sCall ?_ ?_ ?_ ?_
  refine sBlt (.builtin "isinstance") ?_ ?_ ?_ ?_ ?_
  kernel_rfl
  (intro c; refine c.mgNo ?_; intro _; kernel_rfl)
  kernel_rfl
  decide
  kernel_rfl
  refine svCons ?_ ?_
  refine sLoc 0 ?_ ?_ ?_
  kernel_rfl
  kernel_rfl
  kernel_rfl
  refine svCons ?_ ?_
  refine sBlt (.type "int") ?_ ?_ ?_ ?_ ?_
  kernel_rfl
  (intro c; refine c.mgNo ?_; intro _; kernel_rfl)
  kernel_rfl
  decide
  kernel_rfl
  refine svNil
  kernel_rfl
  kernel_rfl
  (intro _ _; rfl)
  refine ssCons ?_ ?_
  refine stRet ?_
  refine sBin ?_ ?_
  refine sLoc 0 ?_ ?_ ?_
  kernel_rfl
  kernel_rfl
  kernel_rfl
  refine sBin ?_ ?_
  refine sInt
  refine sInt
  refine ssNil
  refine ssNil
  refine ssCons ?_ ?_
  refine stAss ?_ ?_ ?_ ?_
  refine sInt
  refine gLoc 1 ?_ ?_
  kernel_rfl
  kernel_rfl
  kernel_rfl
  kernel_rfl
  refine ssCons ?_ ?_
  refine stFor ?_ ?_ ?_ ?_ ?_
  refine sLoc 0 ?_ ?_ ?_
  kernel_rfl
  kernel_rfl
  kernel_rfl
  refine gLoc 2 ?_ ?_
  kernel_rfl
  kernel_rfl
  refine ssCons ?_ ?_
  refine stAss ?_ ?_ ?_ ?_
  refine sBin ?_ ?_
  refine sBin ?_ ?_
  refine sBin ?_ ?_
  refine sLoc 1 ?_ ?_ ?_
  kernel_rfl
  kernel_rfl
  kernel_rfl
  refine sInt
  refine sCall ?_ ?_ ?_ ?_
  refine sBlt (.builtin "ord") ?_ ?_ ?_ ?_ ?_
  kernel_rfl
  (intro c; refine c.mgNo ?_; intro _; kernel_rfl)
  kernel_rfl
  decide
  kernel_rfl
  refine svCons ?_ ?_
  refine sLoc 2 ?_ ?_ ?_
  kernel_rfl
  kernel_rfl
  kernel_rfl
  refine svNil
  kernel_rfl
  kernel_rfl
  refine sBin ?_ ?_
  refine sInt
  refine sInt
  refine gLoc 1 ?_ ?_
  kernel_rfl
  kernel_rfl
  kernel_rfl
  kernel_rfl
  refine ssNil
  (intro _ _; rfl)
  kernel_rfl
  refine ssCons ?_ ?_
  refine stRet ?_
  refine sBin ?_ ?_
  refine sLoc 1 ?_ ?_ ?_
  kernel_rfl
  kernel_rfl
  kernel_rfl
  refine sBin ?_ ?_
  refine sInt
  refine sInt
  refine ssNil
noncomputable def N_link : List Str := [so "arr", so "place", so "chain"]
noncomputable def T_link : ST := (tSeq (tAss (tBin .Mod (tCall (tVal (.ref 271)) (lCons (tSub (tAtt (tLoc 0) (so "keys")) (tLoc 1)) lNil)) (tAtt (tLoc 0) (so "size"))) (gSlot 2)) (tSeq (tAss (tSub (tAtt (tLoc 0) (so "heads")) (tLoc 2)) (gSub (tAtt (tLoc 0) (so "nexts")) (tLoc 1))) (tSeq (tAss (tLoc 1) (gSub (tAtt (tLoc 0) (so "heads")) (tLoc 2))) tNil)))
theorem S_link : SimSs' d_link.scope N_link d_link.body T_link := by
  refine ssCons ?_ ?_
  refine stAss ?_ ?_ ?_ ?_
  refine sBin ?_ ?_
  refine sCall ?_ ?_ ?_ ?_
  refine sGlob (.ref 271) ?_ ?_ ?_
  kernel_rfl
  (intro c; refine c.mgAt ?_; intro _; kernel_rfl)
  kernel_rfl
  refine svCons ?_ ?_
  refine sSub ?_ ?_
  refine sAtt ?_ ?_
  refine sLoc 0 ?_ ?_ ?_
  kernel_rfl
  kernel_rfl
  kernel_rfl
  kernel_rfl
  refine sLoc 1 ?_ ?_ ?_
  kernel_rfl
  kernel_rfl
  kernel_rfl
  refine svNil
  kernel_rfl
  kernel_rfl
  refine sAtt ?_ ?_
  refine sLoc 0 ?_ ?_ ?_
  kernel_rfl
  kernel_rfl
  kernel_rfl
  kernel_rfl
  refine gLoc 2 ?_ ?_
  kernel_rfl
  kernel_rfl
  kernel_rfl
  kernel_rfl
  refine ssCons ?_ ?_
  refine stAss ?_ ?_ ?_ ?_
  refine sSub ?_ ?_
  refine sAtt ?_ ?_
  refine sLoc 0 ?_ ?_ ?_
  kernel_rfl
  kernel_rfl
  kernel_rfl
  kernel_rfl
  refine sLoc 2 ?_ ?_ ?_
  kernel_rfl
  kernel_rfl
  kernel_rfl
  refine gSubs ?_ ?_
  refine sAtt ?_ ?_
  refine sLoc 0 ?_ ?_ ?_
  kernel_rfl
  kernel_rfl
  kernel_rfl
  kernel_rfl
  refine sLoc 1 ?_ ?_ ?_
  kernel_rfl
  kernel_rfl
  kernel_rfl
  kernel_rfl
  kernel_rfl
  refine ssCons ?_ ?_
  refine stAss ?_ ?_ ?_ ?_
  refine sLoc 1 ?_ ?_ ?_
  kernel_rfl
  kernel_rfl
  kernel_rfl
  refine gSubs ?_ ?_
  refine sAtt ?_ ?_
  refine sLoc 0 ?_ ?_ ?_
  kernel_rfl
  kernel_rfl
  kernel_rfl
  kernel_rfl
  refine sLoc 2 ?_ ?_ ?_
  kernel_rfl
  kernel_rfl
  kernel_rfl
  kernel_rfl
  kernel_rfl
  refine ssNil
noncomputable def N_chains : List Str := [so "arr", so "place"]
noncomputable def T_chains : ST := (tSeq (tAss (tBin .Mult (tLst (lCons (tUn .USub (tInt 1)) lNil)) (tAtt (tLoc 0) (so "size"))) (gAtt (tLoc 0) (so "heads"))) (tSeq (tAss (tBin .Mult (tLst (lCons (tUn .USub (tInt 1)) lNil)) (tCall (tVal (.builtin "len")) (lCons (tAtt (tLoc 0) (so "vals")) lNil))) (gAtt (tLoc 0) (so "nexts"))) (tSeq (tFor (tCall (tVal (.type "range")) (lCons (tCall (tVal (.builtin "len")) (lCons (tAtt (tLoc 0) (so "vals")) lNil)) lNil)) 0 (gSlot 1) (tSeq (tIf (bVal (tCall (tVal (.ref 264)) (lCons (tLoc 0) (lCons (tLoc 1) lNil)))) (tSeq (tExp (tCall (tVal (.ref 278)) (lCons (tLoc 0) (lCons (tLoc 1) lNil)))) tNil) tNil) tNil)) tNil)))
theorem S_chains : SimSs' d_chains.scope N_chains d_chains.body T_chains := by
  refine ssCons ?_ ?_
  refine stAss ?_ ?_ ?_ ?_
  refine sBin ?_ ?_
  refine sLst ?_ ?_
  refine svCons ?_ ?_
  refine sUn ?_
  refine sInt
  refine svNil
  kernel_rfl
  refine sAtt ?_ ?_
  refine sLoc 0 ?_ ?_ ?_
  kernel_rfl
  kernel_rfl
  kernel_rfl
  kernel_rfl
  refine gAttr ?_
  refine sLoc 0 ?_ ?_ ?_
  kernel_rfl
  kernel_rfl
  kernel_rfl
  kernel_rfl
  kernel_rfl
  refine ssCons ?_ ?_
  refine stAss ?_ ?_ ?_ ?_
  refine sBin ?_ ?_
  refine sLst ?_ ?_
  refine svCons ?_ ?_
  refine sUn ?_
  refine sInt
  refine svNil
  kernel_rfl
  refine sCall ?_ ?_ ?_ ?_
  refine sBlt (.builtin "len") ?_ ?_ ?_ ?_ ?_
  kernel_rfl
  (intro c; refine c.mgNo ?_; intro _; kernel_rfl)
  kernel_rfl
  decide
  kernel_rfl
  refine svCons ?_ ?_
  refine sAtt ?_ ?_
  refine sLoc 0 ?_ ?_ ?_
  kernel_rfl
  kernel_rfl
  kernel_rfl
  kernel_rfl
  refine svNil
  kernel_rfl
  kernel_rfl
  refine gAttr ?_
  refine sLoc 0 ?_ ?_ ?_
  kernel_rfl
  kernel_rfl
  kernel_rfl
  kernel_rfl
  kernel_rfl
  refine ssCons ?_ ?_
  refine stFor ?_ ?_ ?_ ?_ ?_
  refine sCall ?_ ?_ ?_ ?_
  refine sBlt (.type "range") ?_ ?_ ?_ ?_ ?_
  kernel_rfl
  (intro c; refine c.mgNo ?_; intro _; kernel_rfl)
  kernel_rfl
  decide
  kernel_rfl
  refine svCons ?_ ?_
  refine sCall ?_ ?_ ?_ ?_
  refine sBlt (.builtin "len") ?_ ?_ ?_ ?_ ?_
  kernel_rfl
  (intro c; refine c.mgNo ?_; intro _; kernel_rfl)
  kernel_rfl
  decide
  kernel_rfl
  refine svCons ?_ ?_
  refine sAtt ?_ ?_
  refine sLoc 0 ?_ ?_ ?_
  kernel_rfl
  kernel_rfl
  kernel_rfl
  kernel_rfl
  refine svNil
  kernel_rfl
  kernel_rfl
  refine svNil
  kernel_rfl
  kernel_rfl
  refine gLoc 1 ?_ ?_
  kernel_rfl
  kernel_rfl
  refine ssCons ?_ ?_
  refine stIf ?_ ?_ ?_
  refine sbVal ?_ ?_
  refine sCall ?_ ?_ ?_ ?_
  refine sGlob (.ref 264) ?_ ?_ ?_
  kernel_rfl
  (intro c; refine c.mgAt ?_; intro _; kernel_rfl)
  kernel_rfl
  refine svCons ?_ ?_
  refine sLoc 0 ?_ ?_ ?_
  kernel_rfl
  kernel_rfl
  kernel_rfl
  refine svCons ?_ ?_
  refine sLoc 1 ?_ ?_ ?_
  kernel_rfl
  kernel_rfl
  kernel_rfl
  refine svNil
  kernel_rfl
  kernel_rfl
  (intro _ _; rfl)
  refine ssCons ?_ ?_
  refine stExp ?_ ?_
  refine sCall ?_ ?_ ?_ ?_
  refine sGlob (.ref 278) ?_ ?_ ?_
  kernel_rfl
  (intro c; refine c.mgAt ?_; intro _; kernel_rfl)
  kernel_rfl
  refine svCons ?_ ?_
  refine sLoc 0 ?_ ?_ ?_
  kernel_rfl
  kernel_rfl
  kernel_rfl
  refine svCons ?_ ?_
  refine sLoc 1 ?_ ?_ ?_
  kernel_rfl
  kernel_rfl
  kernel_rfl
  refine svNil
  kernel_rfl
  kernel_rfl
  kernel_rfl
  refine ssNil
  refine ssNil
  refine ssNil
  (intro _ _; rfl)
  kernel_rfl
  refine ssNil
noncomputable def N_many_ahead : List Str := [so "living", so "place"]
noncomputable def T_many_ahead : ST := (tSeq (tRet (tCall (tVal (.builtin "len")) (lCons (tComp 0 (tLoc 0) (gSlot 0) (bCmp .Lt (tLoc 0) (tLoc 1)) (tLoc 0) 1 [1]) lNil))) tNil)
theorem S_many_ahead : SimSs' d_many_ahead.scope N_many_ahead d_many_ahead.body T_many_ahead := by
  refine ssCons ?_ ?_
  refine stRet ?_
  refine sCall ?_ ?_ ?_ ?_
  refine sBlt (.builtin "len") ?_ ?_ ?_ ?_ ?_
  kernel_rfl
  (intro c; refine c.mgNo ?_; intro _; kernel_rfl)
  kernel_rfl
  decide
  kernel_rfl
  refine svCons ?_ ?_
  refine sComp (own := [so "other"]) (fr := [so "place"]) (fi := [1]) ?_ ?_ ?_ ?_ ?_ ?_ ?_
  kernel_rfl
  refine sLoc 0 ?_ ?_ ?_
  kernel_rfl
  kernel_rfl
  kernel_rfl
  refine gcLoc 0 ?_ ?_
  kernel_rfl
  kernel_rfl
  refine siOne ?_
  refine sbCmp ?_ ?_ ?_
  refine sLoc 0 ?_ ?_ ?_
  kernel_rfl
  kernel_rfl
  kernel_rfl
  refine sCell 1 ?_ ?_ ?_
  kernel_rfl
  kernel_rfl
  kernel_rfl
  kernel_rfl
  refine sLoc 0 ?_ ?_ ?_
  kernel_rfl
  kernel_rfl
  kernel_rfl
  (intro _ _; rfl)
  kernel_rfl
  refine svNil
  kernel_rfl
  kernel_rfl
  refine ssNil
noncomputable def N_rehash : List Str := [so "arr", so "living", so "number"]
noncomputable def T_rehash : ST := (tSeq (tCompS 1 (tComp 0 (tCall (tVal (.type "range")) (lCons (tCall (tVal (.builtin "len")) (lCons (tAtt (tLoc 0) (so "vals")) lNil)) lNil)) (gSlot 0) (bVal (tCall (tVal (.ref 264)) (lCons (tLoc 1) (lCons (tLoc 0) lNil)))) (tLoc 0) 1 [0])) (tSeq (tAss (tCall (tVal (.ref 290)) (lCons (tLoc 1) (lCons (tAtt (tLoc 0) (so "at")) lNil))) (gAtt (tLoc 0) (so "at"))) (tSeq (tFor (tCall (tVal (.type "list")) (lCons (tAtt (tLoc 0) (so "walks")) lNil)) 0 (gSlot 2) (tSeq (tAss (tCall (tVal (.ref 290)) (lCons (tLoc 1) (lCons (tSub (tAtt (tLoc 0) (so "walks")) (tLoc 2)) lNil))) (gSub (tAtt (tLoc 0) (so "walks")) (tLoc 2))) tNil)) (tSeq (tAss (tComp 0 (tLoc 1) (gSlot 0) bTrue (tSub (tAtt (tLoc 1) (so "keys")) (tLoc 0)) 1 [0]) (gAtt (tLoc 0) (so "keys"))) (tSeq (tAss (tComp 0 (tLoc 1) (gSlot 0) bTrue (tSub (tAtt (tLoc 1) (so "vals")) (tLoc 0)) 1 [0]) (gAtt (tLoc 0) (so "vals"))) (tSeq (tExp (tCall (tVal (.ref 285)) (lCons (tLoc 0) lNil))) tNil))))))
theorem S_rehash : SimSs' d_rehash.scope N_rehash d_rehash.body T_rehash := by
  refine ssCons ?_ ?_
  refine stComp (own := [so "place"]) (fr := [so "arr"]) (fi := [0]) 1 ?_ ?_ ?_ ?_ ?_ ?_ ?_ ?_ ?_
  kernel_rfl
  refine sCall ?_ ?_ ?_ ?_
  refine sBlt (.type "range") ?_ ?_ ?_ ?_ ?_
  kernel_rfl
  (intro c; refine c.mgNo ?_; intro _; kernel_rfl)
  kernel_rfl
  decide
  kernel_rfl
  refine svCons ?_ ?_
  refine sCall ?_ ?_ ?_ ?_
  refine sBlt (.builtin "len") ?_ ?_ ?_ ?_ ?_
  kernel_rfl
  (intro c; refine c.mgNo ?_; intro _; kernel_rfl)
  kernel_rfl
  decide
  kernel_rfl
  refine svCons ?_ ?_
  refine sAtt ?_ ?_
  refine sCell 0 ?_ ?_ ?_
  kernel_rfl
  kernel_rfl
  kernel_rfl
  kernel_rfl
  refine svNil
  kernel_rfl
  kernel_rfl
  refine svNil
  kernel_rfl
  kernel_rfl
  refine gcLoc 0 ?_ ?_
  kernel_rfl
  kernel_rfl
  refine siOne ?_
  refine sbVal ?_ ?_
  refine sCall ?_ ?_ ?_ ?_
  refine sGlob (.ref 264) ?_ ?_ ?_
  kernel_rfl
  (intro c; refine c.mgAt ?_; intro _; kernel_rfl)
  kernel_rfl
  refine svCons ?_ ?_
  refine sCell 1 ?_ ?_ ?_
  kernel_rfl
  kernel_rfl
  kernel_rfl
  refine svCons ?_ ?_
  refine sLoc 0 ?_ ?_ ?_
  kernel_rfl
  kernel_rfl
  kernel_rfl
  refine svNil
  kernel_rfl
  kernel_rfl
  (intro _ _; rfl)
  refine sLoc 0 ?_ ?_ ?_
  kernel_rfl
  kernel_rfl
  kernel_rfl
  (intro _ _; rfl)
  kernel_rfl
  kernel_rfl
  kernel_rfl
  refine ssCons ?_ ?_
  refine stAss ?_ ?_ ?_ ?_
  refine sCall ?_ ?_ ?_ ?_
  refine sGlob (.ref 290) ?_ ?_ ?_
  kernel_rfl
  (intro c; refine c.mgAt ?_; intro _; kernel_rfl)
  kernel_rfl
  refine svCons ?_ ?_
  refine sLoc 1 ?_ ?_ ?_
  kernel_rfl
  kernel_rfl
  kernel_rfl
  refine svCons ?_ ?_
  refine sAtt ?_ ?_
  refine sCell 0 ?_ ?_ ?_
  kernel_rfl
  kernel_rfl
  kernel_rfl
  kernel_rfl
  refine svNil
  kernel_rfl
  kernel_rfl
  refine gAttr ?_
  refine sCell 0 ?_ ?_ ?_
  kernel_rfl
  kernel_rfl
  kernel_rfl
  kernel_rfl
  kernel_rfl
  refine ssCons ?_ ?_
  refine stFor ?_ ?_ ?_ ?_ ?_
  refine sCall ?_ ?_ ?_ ?_
  refine sBlt (.type "list") ?_ ?_ ?_ ?_ ?_
  kernel_rfl
  (intro c; refine c.mgNo ?_; intro _; kernel_rfl)
  kernel_rfl
  decide
  kernel_rfl
  refine svCons ?_ ?_
  refine sAtt ?_ ?_
  refine sCell 0 ?_ ?_ ?_
  kernel_rfl
  kernel_rfl
  kernel_rfl
  kernel_rfl
  refine svNil
  kernel_rfl
  kernel_rfl
  refine gLoc 2 ?_ ?_
  kernel_rfl
  kernel_rfl
  refine ssCons ?_ ?_
  refine stAss ?_ ?_ ?_ ?_
  refine sCall ?_ ?_ ?_ ?_
  refine sGlob (.ref 290) ?_ ?_ ?_
  kernel_rfl
  (intro c; refine c.mgAt ?_; intro _; kernel_rfl)
  kernel_rfl
  refine svCons ?_ ?_
  refine sLoc 1 ?_ ?_ ?_
  kernel_rfl
  kernel_rfl
  kernel_rfl
  refine svCons ?_ ?_
  refine sSub ?_ ?_
  refine sAtt ?_ ?_
  refine sCell 0 ?_ ?_ ?_
  kernel_rfl
  kernel_rfl
  kernel_rfl
  kernel_rfl
  refine sLoc 2 ?_ ?_ ?_
  kernel_rfl
  kernel_rfl
  kernel_rfl
  refine svNil
  kernel_rfl
  kernel_rfl
  refine gSubs ?_ ?_
  refine sAtt ?_ ?_
  refine sCell 0 ?_ ?_ ?_
  kernel_rfl
  kernel_rfl
  kernel_rfl
  kernel_rfl
  refine sLoc 2 ?_ ?_ ?_
  kernel_rfl
  kernel_rfl
  kernel_rfl
  kernel_rfl
  kernel_rfl
  refine ssNil
  (intro _ _; rfl)
  kernel_rfl
  refine ssCons ?_ ?_
  refine stAssC ?_ ?_ ?_ ?_
  refine sComp (own := [so "place"]) (fr := [so "arr"]) (fi := [0]) ?_ ?_ ?_ ?_ ?_ ?_ ?_
  kernel_rfl
  refine sLoc 1 ?_ ?_ ?_
  kernel_rfl
  kernel_rfl
  kernel_rfl
  refine gcLoc 0 ?_ ?_
  kernel_rfl
  kernel_rfl
  refine siNil
  refine sSub ?_ ?_
  refine sAtt ?_ ?_
  refine sCell 1 ?_ ?_ ?_
  kernel_rfl
  kernel_rfl
  kernel_rfl
  kernel_rfl
  refine sLoc 0 ?_ ?_ ?_
  kernel_rfl
  kernel_rfl
  kernel_rfl
  (intro _ _; rfl)
  kernel_rfl
  refine gAttr ?_
  refine sCell 0 ?_ ?_ ?_
  kernel_rfl
  kernel_rfl
  kernel_rfl
  kernel_rfl
  (intro _ _ _; rfl)
  refine ssCons ?_ ?_
  refine stAssC ?_ ?_ ?_ ?_
  refine sComp (own := [so "place"]) (fr := [so "arr"]) (fi := [0]) ?_ ?_ ?_ ?_ ?_ ?_ ?_
  kernel_rfl
  refine sLoc 1 ?_ ?_ ?_
  kernel_rfl
  kernel_rfl
  kernel_rfl
  refine gcLoc 0 ?_ ?_
  kernel_rfl
  kernel_rfl
  refine siNil
  refine sSub ?_ ?_
  refine sAtt ?_ ?_
  refine sCell 1 ?_ ?_ ?_
  kernel_rfl
  kernel_rfl
  kernel_rfl
  kernel_rfl
  refine sLoc 0 ?_ ?_ ?_
  kernel_rfl
  kernel_rfl
  kernel_rfl
  (intro _ _; rfl)
  kernel_rfl
  refine gAttr ?_
  refine sCell 0 ?_ ?_ ?_
  kernel_rfl
  kernel_rfl
  kernel_rfl
  kernel_rfl
  (intro _ _ _; rfl)
  refine ssCons ?_ ?_
  refine stExp ?_ ?_
  refine sCall ?_ ?_ ?_ ?_
  refine sGlob (.ref 285) ?_ ?_ ?_
  kernel_rfl
  (intro c; refine c.mgAt ?_; intro _; kernel_rfl)
  kernel_rfl
  refine svCons ?_ ?_
  refine sCell 0 ?_ ?_ ?_
  kernel_rfl
  kernel_rfl
  kernel_rfl
  refine svNil
  kernel_rfl
  kernel_rfl
  kernel_rfl
  refine ssNil
noncomputable def N_to_hash : List Str := [so "arr"]
noncomputable def T_to_hash : ST := (tSeq (tAss (tCall (tVal (.type "list")) (lCons (tCall (tVal (.type "range")) (lCons (tCall (tVal (.builtin "len")) (lCons (tAtt (tLoc 0) (so "vals")) lNil)) lNil)) lNil)) (gAtt (tLoc 0) (so "keys"))) (tSeq (tAss (tVal (.bool false)) (gAtt (tLoc 0) (so "is_packed"))) (tSeq (tExp (tCall (tVal (.ref 295)) (lCons (tLoc 0) lNil))) tNil)))
theorem S_to_hash : SimSs' d_to_hash.scope N_to_hash d_to_hash.body T_to_hash := by
  refine ssCons ?_ ?_
  refine stAss ?_ ?_ ?_ ?_
  refine sCall ?_ ?_ ?_ ?_
  refine sBlt (.type "list") ?_ ?_ ?_ ?_ ?_
  kernel_rfl
  (intro c; refine c.mgNo ?_; intro _; kernel_rfl)
  kernel_rfl
  decide
  kernel_rfl
  refine svCons ?_ ?_
  refine sCall ?_ ?_ ?_ ?_
  refine sBlt (.type "range") ?_ ?_ ?_ ?_ ?_
  kernel_rfl
  (intro c; refine c.mgNo ?_; intro _; kernel_rfl)
  kernel_rfl
  decide
  kernel_rfl
  refine svCons ?_ ?_
  refine sCall ?_ ?_ ?_ ?_
  refine sBlt (.builtin "len") ?_ ?_ ?_ ?_ ?_
  kernel_rfl
  (intro c; refine c.mgNo ?_; intro _; kernel_rfl)
  kernel_rfl
  decide
  kernel_rfl
  refine svCons ?_ ?_
  refine sAtt ?_ ?_
  refine sLoc 0 ?_ ?_ ?_
  kernel_rfl
  kernel_rfl
  kernel_rfl
  kernel_rfl
  refine svNil
  kernel_rfl
  kernel_rfl
  refine svNil
  kernel_rfl
  kernel_rfl
  refine svNil
  kernel_rfl
  kernel_rfl
  refine gAttr ?_
  refine sLoc 0 ?_ ?_ ?_
  kernel_rfl
  kernel_rfl
  kernel_rfl
  kernel_rfl
  kernel_rfl
  refine ssCons ?_ ?_
  refine stAss ?_ ?_ ?_ ?_
  refine sBool
  refine gAttr ?_
  refine sLoc 0 ?_ ?_ ?_
  kernel_rfl
  kernel_rfl
  kernel_rfl
  kernel_rfl
  kernel_rfl
  refine ssCons ?_ ?_
  refine stExp ?_ ?_
  refine sCall ?_ ?_ ?_ ?_
  refine sGlob (.ref 295) ?_ ?_ ?_
  kernel_rfl
  (intro c; refine c.mgAt ?_; intro _; kernel_rfl)
  kernel_rfl
  refine svCons ?_ ?_
  refine sLoc 0 ?_ ?_ ?_
  kernel_rfl
  kernel_rfl
  kernel_rfl
  refine svNil
  kernel_rfl
  kernel_rfl
  kernel_rfl
  refine ssNil
noncomputable def N_takes_packed : List Str := [so "arr", so "key"]
noncomputable def T_takes_packed : ST := (tSeq (tIf (bOr (bNot (bVal (tCall (tVal (.builtin "isinstance")) (lCons (tLoc 1) (lCons (tVal (.type "int")) lNil))))) (bOr (bCmp .Lt (tLoc 1) (tCall (tVal (.builtin "len")) (lCons (tAtt (tLoc 0) (so "vals")) lNil))) bFalse)) (tSeq (tRet (tVal (.bool false))) tNil) tNil) (tSeq (tIf (bAnd (bCmp .GtE (tLoc 1) (tAtt (tLoc 0) (so "size"))) (bAnd (bCmp .Lt (tBin .RShift (tLoc 1) (tInt 1)) (tAtt (tLoc 0) (so "size"))) (bAnd (bCmp .Lt (tBin .RShift (tAtt (tLoc 0) (so "size")) (tInt 1)) (tAtt (tLoc 0) (so "count"))) bTrue))) (tSeq (tAss (tBin .Mult (tAtt (tLoc 0) (so "size")) (tInt 2)) (gAtt (tLoc 0) (so "size"))) tNil) tNil) (tSeq (tRet (tCmp .Lt (tLoc 1) (tAtt (tLoc 0) (so "size")))) tNil)))
theorem S_takes_packed : SimSs' d_takes_packed.scope N_takes_packed d_takes_packed.body T_takes_packed := by
  refine ssCons ?_ ?_
  refine stIf ?_ ?_ ?_
  refine sbBool ?_
  refine saOr ?_ ?_
  refine sbNot ?_
  refine sbVal ?_ ?_
  refine sCall ?_ ?_ ?_ ?_
  refine sBlt (.builtin "isinstance") ?_ ?_ ?_ ?_ ?_
  kernel_rfl
  (intro c; refine c.mgNo ?_; intro _; kernel_rfl)
  kernel_rfl
  decide
  kernel_rfl
  refine svCons ?_ ?_
  refine sLoc 1 ?_ ?_ ?_
  kernel_rfl
  kernel_rfl
  kernel_rfl
  refine svCons ?_ ?_
  refine sBlt (.type "int") ?_ ?_ ?_ ?_ ?_
  kernel_rfl
  (intro c; refine c.mgNo ?_; intro _; kernel_rfl)
  kernel_rfl
  decide
  kernel_rfl
  refine svNil
  kernel_rfl
  kernel_rfl
  (intro _ _; rfl)
  refine saOr ?_ ?_
  refine sbCmp ?_ ?_ ?_
  refine sLoc 1 ?_ ?_ ?_
  kernel_rfl
  kernel_rfl
  kernel_rfl
  refine sCall ?_ ?_ ?_ ?_
  refine sBlt (.builtin "len") ?_ ?_ ?_ ?_ ?_
  kernel_rfl
  (intro c; refine c.mgNo ?_; intro _; kernel_rfl)
  kernel_rfl
  decide
  kernel_rfl
  refine svCons ?_ ?_
  refine sAtt ?_ ?_
  refine sLoc 0 ?_ ?_ ?_
  kernel_rfl
  kernel_rfl
  kernel_rfl
  kernel_rfl
  refine svNil
  kernel_rfl
  kernel_rfl
  kernel_rfl
  refine saOr0
  refine ssCons ?_ ?_
  refine stRet ?_
  refine sBool
  refine ssNil
  refine ssNil
  refine ssCons ?_ ?_
  refine stIf ?_ ?_ ?_
  refine sbBool ?_
  refine saAnd ?_ ?_
  refine sbCmp ?_ ?_ ?_
  refine sLoc 1 ?_ ?_ ?_
  kernel_rfl
  kernel_rfl
  kernel_rfl
  refine sAtt ?_ ?_
  refine sLoc 0 ?_ ?_ ?_
  kernel_rfl
  kernel_rfl
  kernel_rfl
  kernel_rfl
  kernel_rfl
  refine saAnd ?_ ?_
  refine sbCmp ?_ ?_ ?_
  refine sBin ?_ ?_
  refine sLoc 1 ?_ ?_ ?_
  kernel_rfl
  kernel_rfl
  kernel_rfl
  refine sInt
  refine sAtt ?_ ?_
  refine sLoc 0 ?_ ?_ ?_
  kernel_rfl
  kernel_rfl
  kernel_rfl
  kernel_rfl
  kernel_rfl
  refine saAnd ?_ ?_
  refine sbCmp ?_ ?_ ?_
  refine sBin ?_ ?_
  refine sAtt ?_ ?_
  refine sLoc 0 ?_ ?_ ?_
  kernel_rfl
  kernel_rfl
  kernel_rfl
  kernel_rfl
  refine sInt
  refine sAtt ?_ ?_
  refine sLoc 0 ?_ ?_ ?_
  kernel_rfl
  kernel_rfl
  kernel_rfl
  kernel_rfl
  kernel_rfl
  refine saAnd0
  refine ssCons ?_ ?_
  refine stAss ?_ ?_ ?_ ?_
  refine sBin ?_ ?_
  refine sAtt ?_ ?_
  refine sLoc 0 ?_ ?_ ?_
  kernel_rfl
  kernel_rfl
  kernel_rfl
  kernel_rfl
  refine sInt
  refine gAttr ?_
  refine sLoc 0 ?_ ?_ ?_
  kernel_rfl
  kernel_rfl
  kernel_rfl
  kernel_rfl
  kernel_rfl
  refine ssNil
  refine ssNil
  refine ssCons ?_ ?_
  refine stRet ?_
  refine sCmp ?_ ?_ ?_
  refine sLoc 1 ?_ ?_ ?_
  kernel_rfl
  kernel_rfl
  kernel_rfl
  refine sAtt ?_ ?_
  refine sLoc 0 ?_ ?_ ?_
  kernel_rfl
  kernel_rfl
  kernel_rfl
  kernel_rfl
  kernel_rfl
  refine ssNil
noncomputable def N_add_packed : List Str := [so "arr", so "key", so "slot"]
noncomputable def T_add_packed : ST := (tSeq (tWhile (bCmp .Lt (tCall (tVal (.builtin "len")) (lCons (tAtt (tLoc 0) (so "vals")) lNil)) (tLoc 1)) (tSeq (tExp (tMeth (tAtt (tLoc 0) (so "vals")) (so "append") (lCons (tCall (tVal (.ref 147)) lNil) lNil))) tNil)) (tSeq (tExp (tMeth (tAtt (tLoc 0) (so "vals")) (so "append") (lCons (tLoc 2) lNil))) tNil))
theorem S_add_packed : SimSs' d_add_packed.scope N_add_packed d_add_packed.body T_add_packed := by
  refine ssCons ?_ ?_
  refine stWhile ?_ ?_
  refine sbCmp ?_ ?_ ?_
  refine sCall ?_ ?_ ?_ ?_
  refine sBlt (.builtin "len") ?_ ?_ ?_ ?_ ?_
  kernel_rfl
  (intro c; refine c.mgNo ?_; intro _; kernel_rfl)
  kernel_rfl
  decide
  kernel_rfl
  refine svCons ?_ ?_
  refine sAtt ?_ ?_
  refine sLoc 0 ?_ ?_ ?_
  kernel_rfl
  kernel_rfl
  kernel_rfl
  kernel_rfl
  refine svNil
  kernel_rfl
  kernel_rfl
  refine sLoc 1 ?_ ?_ ?_
  kernel_rfl
  kernel_rfl
  kernel_rfl
  kernel_rfl
  refine ssCons ?_ ?_
  refine stExp ?_ ?_
  refine sMeth ?_ ?_ ?_ ?_ ?_ ?_
  refine sAtt ?_ ?_
  refine sLoc 0 ?_ ?_ ?_
  kernel_rfl
  kernel_rfl
  kernel_rfl
  kernel_rfl
  refine svCons ?_ ?_
  refine sCall ?_ ?_ ?_ ?_
  refine sGlob (.ref 147) ?_ ?_ ?_
  kernel_rfl
  (intro c; refine c.mgAt ?_; intro _; kernel_rfl)
  kernel_rfl
  refine svNil
  kernel_rfl
  kernel_rfl
  refine svNil
  kernel_rfl
  kernel_rfl
  decide
  kernel_rfl
  kernel_rfl
  refine ssNil
  refine ssCons ?_ ?_
  refine stExp ?_ ?_
  refine sMeth ?_ ?_ ?_ ?_ ?_ ?_
  refine sAtt ?_ ?_
  refine sLoc 0 ?_ ?_ ?_
  kernel_rfl
  kernel_rfl
  kernel_rfl
  kernel_rfl
  refine svCons ?_ ?_
  refine sLoc 2 ?_ ?_ ?_
  kernel_rfl
  kernel_rfl
  kernel_rfl
  refine svNil
  kernel_rfl
  kernel_rfl
  decide
  kernel_rfl
  kernel_rfl
  refine ssNil
noncomputable def N_add_hashed : List Str := [so "arr", so "key", so "slot", so "used"]
noncomputable def T_add_hashed : ST := (tSeq (tAss (tCall (tVal (.builtin "len")) (lCons (tAtt (tLoc 0) (so "vals")) lNil)) (gSlot 3)) (tSeq (tIf (bCmp .GtE (tLoc 3) (tAtt (tLoc 0) (so "size"))) (tSeq tNo tNil) tNil) (tSeq (tExp (tMeth (tAtt (tLoc 0) (so "keys")) (so "append") (lCons (tLoc 1) lNil))) (tSeq (tExp (tMeth (tAtt (tLoc 0) (so "vals")) (so "append") (lCons (tLoc 2) lNil))) (tSeq (tExp (tMeth (tAtt (tLoc 0) (so "nexts")) (so "append") (lCons (tUn .USub (tInt 1)) lNil))) (tSeq (tExp (tCall (tVal (.ref 278)) (lCons (tLoc 0) (lCons (tBin .Sub (tCall (tVal (.builtin "len")) (lCons (tAtt (tLoc 0) (so "vals")) lNil)) (tInt 1)) lNil)))) tNil))))))
theorem S_add_hashed : SimSs' d_add_hashed.scope N_add_hashed d_add_hashed.body T_add_hashed := by
  refine ssCons ?_ ?_
  refine stAss ?_ ?_ ?_ ?_
  refine sCall ?_ ?_ ?_ ?_
  refine sBlt (.builtin "len") ?_ ?_ ?_ ?_ ?_
  kernel_rfl
  (intro c; refine c.mgNo ?_; intro _; kernel_rfl)
  kernel_rfl
  decide
  kernel_rfl
  refine svCons ?_ ?_
  refine sAtt ?_ ?_
  refine sLoc 0 ?_ ?_ ?_
  kernel_rfl
  kernel_rfl
  kernel_rfl
  kernel_rfl
  refine svNil
  kernel_rfl
  kernel_rfl
  refine gLoc 3 ?_ ?_
  kernel_rfl
  kernel_rfl
  kernel_rfl
  kernel_rfl
  refine ssCons ?_ ?_
  refine stIf ?_ ?_ ?_
  refine sbCmp ?_ ?_ ?_
  refine sLoc 3 ?_ ?_ ?_
  kernel_rfl
  kernel_rfl
  kernel_rfl
  refine sAtt ?_ ?_
  refine sLoc 0 ?_ ?_ ?_
  kernel_rfl
  kernel_rfl
  kernel_rfl
  kernel_rfl
  kernel_rfl
  refine ssCons ?_ ?_
  refine stNo
  refine ssNil
  refine ssNil
  refine ssCons ?_ ?_
  refine stExp ?_ ?_
  refine sMeth ?_ ?_ ?_ ?_ ?_ ?_
  refine sAtt ?_ ?_
  refine sLoc 0 ?_ ?_ ?_
  kernel_rfl
  kernel_rfl
  kernel_rfl
  kernel_rfl
  refine svCons ?_ ?_
  refine sLoc 1 ?_ ?_ ?_
  kernel_rfl
  kernel_rfl
  kernel_rfl
  refine svNil
  kernel_rfl
  kernel_rfl
  decide
  kernel_rfl
  kernel_rfl
  refine ssCons ?_ ?_
  refine stExp ?_ ?_
  refine sMeth ?_ ?_ ?_ ?_ ?_ ?_
  refine sAtt ?_ ?_
  refine sLoc 0 ?_ ?_ ?_
  kernel_rfl
  kernel_rfl
  kernel_rfl
  kernel_rfl
  refine svCons ?_ ?_
  refine sLoc 2 ?_ ?_ ?_
  kernel_rfl
  kernel_rfl
  kernel_rfl
  refine svNil
  kernel_rfl
  kernel_rfl
  decide
  kernel_rfl
  kernel_rfl
  refine ssCons ?_ ?_
  refine stExp ?_ ?_
  refine sMeth ?_ ?_ ?_ ?_ ?_ ?_
  refine sAtt ?_ ?_
  refine sLoc 0 ?_ ?_ ?_
  kernel_rfl
  kernel_rfl
  kernel_rfl
  kernel_rfl
  refine svCons ?_ ?_
  refine sUn ?_
  refine sInt
  refine svNil
  kernel_rfl
  kernel_rfl
  decide
  kernel_rfl
  kernel_rfl
  refine ssCons ?_ ?_
  refine stExp ?_ ?_
  refine sCall ?_ ?_ ?_ ?_
  refine sGlob (.ref 278) ?_ ?_ ?_
  kernel_rfl
  (intro c; refine c.mgAt ?_; intro _; kernel_rfl)
  kernel_rfl
  refine svCons ?_ ?_
  refine sLoc 0 ?_ ?_ ?_
  kernel_rfl
  kernel_rfl
  kernel_rfl
  refine svCons ?_ ?_
  refine sBin ?_ ?_
  refine sCall ?_ ?_ ?_ ?_
  refine sBlt (.builtin "len") ?_ ?_ ?_ ?_ ?_
  kernel_rfl
  (intro c; refine c.mgNo ?_; intro _; kernel_rfl)
  kernel_rfl
  decide
  kernel_rfl
  refine svCons ?_ ?_
  refine sAtt ?_ ?_
  refine sLoc 0 ?_ ?_ ?_
  kernel_rfl
  kernel_rfl
  kernel_rfl
  kernel_rfl
  refine svNil
  kernel_rfl
  kernel_rfl
  refine sInt
  refine svNil
  kernel_rfl
  kernel_rfl
  kernel_rfl
  refine ssNil
noncomputable def N_add : List Str := [so "arr", so "key", so "slot"]
noncomputable def T_add : ST := (tSeq (tIf (bAnd (bVal (tAtt (tLoc 0) (so "is_packed"))) (bAnd (bNot (bVal (tCall (tVal (.ref 309)) (lCons (tLoc 0) (lCons (tLoc 1) lNil))))) bTrue)) (tSeq (tIf (bCmp .GtE (tCall (tVal (.builtin "len")) (lCons (tAtt (tLoc 0) (so "vals")) lNil)) (tAtt (tLoc 0) (so "size"))) (tSeq (tAss (tBin .Mult (tAtt (tLoc 0) (so "size")) (tInt 2)) (gAtt (tLoc 0) (so "size"))) tNil) tNil) (tSeq (tExp (tCall (tVal (.ref 302)) (lCons (tLoc 0) lNil))) tNil)) tNil) (tSeq (tIf (bVal (tAtt (tLoc 0) (so "is_packed"))) (tSeq (tExp (tCall (tVal (.ref 316)) (lCons (tLoc 0) (lCons (tLoc 1) (lCons (tLoc 2) lNil))))) tNil) (tSeq (tExp (tCall (tVal (.ref 323)) (lCons (tLoc 0) (lCons (tLoc 1) (lCons (tLoc 2) lNil))))) tNil)) (tSeq (tAugA .Add (tLoc 0) (so "count") (tInt 1)) (tSeq (tIf (bAnd (bVal (tCall (tVal (.builtin "isinstance")) (lCons (tLoc 1) (lCons (tVal (.type "int")) lNil)))) (bAnd (bCmp .GtE (tLoc 1) (tAtt (tLoc 0) (so "next"))) bTrue)) (tSeq (tAss (tCall (tVal (.builtin "min")) (lCons (tBin .Add (tLoc 1) (tInt 1)) (lCons (tCall (tVal (.ref 107)) lNil) lNil))) (gAtt (tLoc 0) (so "next"))) tNil) tNil) tNil))))
theorem S_add : SimSs' d_add.scope N_add d_add.body T_add := by
  refine ssCons ?_ ?_
  refine stIf ?_ ?_ ?_
  refine sbBool ?_
  refine saAnd ?_ ?_
  refine sbVal ?_ ?_
  refine sAtt ?_ ?_
  refine sLoc 0 ?_ ?_ ?_
  kernel_rfl
  kernel_rfl
  kernel_rfl
  kernel_rfl
  (intro _ _; rfl)
  refine saAnd ?_ ?_
  refine sbNot ?_
  refine sbVal ?_ ?_
  refine sCall ?_ ?_ ?_ ?_
  refine sGlob (.ref 309) ?_ ?_ ?_
  kernel_rfl
  (intro c; refine c.mgAt ?_; intro _; kernel_rfl)
  kernel_rfl
  refine svCons ?_ ?_
  refine sLoc 0 ?_ ?_ ?_
  kernel_rfl
  kernel_rfl
  kernel_rfl
  refine svCons ?_ ?_
  refine sLoc 1 ?_ ?_ ?_
  kernel_rfl
  kernel_rfl
  kernel_rfl
  refine svNil
  kernel_rfl
  kernel_rfl
  (intro _ _; rfl)
  refine saAnd0
  refine ssCons ?_ ?_
  refine stIf ?_ ?_ ?_
  refine sbCmp ?_ ?_ ?_
  refine sCall ?_ ?_ ?_ ?_
  refine sBlt (.builtin "len") ?_ ?_ ?_ ?_ ?_
  kernel_rfl
  (intro c; refine c.mgNo ?_; intro _; kernel_rfl)
  kernel_rfl
  decide
  kernel_rfl
  refine svCons ?_ ?_
  refine sAtt ?_ ?_
  refine sLoc 0 ?_ ?_ ?_
  kernel_rfl
  kernel_rfl
  kernel_rfl
  kernel_rfl
  refine svNil
  kernel_rfl
  kernel_rfl
  refine sAtt ?_ ?_
  refine sLoc 0 ?_ ?_ ?_
  kernel_rfl
  kernel_rfl
  kernel_rfl
  kernel_rfl
  kernel_rfl
  refine ssCons ?_ ?_
  refine stAss ?_ ?_ ?_ ?_
  refine sBin ?_ ?_
  refine sAtt ?_ ?_
  refine sLoc 0 ?_ ?_ ?_
  kernel_rfl
  kernel_rfl
  kernel_rfl
  kernel_rfl
  refine sInt
  refine gAttr ?_
  refine sLoc 0 ?_ ?_ ?_
  kernel_rfl
  kernel_rfl
  kernel_rfl
  kernel_rfl
  kernel_rfl
  refine ssNil
  refine ssNil
  refine ssCons ?_ ?_
  refine stExp ?_ ?_
  refine sCall ?_ ?_ ?_ ?_
  refine sGlob (.ref 302) ?_ ?_ ?_
  kernel_rfl
  (intro c; refine c.mgAt ?_; intro _; kernel_rfl)
  kernel_rfl
  refine svCons ?_ ?_
  refine sLoc 0 ?_ ?_ ?_
  kernel_rfl
  kernel_rfl
  kernel_rfl
  refine svNil
  kernel_rfl
  kernel_rfl
  kernel_rfl
  refine ssNil
  refine ssNil
  refine ssCons ?_ ?_
  refine stIf ?_ ?_ ?_
  refine sbVal ?_ ?_
  refine sAtt ?_ ?_
  refine sLoc 0 ?_ ?_ ?_
  kernel_rfl
  kernel_rfl
  kernel_rfl
  kernel_rfl
  (intro _ _; rfl)
  refine ssCons ?_ ?_
  refine stExp ?_ ?_
  refine sCall ?_ ?_ ?_ ?_
  refine sGlob (.ref 316) ?_ ?_ ?_
  kernel_rfl
  (intro c; refine c.mgAt ?_; intro _; kernel_rfl)
  kernel_rfl
  refine svCons ?_ ?_
  refine sLoc 0 ?_ ?_ ?_
  kernel_rfl
  kernel_rfl
  kernel_rfl
  refine svCons ?_ ?_
  refine sLoc 1 ?_ ?_ ?_
  kernel_rfl
  kernel_rfl
  kernel_rfl
  refine svCons ?_ ?_
  refine sLoc 2 ?_ ?_ ?_
  kernel_rfl
  kernel_rfl
  kernel_rfl
  refine svNil
  kernel_rfl
  kernel_rfl
  kernel_rfl
  refine ssNil
  refine ssCons ?_ ?_
  refine stExp ?_ ?_
  refine sCall ?_ ?_ ?_ ?_
  refine sGlob (.ref 323) ?_ ?_ ?_
  kernel_rfl
  (intro c; refine c.mgAt ?_; intro _; kernel_rfl)
  kernel_rfl
  refine svCons ?_ ?_
  refine sLoc 0 ?_ ?_ ?_
  kernel_rfl
  kernel_rfl
  kernel_rfl
  refine svCons ?_ ?_
  refine sLoc 1 ?_ ?_ ?_
  kernel_rfl
  kernel_rfl
  kernel_rfl
  refine svCons ?_ ?_
  refine sLoc 2 ?_ ?_ ?_
  kernel_rfl
  kernel_rfl
  kernel_rfl
  refine svNil
  kernel_rfl
  kernel_rfl
  kernel_rfl
  refine ssNil
  refine ssCons ?_ ?_
  refine stAugA ?_ ?_
  refine sLoc 0 ?_ ?_ ?_
  kernel_rfl
  kernel_rfl
  kernel_rfl
  refine sInt
  refine ssCons ?_ ?_
  refine stIf ?_ ?_ ?_
  refine sbBool ?_
  refine saAnd ?_ ?_
  refine sbVal ?_ ?_
  refine sCall ?_ ?_ ?_ ?_
  refine sBlt (.builtin "isinstance") ?_ ?_ ?_ ?_ ?_
  kernel_rfl
  (intro c; refine c.mgNo ?_; intro _; kernel_rfl)
  kernel_rfl
  decide
  kernel_rfl
  refine svCons ?_ ?_
  refine sLoc 1 ?_ ?_ ?_
  kernel_rfl
  kernel_rfl
  kernel_rfl
  refine svCons ?_ ?_
  refine sBlt (.type "int") ?_ ?_ ?_ ?_ ?_
  kernel_rfl
  (intro c; refine c.mgNo ?_; intro _; kernel_rfl)
  kernel_rfl
  decide
  kernel_rfl
  refine svNil
  kernel_rfl
  kernel_rfl
  (intro _ _; rfl)
  refine saAnd ?_ ?_
  refine sbCmp ?_ ?_ ?_
  refine sLoc 1 ?_ ?_ ?_
  kernel_rfl
  kernel_rfl
  kernel_rfl
  refine sAtt ?_ ?_
  refine sLoc 0 ?_ ?_ ?_
  kernel_rfl
  kernel_rfl
  kernel_rfl
  kernel_rfl
  kernel_rfl
  refine saAnd0
  refine ssCons ?_ ?_
  refine stAss ?_ ?_ ?_ ?_
  refine sCall ?_ ?_ ?_ ?_
  refine sBlt (.builtin "min") ?_ ?_ ?_ ?_ ?_
  kernel_rfl
  (intro c; refine c.mgNo ?_; intro _; kernel_rfl)
  kernel_rfl
  decide
  kernel_rfl
  refine svCons ?_ ?_
  refine sBin ?_ ?_
  refine sLoc 1 ?_ ?_ ?_
  kernel_rfl
  kernel_rfl
  kernel_rfl
  refine sInt
  refine svCons ?_ ?_
  refine sCall ?_ ?_ ?_ ?_
  refine sGlob (.ref 107) ?_ ?_ ?_
  kernel_rfl
  (intro c; refine c.mgAt ?_; intro _; kernel_rfl)
  kernel_rfl
  refine svNil
  kernel_rfl
  kernel_rfl
  refine svNil
  kernel_rfl
  kernel_rfl
  refine gAttr ?_
  refine sLoc 0 ?_ ?_ ?_
  kernel_rfl
  kernel_rfl
  kernel_rfl
  kernel_rfl
  kernel_rfl
  refine ssNil
  refine ssNil
  refine ssNil
noncomputable def N_slots_of : List Str := [so "arr"]
noncomputable def T_slots_of : ST := (tSeq (tRet (tComp 0 (tCall (tVal (.type "range")) (lCons (tCall (tVal (.builtin "len")) (lCons (tAtt (tLoc 0) (so "vals")) lNil)) lNil)) (gSlot 0) (bVal (tCall (tVal (.ref 264)) (lCons (tLoc 1) (lCons (tLoc 0) lNil)))) (tTup (lCons (tMeth (tLoc 1) (so "key_at") (lCons (tLoc 0) lNil)) (lCons (tSub (tAtt (tLoc 1) (so "vals")) (tLoc 0)) lNil))) 1 [0])) tNil)
theorem S_slots_of : SimSs' d_slots_of.scope N_slots_of d_slots_of.body T_slots_of := by
  refine ssCons ?_ ?_
  refine stRet ?_
  refine sComp (own := [so "place"]) (fr := [so "arr"]) (fi := [0]) ?_ ?_ ?_ ?_ ?_ ?_ ?_
  kernel_rfl
  refine sCall ?_ ?_ ?_ ?_
  refine sBlt (.type "range") ?_ ?_ ?_ ?_ ?_
  kernel_rfl
  (intro c; refine c.mgNo ?_; intro _; kernel_rfl)
  kernel_rfl
  decide
  kernel_rfl
  refine svCons ?_ ?_
  refine sCall ?_ ?_ ?_ ?_
  refine sBlt (.builtin "len") ?_ ?_ ?_ ?_ ?_
  kernel_rfl
  (intro c; refine c.mgNo ?_; intro _; kernel_rfl)
  kernel_rfl
  decide
  kernel_rfl
  refine svCons ?_ ?_
  refine sAtt ?_ ?_
  refine sCell 0 ?_ ?_ ?_
  kernel_rfl
  kernel_rfl
  kernel_rfl
  kernel_rfl
  refine svNil
  kernel_rfl
  kernel_rfl
  refine svNil
  kernel_rfl
  kernel_rfl
  refine gcLoc 0 ?_ ?_
  kernel_rfl
  kernel_rfl
  refine siOne ?_
  refine sbVal ?_ ?_
  refine sCall ?_ ?_ ?_ ?_
  refine sGlob (.ref 264) ?_ ?_ ?_
  kernel_rfl
  (intro c; refine c.mgAt ?_; intro _; kernel_rfl)
  kernel_rfl
  refine svCons ?_ ?_
  refine sCell 1 ?_ ?_ ?_
  kernel_rfl
  kernel_rfl
  kernel_rfl
  refine svCons ?_ ?_
  refine sLoc 0 ?_ ?_ ?_
  kernel_rfl
  kernel_rfl
  kernel_rfl
  refine svNil
  kernel_rfl
  kernel_rfl
  (intro _ _; rfl)
  refine sTup ?_ ?_
  refine svCons ?_ ?_
  refine sMeth ?_ ?_ ?_ ?_ ?_ ?_
  refine sCell 1 ?_ ?_ ?_
  kernel_rfl
  kernel_rfl
  kernel_rfl
  refine svCons ?_ ?_
  refine sLoc 0 ?_ ?_ ?_
  kernel_rfl
  kernel_rfl
  kernel_rfl
  refine svNil
  kernel_rfl
  kernel_rfl
  decide
  kernel_rfl
  refine svCons ?_ ?_
  refine sSub ?_ ?_
  refine sAtt ?_ ?_
  refine sCell 1 ?_ ?_ ?_
  kernel_rfl
  kernel_rfl
  kernel_rfl
  kernel_rfl
  refine sLoc 0 ?_ ?_ ?_
  kernel_rfl
  kernel_rfl
  kernel_rfl
  refine svNil
  kernel_rfl
  (intro _ _; rfl)
  kernel_rfl
  refine ssNil
noncomputable def N_from_pairs : List Str := [so "pairs", so "made", so "key", so "slot"]
noncomputable def T_from_pairs : ST := (tSeq (tAss (tCall (tVal (.ref 253)) lNil) (gSlot 1)) (tSeq (tFor (tLoc 0) 1 (gTup 2 (gCons (gSlot 2) (gCons (gSlot 3) gNil))) (tSeq (tExp (tMeth (tLoc 1) (so "put") (lCons (tLoc 2) (lCons (tLoc 3) lNil)))) tNil)) (tSeq (tRet (tLoc 1)) tNil)))
theorem S_from_pairs : SimSs' d_from_pairs.scope N_from_pairs d_from_pairs.body T_from_pairs := by
  refine ssCons ?_ ?_
  refine stAss ?_ ?_ ?_ ?_
  refine sCall ?_ ?_ ?_ ?_
  refine sGlob (.ref 253) ?_ ?_ ?_
  kernel_rfl
  (intro c; refine c.mgAt ?_; intro _; kernel_rfl)
  kernel_rfl
  refine svNil
  kernel_rfl
  kernel_rfl
  refine gLoc 1 ?_ ?_
  kernel_rfl
  kernel_rfl
  kernel_rfl
  kernel_rfl
  refine ssCons ?_ ?_
  refine stFor ?_ ?_ ?_ ?_ ?_
  refine sLoc 0 ?_ ?_ ?_
  kernel_rfl
  kernel_rfl
  kernel_rfl
  refine gTuple ?_ ?_
  refine gsCons ?_ ?_ ?_
  refine gLoc 2 ?_ ?_
  kernel_rfl
  kernel_rfl
  refine gsCons ?_ ?_ ?_
  refine gLoc 3 ?_ ?_
  kernel_rfl
  kernel_rfl
  refine gsNil
  kernel_rfl
  kernel_rfl
  kernel_rfl
  refine ssCons ?_ ?_
  refine stExp ?_ ?_
  refine sMeth ?_ ?_ ?_ ?_ ?_ ?_
  refine sLoc 1 ?_ ?_ ?_
  kernel_rfl
  kernel_rfl
  kernel_rfl
  refine svCons ?_ ?_
  refine sLoc 2 ?_ ?_ ?_
  kernel_rfl
  kernel_rfl
  kernel_rfl
  refine svCons ?_ ?_
  refine sLoc 3 ?_ ?_ ?_
  kernel_rfl
  kernel_rfl
  kernel_rfl
  refine svNil
  kernel_rfl
  kernel_rfl
  decide
  kernel_rfl
  kernel_rfl
  refine ssNil
  (intro _ _; rfl)
  kernel_rfl
  refine ssCons ?_ ?_
  refine stRet ?_
  refine sLoc 1 ?_ ?_ ?_
  kernel_rfl
  kernel_rfl
  kernel_rfl
  refine ssNil
noncomputable def N_kind : List Str := [so "value"]
noncomputable def T_kind : ST := (tSeq (tIf (bCmp .Is (tLoc 0) (tVal .none)) (tSeq (tRet (tStr (so "null"))) tNil) tNil) (tSeq (tIf (bVal (tCall (tVal (.builtin "isinstance")) (lCons (tLoc 0) (lCons (tVal (.type "bool")) lNil)))) (tSeq (tRet (tStr (so "bool"))) tNil) tNil) (tSeq (tIf (bVal (tCall (tVal (.builtin "isinstance")) (lCons (tLoc 0) (lCons (tVal (.type "int")) lNil)))) (tSeq (tRet (tStr (so "int"))) tNil) tNil) (tSeq (tIf (bVal (tCall (tVal (.builtin "isinstance")) (lCons (tLoc 0) (lCons (tVal (.type "str")) lNil)))) (tSeq (tRet (tStr (so "string"))) tNil) tNil) (tSeq (tIf (bVal (tCall (tVal (.builtin "isinstance")) (lCons (tLoc 0) (lCons (tVal (.ref 253)) lNil)))) (tSeq (tRet (tStr (so "array"))) tNil) tNil) (tSeq (tIf (bVal (tCall (tVal (.builtin "isinstance")) (lCons (tLoc 0) (lCons (tVal (.ref 168)) lNil)))) (tSeq (tRet (tStr (so "object"))) tNil) tNil) (tSeq tNo tNil)))))))
theorem S_kind : SimSs' d_kind.scope N_kind d_kind.body T_kind := by
  refine ssCons ?_ ?_
  refine stIf ?_ ?_ ?_
  refine sbCmp ?_ ?_ ?_
  refine sLoc 0 ?_ ?_ ?_
  kernel_rfl
  kernel_rfl
  kernel_rfl
  refine sNone
  kernel_rfl
  refine ssCons ?_ ?_
  refine stRet ?_
  refine sStr
  refine ssNil
  refine ssNil
  refine ssCons ?_ ?_
  refine stIf ?_ ?_ ?_
  refine sbVal ?_ ?_
  refine sCall ?_ ?_ ?_ ?_
  refine sBlt (.builtin "isinstance") ?_ ?_ ?_ ?_ ?_
  kernel_rfl
  (intro c; refine c.mgNo ?_; intro _; kernel_rfl)
  kernel_rfl
  decide
  kernel_rfl
  refine svCons ?_ ?_
  refine sLoc 0 ?_ ?_ ?_
  kernel_rfl
  kernel_rfl
  kernel_rfl
  refine svCons ?_ ?_
  refine sBlt (.type "bool") ?_ ?_ ?_ ?_ ?_
  kernel_rfl
  (intro c; refine c.mgNo ?_; intro _; kernel_rfl)
  kernel_rfl
  decide
  kernel_rfl
  refine svNil
  kernel_rfl
  kernel_rfl
  (intro _ _; rfl)
  refine ssCons ?_ ?_
  refine stRet ?_
  refine sStr
  refine ssNil
  refine ssNil
  refine ssCons ?_ ?_
  refine stIf ?_ ?_ ?_
  refine sbVal ?_ ?_
  refine sCall ?_ ?_ ?_ ?_
  refine sBlt (.builtin "isinstance") ?_ ?_ ?_ ?_ ?_
  kernel_rfl
  (intro c; refine c.mgNo ?_; intro _; kernel_rfl)
  kernel_rfl
  decide
  kernel_rfl
  refine svCons ?_ ?_
  refine sLoc 0 ?_ ?_ ?_
  kernel_rfl
  kernel_rfl
  kernel_rfl
  refine svCons ?_ ?_
  refine sBlt (.type "int") ?_ ?_ ?_ ?_ ?_
  kernel_rfl
  (intro c; refine c.mgNo ?_; intro _; kernel_rfl)
  kernel_rfl
  decide
  kernel_rfl
  refine svNil
  kernel_rfl
  kernel_rfl
  (intro _ _; rfl)
  refine ssCons ?_ ?_
  refine stRet ?_
  refine sStr
  refine ssNil
  refine ssNil
  refine ssCons ?_ ?_
  refine stIf ?_ ?_ ?_
  refine sbVal ?_ ?_
  refine sCall ?_ ?_ ?_ ?_
  refine sBlt (.builtin "isinstance") ?_ ?_ ?_ ?_ ?_
  kernel_rfl
  (intro c; refine c.mgNo ?_; intro _; kernel_rfl)
  kernel_rfl
  decide
  kernel_rfl
  refine svCons ?_ ?_
  refine sLoc 0 ?_ ?_ ?_
  kernel_rfl
  kernel_rfl
  kernel_rfl
  refine svCons ?_ ?_
  refine sBlt (.type "str") ?_ ?_ ?_ ?_ ?_
  kernel_rfl
  (intro c; refine c.mgNo ?_; intro _; kernel_rfl)
  kernel_rfl
  decide
  kernel_rfl
  refine svNil
  kernel_rfl
  kernel_rfl
  (intro _ _; rfl)
  refine ssCons ?_ ?_
  refine stRet ?_
  refine sStr
  refine ssNil
  refine ssNil
  refine ssCons ?_ ?_
  refine stIf ?_ ?_ ?_
  refine sbVal ?_ ?_
  refine sCall ?_ ?_ ?_ ?_
  refine sBlt (.builtin "isinstance") ?_ ?_ ?_ ?_ ?_
  kernel_rfl
  (intro c; refine c.mgNo ?_; intro _; kernel_rfl)
  kernel_rfl
  decide
  kernel_rfl
  refine svCons ?_ ?_
  refine sLoc 0 ?_ ?_ ?_
  kernel_rfl
  kernel_rfl
  kernel_rfl
  refine svCons ?_ ?_
  refine sGlob (.ref 253) ?_ ?_ ?_
  kernel_rfl
  (intro c; refine c.mgAt ?_; intro _; kernel_rfl)
  kernel_rfl
  refine svNil
  kernel_rfl
  kernel_rfl
  (intro _ _; rfl)
  refine ssCons ?_ ?_
  refine stRet ?_
  refine sStr
  refine ssNil
  refine ssNil
  refine ssCons ?_ ?_
  refine stIf ?_ ?_ ?_
  refine sbVal ?_ ?_
  refine sCall ?_ ?_ ?_ ?_
  refine sBlt (.builtin "isinstance") ?_ ?_ ?_ ?_ ?_
  kernel_rfl
  (intro c; refine c.mgNo ?_; intro _; kernel_rfl)
  kernel_rfl
  decide
  kernel_rfl
  refine svCons ?_ ?_
  refine sLoc 0 ?_ ?_ ?_
  kernel_rfl
  kernel_rfl
  kernel_rfl
  refine svCons ?_ ?_
  refine sGlob (.ref 168) ?_ ?_ ?_
  kernel_rfl
  (intro c; refine c.mgAt ?_; intro _; kernel_rfl)
  kernel_rfl
  refine svNil
  kernel_rfl
  kernel_rfl
  (intro _ _; rfl)
  refine ssCons ?_ ?_
  refine stRet ?_
  refine sStr
  refine ssNil
  refine ssNil
  refine ssCons ?_ ?_
  refine stNo
  refine ssNil
noncomputable def N_given : List Str := [so "value"]
noncomputable def T_given : ST := (tSeq (tIf (bVal (tCall (tVal (.builtin "isinstance")) (lCons (tLoc 0) (lCons (tVal (.ref 168)) lNil)))) (tSeq (tRet (tAtt (tAtt (tLoc 0) (so "cls")) (so "name"))) tNil) tNil) (tSeq (tRet (tCall (tVal (.ref 356)) (lCons (tLoc 0) lNil))) tNil))
theorem S_given : SimSs' d_given.scope N_given d_given.body T_given := by
  refine ssCons ?_ ?_
  refine stIf ?_ ?_ ?_
  refine sbVal ?_ ?_
  refine sCall ?_ ?_ ?_ ?_
  refine sBlt (.builtin "isinstance") ?_ ?_ ?_ ?_ ?_
  kernel_rfl
  (intro c; refine c.mgNo ?_; intro _; kernel_rfl)
  kernel_rfl
  decide
  kernel_rfl
  refine svCons ?_ ?_
  refine sLoc 0 ?_ ?_ ?_
  kernel_rfl
  kernel_rfl
  kernel_rfl
  refine svCons ?_ ?_
  refine sGlob (.ref 168) ?_ ?_ ?_
  kernel_rfl
  (intro c; refine c.mgAt ?_; intro _; kernel_rfl)
  kernel_rfl
  refine svNil
  kernel_rfl
  kernel_rfl
  (intro _ _; rfl)
  refine ssCons ?_ ?_
  refine stRet ?_
  refine sAtt ?_ ?_
  refine sAtt ?_ ?_
  refine sLoc 0 ?_ ?_ ?_
  kernel_rfl
  kernel_rfl
  kernel_rfl
  kernel_rfl
  kernel_rfl
  refine ssNil
  refine ssNil
  refine ssCons ?_ ?_
  refine stRet ?_
  refine sCall ?_ ?_ ?_ ?_
  refine sGlob (.ref 356) ?_ ?_ ?_
  kernel_rfl
  (intro c; refine c.mgAt ?_; intro _; kernel_rfl)
  kernel_rfl
  refine svCons ?_ ?_
  refine sLoc 0 ?_ ?_ ?_
  kernel_rfl
  kernel_rfl
  kernel_rfl
  refine svNil
  kernel_rfl
  kernel_rfl
  refine ssNil
noncomputable def N_type_word : List Str := [so "value", so "sort"]
noncomputable def T_type_word : ST := (tSeq (tAss (tCall (tVal (.ref 356)) (lCons (tLoc 0) lNil)) (gSlot 1)) (tSeq (tIf (bCmp .Eq (tLoc 1) (tStr (so "null"))) (tSeq (tRet (tStr (so "NULL"))) tNil) tNil) (tSeq (tIf (bCmp .Eq (tLoc 1) (tStr (so "bool"))) (tSeq (tRet (tStr (so "boolean"))) tNil) tNil) (tSeq (tRet (tIte (bCmp .Eq (tLoc 1) (tStr (so "int"))) (tStr (so "integer")) (tLoc 1))) tNil))))
theorem S_type_word : SimSs' d_type_word.scope N_type_word d_type_word.body T_type_word := by
  refine ssCons ?_ ?_
  refine stAss ?_ ?_ ?_ ?_
  refine sCall ?_ ?_ ?_ ?_
  refine sGlob (.ref 356) ?_ ?_ ?_
  kernel_rfl
  (intro c; refine c.mgAt ?_; intro _; kernel_rfl)
  kernel_rfl
  refine svCons ?_ ?_
  refine sLoc 0 ?_ ?_ ?_
  kernel_rfl
  kernel_rfl
  kernel_rfl
  refine svNil
  kernel_rfl
  kernel_rfl
  refine gLoc 1 ?_ ?_
  kernel_rfl
  kernel_rfl
  kernel_rfl
  kernel_rfl
  refine ssCons ?_ ?_
  refine stIf ?_ ?_ ?_
  refine sbCmp ?_ ?_ ?_
  refine sLoc 1 ?_ ?_ ?_
  kernel_rfl
  kernel_rfl
  kernel_rfl
  refine sStr
  kernel_rfl
  refine ssCons ?_ ?_
  refine stRet ?_
  refine sStr
  refine ssNil
  refine ssNil
  refine ssCons ?_ ?_
  refine stIf ?_ ?_ ?_
  refine sbCmp ?_ ?_ ?_
  refine sLoc 1 ?_ ?_ ?_
  kernel_rfl
  kernel_rfl
  kernel_rfl
  refine sStr
  kernel_rfl
  refine ssCons ?_ ?_
  refine stRet ?_
  refine sStr
  refine ssNil
  refine ssNil
  refine ssCons ?_ ?_
  refine stRet ?_
  refine sIte ?_ ?_ ?_
  refine sbCmp ?_ ?_ ?_
  refine sLoc 1 ?_ ?_ ?_
  kernel_rfl
  kernel_rfl
  kernel_rfl
  refine sStr
  kernel_rfl
  refine sStr
  refine sLoc 1 ?_ ?_ ?_
  kernel_rfl
  kernel_rfl
  kernel_rfl
  refine ssNil
noncomputable def N_same : List Str := [so "a", so "b"]
noncomputable def T_same : ST := (tSeq (tRet (tCall (tVal (.ref 384)) (lCons (tLoc 0) (lCons (tLoc 1) (lCons (tInt 0) lNil))))) tNil)
theorem S_same : SimSs' d_same.scope N_same d_same.body T_same := by
  refine ssCons ?_ ?_
  refine stRet ?_
  refine sCall ?_ ?_ ?_ ?_
  refine sGlob (.ref 384) ?_ ?_ ?_
  kernel_rfl
  (intro c; refine c.mgAt ?_; intro _; kernel_rfl)
  kernel_rfl
  refine svCons ?_ ?_
  refine sLoc 0 ?_ ?_ ?_
  kernel_rfl
  kernel_rfl
  kernel_rfl
  refine svCons ?_ ?_
  refine sLoc 1 ?_ ?_ ?_
  kernel_rfl
  kernel_rfl
  kernel_rfl
  refine svCons ?_ ?_
  refine sInt
  refine svNil
  kernel_rfl
  kernel_rfl
  refine ssNil
noncomputable def N_same_at : List Str := [so "a", so "b", so "depth", so "sort"]
noncomputable def T_same_at : ST := (tSeq (tAss (tCall (tVal (.ref 356)) (lCons (tLoc 0) lNil)) (gSlot 3)) (tSeq (tIf (bCmp .NotEq (tLoc 3) (tCall (tVal (.ref 356)) (lCons (tLoc 1) lNil))) (tSeq (tRet (tVal (.bool false))) tNil) tNil) (tSeq (tIf (bCmp .Eq (tLoc 3) (tStr (so "array"))) (tSeq (tRet (tOr (tCmp .Is (tLoc 0) (tLoc 1)) (tCall (tVal (.ref 391)) (lCons (tLoc 0) (lCons (tLoc 1) (lCons (tLoc 2) lNil)))))) tNil) tNil) (tSeq (tIf (bCmp .Eq (tLoc 3) (tStr (so "object"))) (tSeq (tRet (tCmp .Is (tLoc 0) (tLoc 1))) tNil) tNil) (tSeq (tRet (tCmp .Eq (tLoc 0) (tLoc 1))) tNil)))))
theorem S_same_at : SimSs' d_same_at.scope N_same_at d_same_at.body T_same_at := by
  refine ssCons ?_ ?_
  refine stAss ?_ ?_ ?_ ?_
  refine sCall ?_ ?_ ?_ ?_
  refine sGlob (.ref 356) ?_ ?_ ?_
  kernel_rfl
  (intro c; refine c.mgAt ?_; intro _; kernel_rfl)
  kernel_rfl
  refine svCons ?_ ?_
  refine sLoc 0 ?_ ?_ ?_
  kernel_rfl
  kernel_rfl
  kernel_rfl
  refine svNil
  kernel_rfl
  kernel_rfl
  refine gLoc 3 ?_ ?_
  kernel_rfl
  kernel_rfl
  kernel_rfl
  kernel_rfl
  refine ssCons ?_ ?_
  refine stIf ?_ ?_ ?_
  refine sbCmp ?_ ?_ ?_
  refine sLoc 3 ?_ ?_ ?_
  kernel_rfl
  kernel_rfl
  kernel_rfl
  refine sCall ?_ ?_ ?_ ?_
  refine sGlob (.ref 356) ?_ ?_ ?_
  kernel_rfl
  (intro c; refine c.mgAt ?_; intro _; kernel_rfl)
  kernel_rfl
  refine svCons ?_ ?_
  refine sLoc 1 ?_ ?_ ?_
  kernel_rfl
  kernel_rfl
  kernel_rfl
  refine svNil
  kernel_rfl
  kernel_rfl
  kernel_rfl
  refine ssCons ?_ ?_
  refine stRet ?_
  refine sBool
  refine ssNil
  refine ssNil
  refine ssCons ?_ ?_
  refine stIf ?_ ?_ ?_
  refine sbCmp ?_ ?_ ?_
  refine sLoc 3 ?_ ?_ ?_
  kernel_rfl
  kernel_rfl
  kernel_rfl
  refine sStr
  kernel_rfl
  refine ssCons ?_ ?_
  refine stRet ?_
  refine sOr ?_ ?_
  refine sCmp ?_ ?_ ?_
  refine sLoc 0 ?_ ?_ ?_
  kernel_rfl
  kernel_rfl
  kernel_rfl
  refine sLoc 1 ?_ ?_ ?_
  kernel_rfl
  kernel_rfl
  kernel_rfl
  kernel_rfl
  refine sCall ?_ ?_ ?_ ?_
  refine sGlob (.ref 391) ?_ ?_ ?_
  kernel_rfl
  (intro c; refine c.mgAt ?_; intro _; kernel_rfl)
  kernel_rfl
  refine svCons ?_ ?_
  refine sLoc 0 ?_ ?_ ?_
  kernel_rfl
  kernel_rfl
  kernel_rfl
  refine svCons ?_ ?_
  refine sLoc 1 ?_ ?_ ?_
  kernel_rfl
  kernel_rfl
  kernel_rfl
  refine svCons ?_ ?_
  refine sLoc 2 ?_ ?_ ?_
  kernel_rfl
  kernel_rfl
  kernel_rfl
  refine svNil
  kernel_rfl
  kernel_rfl
  refine ssNil
  refine ssNil
  refine ssCons ?_ ?_
  refine stIf ?_ ?_ ?_
  refine sbCmp ?_ ?_ ?_
  refine sLoc 3 ?_ ?_ ?_
  kernel_rfl
  kernel_rfl
  kernel_rfl
  refine sStr
  kernel_rfl
  refine ssCons ?_ ?_
  refine stRet ?_
  refine sCmp ?_ ?_ ?_
  refine sLoc 0 ?_ ?_ ?_
  kernel_rfl
  kernel_rfl
  kernel_rfl
  refine sLoc 1 ?_ ?_ ?_
  kernel_rfl
  kernel_rfl
  kernel_rfl
  kernel_rfl
  refine ssNil
  refine ssNil
  refine ssCons ?_ ?_
  refine stRet ?_
  refine sCmp ?_ ?_ ?_
  refine sLoc 0 ?_ ?_ ?_
  kernel_rfl
  kernel_rfl
  kernel_rfl
  refine sLoc 1 ?_ ?_ ?_
  kernel_rfl
  kernel_rfl
  kernel_rfl
  kernel_rfl
  refine ssNil
noncomputable def N_same_arrays : List Str := [so "a", so "b", so "depth", so "others", so "at", so "key", so "slot", so "other_key", so "other"]
noncomputable def T_same_arrays : ST := (tSeq (tIf (bCmp .NotEq (tAtt (tLoc 0) (so "count")) (tAtt (tLoc 1) (so "count"))) (tSeq (tRet (tVal (.bool false))) tNil) tNil) (tSeq (tIf (bCmp .GtE (tLoc 2) (tInt 40)) (tSeq tNo tNil) tNil) (tSeq (tAss (tCall (tVal (.ref 342)) (lCons (tLoc 1) lNil)) (gSlot 3)) (tSeq (tAss (tInt 0) (gSlot 4)) (tSeq (tFor (tCall (tVal (.ref 342)) (lCons (tLoc 0) lNil)) 1 (gTup 2 (gCons (gSlot 5) (gCons (gSlot 6) gNil))) (tSeq (tAss (tSub (tLoc 3) (tLoc 4)) (gTup 2 (gCons (gSlot 7) (gCons (gSlot 8) gNil)))) (tSeq (tIf (bOr (bCmp .NotEq (tLoc 5) (tLoc 7)) (bOr (bNot (bVal (tCall (tVal (.ref 384)) (lCons (tCall (tVal (.ref 179)) (lCons (tLoc 6) lNil)) (lCons (tCall (tVal (.ref 179)) (lCons (tLoc 8) lNil)) (lCons (tBin .Add (tLoc 2) (tInt 1)) lNil)))))) bFalse)) (tSeq (tRet (tVal (.bool false))) tNil) tNil) (tSeq (tAugN .Add 4 (tInt 1)) tNil)))) (tSeq (tRet (tVal (.bool true))) tNil))))))
theorem S_same_arrays : SimSs' d_same_arrays.scope N_same_arrays d_same_arrays.body T_same_arrays := by
  refine ssCons ?_ ?_
  refine stIf ?_ ?_ ?_
  refine sbCmp ?_ ?_ ?_
  refine sAtt ?_ ?_
  refine sLoc 0 ?_ ?_ ?_
  kernel_rfl
  kernel_rfl
  kernel_rfl
  kernel_rfl
  refine sAtt ?_ ?_
  refine sLoc 1 ?_ ?_ ?_
  kernel_rfl
  kernel_rfl
  kernel_rfl
  kernel_rfl
  kernel_rfl
  refine ssCons ?_ ?_
  refine stRet ?_
  refine sBool
  refine ssNil
  refine ssNil
  refine ssCons ?_ ?_
  refine stIf ?_ ?_ ?_
  refine sbCmp ?_ ?_ ?_
  refine sLoc 2 ?_ ?_ ?_
  kernel_rfl
  kernel_rfl
  kernel_rfl
  refine sInt
  kernel_rfl
  refine ssCons ?_ ?_
  refine stNo
  refine ssNil
  refine ssNil
  refine ssCons ?_ ?_
  refine stAss ?_ ?_ ?_ ?_
  refine sCall ?_ ?_ ?_ ?_
  refine sGlob (.ref 342) ?_ ?_ ?_
  kernel_rfl
  (intro c; refine c.mgAt ?_; intro _; kernel_rfl)
  kernel_rfl
  refine svCons ?_ ?_
  refine sLoc 1 ?_ ?_ ?_
  kernel_rfl
  kernel_rfl
  kernel_rfl
  refine svNil
  kernel_rfl
  kernel_rfl
  refine gLoc 3 ?_ ?_
  kernel_rfl
  kernel_rfl
  kernel_rfl
  kernel_rfl
  refine ssCons ?_ ?_
  refine stAss ?_ ?_ ?_ ?_
  refine sInt
  refine gLoc 4 ?_ ?_
  kernel_rfl
  kernel_rfl
  kernel_rfl
  kernel_rfl
  refine ssCons ?_ ?_
  refine stFor ?_ ?_ ?_ ?_ ?_
  refine sCall ?_ ?_ ?_ ?_
  refine sGlob (.ref 342) ?_ ?_ ?_
  kernel_rfl
  (intro c; refine c.mgAt ?_; intro _; kernel_rfl)
  kernel_rfl
  refine svCons ?_ ?_
  refine sLoc 0 ?_ ?_ ?_
  kernel_rfl
  kernel_rfl
  kernel_rfl
  refine svNil
  kernel_rfl
  kernel_rfl
  refine gTuple ?_ ?_
  refine gsCons ?_ ?_ ?_
  refine gLoc 5 ?_ ?_
  kernel_rfl
  kernel_rfl
  refine gsCons ?_ ?_ ?_
  refine gLoc 6 ?_ ?_
  kernel_rfl
  kernel_rfl
  refine gsNil
  kernel_rfl
  kernel_rfl
  kernel_rfl
  refine ssCons ?_ ?_
  refine stAssT ?_ ?_ ?_ ?_
  refine sSub ?_ ?_
  refine sLoc 3 ?_ ?_ ?_
  kernel_rfl
  kernel_rfl
  kernel_rfl
  refine sLoc 4 ?_ ?_ ?_
  kernel_rfl
  kernel_rfl
  kernel_rfl
  refine gTuple ?_ ?_
  refine gsCons ?_ ?_ ?_
  refine gLoc 7 ?_ ?_
  kernel_rfl
  kernel_rfl
  refine gsCons ?_ ?_ ?_
  refine gLoc 8 ?_ ?_
  kernel_rfl
  kernel_rfl
  refine gsNil
  kernel_rfl
  kernel_rfl
  kernel_rfl
  kernel_rfl
  (intro _ _; rfl)
  refine ssCons ?_ ?_
  refine stIf ?_ ?_ ?_
  refine sbBool ?_
  refine saOr ?_ ?_
  refine sbCmp ?_ ?_ ?_
  refine sLoc 5 ?_ ?_ ?_
  kernel_rfl
  kernel_rfl
  kernel_rfl
  refine sLoc 7 ?_ ?_ ?_
  kernel_rfl
  kernel_rfl
  kernel_rfl
  kernel_rfl
  refine saOr ?_ ?_
  refine sbNot ?_
  refine sbVal ?_ ?_
  refine sCall ?_ ?_ ?_ ?_
  refine sGlob (.ref 384) ?_ ?_ ?_
  kernel_rfl
  (intro c; refine c.mgAt ?_; intro _; kernel_rfl)
  kernel_rfl
  refine svCons ?_ ?_
  refine sCall ?_ ?_ ?_ ?_
  refine sGlob (.ref 179) ?_ ?_ ?_
  kernel_rfl
  (intro c; refine c.mgAt ?_; intro _; kernel_rfl)
  kernel_rfl
  refine svCons ?_ ?_
  refine sLoc 6 ?_ ?_ ?_
  kernel_rfl
  kernel_rfl
  kernel_rfl
  refine svNil
  kernel_rfl
  kernel_rfl
  refine svCons ?_ ?_
  refine sCall ?_ ?_ ?_ ?_
  refine sGlob (.ref 179) ?_ ?_ ?_
  kernel_rfl
  (intro c; refine c.mgAt ?_; intro _; kernel_rfl)
  kernel_rfl
  refine svCons ?_ ?_
  refine sLoc 8 ?_ ?_ ?_
  kernel_rfl
  kernel_rfl
  kernel_rfl
  refine svNil
  kernel_rfl
  kernel_rfl
  refine svCons ?_ ?_
  refine sBin ?_ ?_
  refine sLoc 2 ?_ ?_ ?_
  kernel_rfl
  kernel_rfl
  kernel_rfl
  refine sInt
  refine svNil
  kernel_rfl
  kernel_rfl
  (intro _ _; rfl)
  refine saOr0
  refine ssCons ?_ ?_
  refine stRet ?_
  refine sBool
  refine ssNil
  refine ssNil
  refine ssCons ?_ ?_
  refine stAugN 4 ?_ ?_ ?_ ?_
  kernel_rfl
  kernel_rfl
  kernel_rfl
  refine sInt
  refine ssNil
  (intro _ _; rfl)
  kernel_rfl
  refine ssCons ?_ ?_
  refine stRet ?_
  refine sBool
  refine ssNil
noncomputable def N_plain : List Str := [so "value"]
noncomputable def T_plain : ST := (tSeq (tRet (tCall (tVal (.ref 412)) (lCons (tLoc 0) (lCons (tLst lNil) lNil)))) tNil)
theorem S_plain : SimSs' d_plain.scope N_plain d_plain.body T_plain := by
  refine ssCons ?_ ?_
  refine stRet ?_
  refine sCall ?_ ?_ ?_ ?_
  refine sGlob (.ref 412) ?_ ?_ ?_
  kernel_rfl
  (intro c; refine c.mgAt ?_; intro _; kernel_rfl)
  kernel_rfl
  refine svCons ?_ ?_
  refine sLoc 0 ?_ ?_ ?_
  kernel_rfl
  kernel_rfl
  kernel_rfl
  refine svCons ?_ ?_
  refine sLst ?_ ?_
  refine svNil
  kernel_rfl
  refine svNil
  kernel_rfl
  kernel_rfl
  refine ssNil
noncomputable def N_plain_at : List Str := [so "value", so "above", so "up", so "rows", so "key", so "slot"]
noncomputable def T_plain_at : ST := (tSeq (tIf (bVal (tCall (tVal (.builtin "isinstance")) (lCons (tLoc 0) (lCons (tVal (.ref 168)) lNil)))) (tSeq (tRet (tTup (lCons (tStr (so "object")) (lCons (tAtt (tAtt (tLoc 0) (so "cls")) (so "name")) (lCons (tAtt (tLoc 0) (so "handle")) lNil))))) tNil) tNil) (tSeq (tIf (bNot (bVal (tCall (tVal (.builtin "isinstance")) (lCons (tLoc 0) (lCons (tVal (.ref 253)) lNil))))) (tSeq (tRet (tTup (lCons (tCall (tVal (.ref 356)) (lCons (tLoc 0) lNil)) (lCons (tLoc 0) lNil)))) tNil) tNil) (tSeq (tFor (tCall (tVal (.type "range")) (lCons (tCall (tVal (.builtin "len")) (lCons (tLoc 1) lNil)) lNil)) 0 (gSlot 2) (tSeq (tIf (bCmp .Is (tSub (tLoc 1) (tLoc 2)) (tLoc 0)) (tSeq (tRet (tTup (lCons (tStr (so "again")) (lCons (tBin .Sub (tCall (tVal (.builtin "len")) (lCons (tLoc 1) lNil)) (tLoc 2)) lNil)))) tNil) tNil) tNil)) (tSeq (tAss (tLst lNil) (gSlot 3)) (tSeq (tFor (tCall (tVal (.ref 342)) (lCons (tLoc 0) lNil)) 1 (gTup 2 (gCons (gSlot 4) (gCons (gSlot 5) gNil))) (tSeq (tExp (tMeth (tLoc 3) (so "append") (lCons (tTup (lCons (tLoc 4) (lCons (tCall (tVal (.ref 412)) (lCons (tCall (tVal (.ref 179)) (lCons (tLoc 5) lNil)) (lCons (tBin .Add (tLoc 1) (tLst (lCons (tLoc 0) lNil))) lNil))) lNil))) lNil))) tNil)) (tSeq (tRet (tTup (lCons (tStr (so "array")) (lCons (tCall (tVal (.type "tuple")) (lCons (tLoc 3) lNil)) lNil)))) tNil))))))
theorem S_plain_at : SimSs' d_plain_at.scope N_plain_at d_plain_at.body T_plain_at := by
  refine ssCons ?_ ?_
  refine stIf ?_ ?_ ?_
  refine sbVal ?_ ?_
  refine sCall ?_ ?_ ?_ ?_
  refine sBlt (.builtin "isinstance") ?_ ?_ ?_ ?_ ?_
  kernel_rfl
  (intro c; refine c.mgNo ?_; intro _; kernel_rfl)
  kernel_rfl
  decide
  kernel_rfl
  refine svCons ?_ ?_
  refine sLoc 0 ?_ ?_ ?_
  kernel_rfl
  kernel_rfl
  kernel_rfl
  refine svCons ?_ ?_
  refine sGlob (.ref 168) ?_ ?_ ?_
  kernel_rfl
  (intro c; refine c.mgAt ?_; intro _; kernel_rfl)
  kernel_rfl
  refine svNil
  kernel_rfl
  kernel_rfl
  (intro _ _; rfl)
  refine ssCons ?_ ?_
  refine stRet ?_
  refine sTup ?_ ?_
  refine svCons ?_ ?_
  refine sStr
  refine svCons ?_ ?_
  refine sAtt ?_ ?_
  refine sAtt ?_ ?_
  refine sLoc 0 ?_ ?_ ?_
  kernel_rfl
  kernel_rfl
  kernel_rfl
  kernel_rfl
  kernel_rfl
  refine svCons ?_ ?_
  refine sAtt ?_ ?_
  refine sLoc 0 ?_ ?_ ?_
  kernel_rfl
  kernel_rfl
  kernel_rfl
  kernel_rfl
  refine svNil
  kernel_rfl
  refine ssNil
  refine ssNil
  refine ssCons ?_ ?_
  refine stIf ?_ ?_ ?_
  refine sbNot ?_
  refine sbVal ?_ ?_
  refine sCall ?_ ?_ ?_ ?_
  refine sBlt (.builtin "isinstance") ?_ ?_ ?_ ?_ ?_
  kernel_rfl
  (intro c; refine c.mgNo ?_; intro _; kernel_rfl)
  kernel_rfl
  decide
  kernel_rfl
  refine svCons ?_ ?_
  refine sLoc 0 ?_ ?_ ?_
  kernel_rfl
  kernel_rfl
  kernel_rfl
  refine svCons ?_ ?_
  refine sGlob (.ref 253) ?_ ?_ ?_
  kernel_rfl
  (intro c; refine c.mgAt ?_; intro _; kernel_rfl)
  kernel_rfl
  refine svNil
  kernel_rfl
  kernel_rfl
  (intro _ _; rfl)
  refine ssCons ?_ ?_
  refine stRet ?_
  refine sTup ?_ ?_
  refine svCons ?_ ?_
  refine sCall ?_ ?_ ?_ ?_
  refine sGlob (.ref 356) ?_ ?_ ?_
  kernel_rfl
  (intro c; refine c.mgAt ?_; intro _; kernel_rfl)
  kernel_rfl
  refine svCons ?_ ?_
  refine sLoc 0 ?_ ?_ ?_
  kernel_rfl
  kernel_rfl
  kernel_rfl
  refine svNil
  kernel_rfl
  kernel_rfl
  refine svCons ?_ ?_
  refine sLoc 0 ?_ ?_ ?_
  kernel_rfl
  kernel_rfl
  kernel_rfl
  refine svNil
  kernel_rfl
  refine ssNil
  refine ssNil
  refine ssCons ?_ ?_
  refine stFor ?_ ?_ ?_ ?_ ?_
  refine sCall ?_ ?_ ?_ ?_
  refine sBlt (.type "range") ?_ ?_ ?_ ?_ ?_
  kernel_rfl
  (intro c; refine c.mgNo ?_; intro _; kernel_rfl)
  kernel_rfl
  decide
  kernel_rfl
  refine svCons ?_ ?_
  refine sCall ?_ ?_ ?_ ?_
  refine sBlt (.builtin "len") ?_ ?_ ?_ ?_ ?_
  kernel_rfl
  (intro c; refine c.mgNo ?_; intro _; kernel_rfl)
  kernel_rfl
  decide
  kernel_rfl
  refine svCons ?_ ?_
  refine sLoc 1 ?_ ?_ ?_
  kernel_rfl
  kernel_rfl
  kernel_rfl
  refine svNil
  kernel_rfl
  kernel_rfl
  refine svNil
  kernel_rfl
  kernel_rfl
  refine gLoc 2 ?_ ?_
  kernel_rfl
  kernel_rfl
  refine ssCons ?_ ?_
  refine stIf ?_ ?_ ?_
  refine sbCmp ?_ ?_ ?_
  refine sSub ?_ ?_
  refine sLoc 1 ?_ ?_ ?_
  kernel_rfl
  kernel_rfl
  kernel_rfl
  refine sLoc 2 ?_ ?_ ?_
  kernel_rfl
  kernel_rfl
  kernel_rfl
  refine sLoc 0 ?_ ?_ ?_
  kernel_rfl
  kernel_rfl
  kernel_rfl
  kernel_rfl
  refine ssCons ?_ ?_
  refine stRet ?_
  refine sTup ?_ ?_
  refine svCons ?_ ?_
  refine sStr
  refine svCons ?_ ?_
  refine sBin ?_ ?_
  refine sCall ?_ ?_ ?_ ?_
  refine sBlt (.builtin "len") ?_ ?_ ?_ ?_ ?_
  kernel_rfl
  (intro c; refine c.mgNo ?_; intro _; kernel_rfl)
  kernel_rfl
  decide
  kernel_rfl
  refine svCons ?_ ?_
  refine sLoc 1 ?_ ?_ ?_
  kernel_rfl
  kernel_rfl
  kernel_rfl
  refine svNil
  kernel_rfl
  kernel_rfl
  refine sLoc 2 ?_ ?_ ?_
  kernel_rfl
  kernel_rfl
  kernel_rfl
  refine svNil
  kernel_rfl
  refine ssNil
  refine ssNil
  refine ssNil
  (intro _ _; rfl)
  kernel_rfl
  refine ssCons ?_ ?_
  refine stAss ?_ ?_ ?_ ?_
  refine sLst ?_ ?_
  refine svNil
  kernel_rfl
  refine gLoc 3 ?_ ?_
  kernel_rfl
  kernel_rfl
  kernel_rfl
  kernel_rfl
  refine ssCons ?_ ?_
  refine stFor ?_ ?_ ?_ ?_ ?_
  refine sCall ?_ ?_ ?_ ?_
  refine sGlob (.ref 342) ?_ ?_ ?_
  kernel_rfl
  (intro c; refine c.mgAt ?_; intro _; kernel_rfl)
  kernel_rfl
  refine svCons ?_ ?_
  refine sLoc 0 ?_ ?_ ?_
  kernel_rfl
  kernel_rfl
  kernel_rfl
  refine svNil
  kernel_rfl
  kernel_rfl
  refine gTuple ?_ ?_
  refine gsCons ?_ ?_ ?_
  refine gLoc 4 ?_ ?_
  kernel_rfl
  kernel_rfl
  refine gsCons ?_ ?_ ?_
  refine gLoc 5 ?_ ?_
  kernel_rfl
  kernel_rfl
  refine gsNil
  kernel_rfl
  kernel_rfl
  kernel_rfl
  refine ssCons ?_ ?_
  refine stExp ?_ ?_
  refine sMeth ?_ ?_ ?_ ?_ ?_ ?_
  refine sLoc 3 ?_ ?_ ?_
  kernel_rfl
  kernel_rfl
  kernel_rfl
  refine svCons ?_ ?_
  refine sTup ?_ ?_
  refine svCons ?_ ?_
  refine sLoc 4 ?_ ?_ ?_
  kernel_rfl
  kernel_rfl
  kernel_rfl
  refine svCons ?_ ?_
  refine sCall ?_ ?_ ?_ ?_
  refine sGlob (.ref 412) ?_ ?_ ?_
  kernel_rfl
  (intro c; refine c.mgAt ?_; intro _; kernel_rfl)
  kernel_rfl
  refine svCons ?_ ?_
  refine sCall ?_ ?_ ?_ ?_
  refine sGlob (.ref 179) ?_ ?_ ?_
  kernel_rfl
  (intro c; refine c.mgAt ?_; intro _; kernel_rfl)
  kernel_rfl
  refine svCons ?_ ?_
  refine sLoc 5 ?_ ?_ ?_
  kernel_rfl
  kernel_rfl
  kernel_rfl
  refine svNil
  kernel_rfl
  kernel_rfl
  refine svCons ?_ ?_
  refine sBin ?_ ?_
  refine sLoc 1 ?_ ?_ ?_
  kernel_rfl
  kernel_rfl
  kernel_rfl
  refine sLst ?_ ?_
  refine svCons ?_ ?_
  refine sLoc 0 ?_ ?_ ?_
  kernel_rfl
  kernel_rfl
  kernel_rfl
  refine svNil
  kernel_rfl
  refine svNil
  kernel_rfl
  kernel_rfl
  refine svNil
  kernel_rfl
  refine svNil
  kernel_rfl
  kernel_rfl
  decide
  kernel_rfl
  kernel_rfl
  refine ssNil
  (intro _ _; rfl)
  kernel_rfl
  refine ssCons ?_ ?_
  refine stRet ?_
  refine sTup ?_ ?_
  refine svCons ?_ ?_
  refine sStr
  refine svCons ?_ ?_
  refine sCall ?_ ?_ ?_ ?_
  refine sBlt (.type "tuple") ?_ ?_ ?_ ?_ ?_
  kernel_rfl
  (intro c; refine c.mgNo ?_; intro _; kernel_rfl)
  kernel_rfl
  decide
  kernel_rfl
  refine svCons ?_ ?_
  refine sLoc 3 ?_ ?_ ?_
  kernel_rfl
  kernel_rfl
  kernel_rfl
  refine svNil
  kernel_rfl
  kernel_rfl
  refine svNil
  kernel_rfl
  refine ssNil
noncomputable def N_lower : List Str := [so "text", so "made", so "sign"]
noncomputable def T_lower : ST := (tSeq (tAss (tLst lNil) (gSlot 1)) (tSeq (tFor (tLoc 0) 0 (gSlot 2) (tSeq (tExp (tMeth (tLoc 1) (so "append") (lCons (tIte (bCmp2 .LtE .LtE (tStr (so "A")) (tLoc 2) (tStr (so "Z"))) (tCall (tVal (.builtin "chr")) (lCons (tBin .Add (tCall (tVal (.builtin "ord")) (lCons (tLoc 2) lNil)) (tInt 32)) lNil)) (tLoc 2)) lNil))) tNil)) (tSeq (tRet (tMeth (tStr (so "")) (so "join") (lCons (tLoc 1) lNil))) tNil)))
theorem S_lower : SimSs' d_lower.scope N_lower d_lower.body T_lower := by
  refine ssCons ?_ ?_
  refine stAss ?_ ?_ ?_ ?_
  refine sLst ?_ ?_
  refine svNil
  kernel_rfl
  refine gLoc 1 ?_ ?_
  kernel_rfl
  kernel_rfl
  kernel_rfl
  kernel_rfl
  refine ssCons ?_ ?_
  refine stFor ?_ ?_ ?_ ?_ ?_
  refine sLoc 0 ?_ ?_ ?_
  kernel_rfl
  kernel_rfl
  kernel_rfl
  refine gLoc 2 ?_ ?_
  kernel_rfl
  kernel_rfl
  refine ssCons ?_ ?_
  refine stExp ?_ ?_
  refine sMeth ?_ ?_ ?_ ?_ ?_ ?_
  refine sLoc 1 ?_ ?_ ?_
  kernel_rfl
  kernel_rfl
  kernel_rfl
  refine svCons ?_ ?_
  refine sIte ?_ ?_ ?_
  refine sbCmp2 ?_ ?_ ?_ ?_
  refine sStr
  refine sLoc 2 ?_ ?_ ?_
  kernel_rfl
  kernel_rfl
  kernel_rfl
  refine sStr
  kernel_rfl
  refine sCall ?_ ?_ ?_ ?_
  refine sBlt (.builtin "chr") ?_ ?_ ?_ ?_ ?_
  kernel_rfl
  (intro c; refine c.mgNo ?_; intro _; kernel_rfl)
  kernel_rfl
  decide
  kernel_rfl
  refine svCons ?_ ?_
  refine sBin ?_ ?_
  refine sCall ?_ ?_ ?_ ?_
  refine sBlt (.builtin "ord") ?_ ?_ ?_ ?_ ?_
  kernel_rfl
  (intro c; refine c.mgNo ?_; intro _; kernel_rfl)
  kernel_rfl
  decide
  kernel_rfl
  refine svCons ?_ ?_
  refine sLoc 2 ?_ ?_ ?_
  kernel_rfl
  kernel_rfl
  kernel_rfl
  refine svNil
  kernel_rfl
  kernel_rfl
  refine sInt
  refine svNil
  kernel_rfl
  kernel_rfl
  refine sLoc 2 ?_ ?_ ?_
  kernel_rfl
  kernel_rfl
  kernel_rfl
  refine svNil
  kernel_rfl
  kernel_rfl
  decide
  kernel_rfl
  kernel_rfl
  refine ssNil
  (intro _ _; rfl)
  kernel_rfl
  refine ssCons ?_ ?_
  refine stRet ?_
  refine sMeth ?_ ?_ ?_ ?_ ?_ ?_
  refine sStr
  refine svCons ?_ ?_
  refine sLoc 1 ?_ ?_ ?_
  kernel_rfl
  kernel_rfl
  kernel_rfl
  refine svNil
  kernel_rfl
  kernel_rfl
  decide
  kernel_rfl
  refine ssNil
noncomputable def N_Frame_init : List Str := [so "self", so "func", so "this", so "cls", so "static"]
noncomputable def T_Frame_init : ST := (tSeq (tAss (tLoc 1) (gAtt (tLoc 0) (so "func"))) (tSeq (tAss (tLoc 2) (gAtt (tLoc 0) (so "this"))) (tSeq (tAss (tLoc 3) (gAtt (tLoc 0) (so "cls"))) (tSeq (tAss (tLoc 4) (gAtt (tLoc 0) (so "static"))) (tSeq (tAss tDic0 (gAtt (tLoc 0) (so "vars"))) (tSeq (tAss (tLst lNil) (gAtt (tLoc 0) (so "args"))) tNil))))))
theorem S_Frame_init : SimSs' d_Frame_init.scope N_Frame_init d_Frame_init.body T_Frame_init := by
  refine ssCons ?_ ?_
  refine stAss ?_ ?_ ?_ ?_
  refine sLoc 1 ?_ ?_ ?_
  kernel_rfl
  kernel_rfl
  kernel_rfl
  refine gAttr ?_
  refine sLoc 0 ?_ ?_ ?_
  kernel_rfl
  kernel_rfl
  kernel_rfl
  kernel_rfl
  kernel_rfl
  refine ssCons ?_ ?_
  refine stAss ?_ ?_ ?_ ?_
  refine sLoc 2 ?_ ?_ ?_
  kernel_rfl
  kernel_rfl
  kernel_rfl
  refine gAttr ?_
  refine sLoc 0 ?_ ?_ ?_
  kernel_rfl
  kernel_rfl
  kernel_rfl
  kernel_rfl
  kernel_rfl
  refine ssCons ?_ ?_
  refine stAss ?_ ?_ ?_ ?_
  refine sLoc 3 ?_ ?_ ?_
  kernel_rfl
  kernel_rfl
  kernel_rfl
  refine gAttr ?_
  refine sLoc 0 ?_ ?_ ?_
  kernel_rfl
  kernel_rfl
  kernel_rfl
  kernel_rfl
  kernel_rfl
  refine ssCons ?_ ?_
  refine stAss ?_ ?_ ?_ ?_
  refine sLoc 4 ?_ ?_ ?_
  kernel_rfl
  kernel_rfl
  kernel_rfl
  refine gAttr ?_
  refine sLoc 0 ?_ ?_ ?_
  kernel_rfl
  kernel_rfl
  kernel_rfl
  kernel_rfl
  kernel_rfl
  refine ssCons ?_ ?_
  refine stAss ?_ ?_ ?_ ?_
  refine sDic0
  refine gAttr ?_
  refine sLoc 0 ?_ ?_ ?_
  kernel_rfl
  kernel_rfl
  kernel_rfl
  kernel_rfl
  kernel_rfl
  refine ssCons ?_ ?_
  refine stAss ?_ ?_ ?_ ?_
  refine sLst ?_ ?_
  refine svNil
  kernel_rfl
  refine gAttr ?_
  refine sLoc 0 ?_ ?_ ?_
  kernel_rfl
  kernel_rfl
  kernel_rfl
  kernel_rfl
  kernel_rfl
  refine ssNil
noncomputable def N_Host_init : List Str := [so "self", so "limit", so "fuel"]
noncomputable def T_Host_init : ST := (tSeq (tAss tDic0 (gAtt (tLoc 0) (so "tools"))) (tSeq (tAss tDic0 (gAtt (tLoc 0) (so "evals"))) (tSeq (tAss tDic0 (gAtt (tLoc 0) (so "execs"))) (tSeq (tAss (tCall (tVal (.ref 451)) lNil) (gAtt (tLoc 0) (so "top"))) (tSeq (tAss (tAtt (tLoc 0) (so "top")) (gAtt (tLoc 0) (so "frame"))) (tSeq (tAss (tLst lNil) (gAtt (tLoc 0) (so "notes"))) (tSeq (tAss (tInt 0) (gAtt (tLoc 0) (so "silent"))) (tSeq (tAss (tLst lNil) (gAtt (tLoc 0) (so "parts"))) (tSeq (tAss (tLst lNil) (gAtt (tLoc 0) (so "buffers"))) (tSeq (tAss (tInt 0) (gAtt (tLoc 0) (so "depth"))) (tSeq (tAss (tLoc 1) (gAtt (tLoc 0) (so "limit"))) (tSeq (tAss (tInt 0) (gAtt (tLoc 0) (so "spent"))) (tSeq (tAss (tLoc 2) (gAtt (tLoc 0) (so "fuel"))) (tSeq (tAss (tInt 0) (gAtt (tLoc 0) (so "handles"))) (tSeq (tAss tDic0 (gAtt (tLoc 0) (so "classes"))) (tSeq (tAss tDic0 (gAtt (tLoc 0) (so "functions"))) (tSeq (tAss tDic0 (gAtt (tLoc 0) (so "constants"))) (tSeq (tAss (tLst lNil) (gAtt (tLoc 0) (so "autoload_order"))) (tSeq (tAss (tLst lNil) (gAtt (tLoc 0) (so "made"))) (tSeq (tAss (tVal (.bool false)) (gAtt (tLoc 0) (so "is_strict"))) tNil))))))))))))))))))))
theorem S_Host_init : SimSs' d_Host_init.scope N_Host_init d_Host_init.body T_Host_init := by
  refine ssCons ?_ ?_
  refine stAss ?_ ?_ ?_ ?_
  refine sDic0
  refine gAttr ?_
  refine sLoc 0 ?_ ?_ ?_
  kernel_rfl
  kernel_rfl
  kernel_rfl
  kernel_rfl
  kernel_rfl
  refine ssCons ?_ ?_
  refine stAss ?_ ?_ ?_ ?_
  refine sDic0
  refine gAttr ?_
  refine sLoc 0 ?_ ?_ ?_
  kernel_rfl
  kernel_rfl
  kernel_rfl
  kernel_rfl
  kernel_rfl
  refine ssCons ?_ ?_
  refine stAss ?_ ?_ ?_ ?_
  refine sDic0
  refine gAttr ?_
  refine sLoc 0 ?_ ?_ ?_
  kernel_rfl
  kernel_rfl
  kernel_rfl
  kernel_rfl
  kernel_rfl
  refine ssCons ?_ ?_
  refine stAss ?_ ?_ ?_ ?_
  refine sCall ?_ ?_ ?_ ?_
  refine sGlob (.ref 451) ?_ ?_ ?_
  kernel_rfl
  (intro c; refine c.mgAt ?_; intro _; kernel_rfl)
  kernel_rfl
  refine svNil
  kernel_rfl
  kernel_rfl
  refine gAttr ?_
  refine sLoc 0 ?_ ?_ ?_
  kernel_rfl
  kernel_rfl
  kernel_rfl
  kernel_rfl
  kernel_rfl
  refine ssCons ?_ ?_
  refine stAss ?_ ?_ ?_ ?_
  refine sAtt ?_ ?_
  refine sLoc 0 ?_ ?_ ?_
  kernel_rfl
  kernel_rfl
  kernel_rfl
  kernel_rfl
  refine gAttr ?_
  refine sLoc 0 ?_ ?_ ?_
  kernel_rfl
  kernel_rfl
  kernel_rfl
  kernel_rfl
  kernel_rfl
  refine ssCons ?_ ?_
  refine stAss ?_ ?_ ?_ ?_
  refine sLst ?_ ?_
  refine svNil
  kernel_rfl
  refine gAttr ?_
  refine sLoc 0 ?_ ?_ ?_
  kernel_rfl
  kernel_rfl
  kernel_rfl
  kernel_rfl
  kernel_rfl
  refine ssCons ?_ ?_
  refine stAss ?_ ?_ ?_ ?_
  refine sInt
  refine gAttr ?_
  refine sLoc 0 ?_ ?_ ?_
  kernel_rfl
  kernel_rfl
  kernel_rfl
  kernel_rfl
  kernel_rfl
  refine ssCons ?_ ?_
  refine stAss ?_ ?_ ?_ ?_
  refine sLst ?_ ?_
  refine svNil
  kernel_rfl
  refine gAttr ?_
  refine sLoc 0 ?_ ?_ ?_
  kernel_rfl
  kernel_rfl
  kernel_rfl
  kernel_rfl
  kernel_rfl
  refine ssCons ?_ ?_
  refine stAss ?_ ?_ ?_ ?_
  refine sLst ?_ ?_
  refine svNil
  kernel_rfl
  refine gAttr ?_
  refine sLoc 0 ?_ ?_ ?_
  kernel_rfl
  kernel_rfl
  kernel_rfl
  kernel_rfl
  kernel_rfl
  refine ssCons ?_ ?_
  refine stAss ?_ ?_ ?_ ?_
  refine sInt
  refine gAttr ?_
  refine sLoc 0 ?_ ?_ ?_
  kernel_rfl
  kernel_rfl
  kernel_rfl
  kernel_rfl
  kernel_rfl
  refine ssCons ?_ ?_
  refine stAss ?_ ?_ ?_ ?_
  refine sLoc 1 ?_ ?_ ?_
  kernel_rfl
  kernel_rfl
  kernel_rfl
  refine gAttr ?_
  refine sLoc 0 ?_ ?_ ?_
  kernel_rfl
  kernel_rfl
  kernel_rfl
  kernel_rfl
  kernel_rfl
  refine ssCons ?_ ?_
  refine stAss ?_ ?_ ?_ ?_
  refine sInt
  refine gAttr ?_
  refine sLoc 0 ?_ ?_ ?_
  kernel_rfl
  kernel_rfl
  kernel_rfl
  kernel_rfl
  kernel_rfl
  refine ssCons ?_ ?_
  refine stAss ?_ ?_ ?_ ?_
  refine sLoc 2 ?_ ?_ ?_
  kernel_rfl
  kernel_rfl
  kernel_rfl
  refine gAttr ?_
  refine sLoc 0 ?_ ?_ ?_
  kernel_rfl
  kernel_rfl
  kernel_rfl
  kernel_rfl
  kernel_rfl
  refine ssCons ?_ ?_
  refine stAss ?_ ?_ ?_ ?_
  refine sInt
  refine gAttr ?_
  refine sLoc 0 ?_ ?_ ?_
  kernel_rfl
  kernel_rfl
  kernel_rfl
  kernel_rfl
  kernel_rfl
  refine ssCons ?_ ?_
  refine stAss ?_ ?_ ?_ ?_
  refine sDic0
  refine gAttr ?_
  refine sLoc 0 ?_ ?_ ?_
  kernel_rfl
  kernel_rfl
  kernel_rfl
  kernel_rfl
  kernel_rfl
  refine ssCons ?_ ?_
  refine stAss ?_ ?_ ?_ ?_
  refine sDic0
  refine gAttr ?_
  refine sLoc 0 ?_ ?_ ?_
  kernel_rfl
  kernel_rfl
  kernel_rfl
  kernel_rfl
  kernel_rfl
  refine ssCons ?_ ?_
  refine stAss ?_ ?_ ?_ ?_
  refine sDic0
  refine gAttr ?_
  refine sLoc 0 ?_ ?_ ?_
  kernel_rfl
  kernel_rfl
  kernel_rfl
  kernel_rfl
  kernel_rfl
  refine ssCons ?_ ?_
  refine stAss ?_ ?_ ?_ ?_
  refine sLst ?_ ?_
  refine svNil
  kernel_rfl
  refine gAttr ?_
  refine sLoc 0 ?_ ?_ ?_
  kernel_rfl
  kernel_rfl
  kernel_rfl
  kernel_rfl
  kernel_rfl
  refine ssCons ?_ ?_
  refine stAss ?_ ?_ ?_ ?_
  refine sLst ?_ ?_
  refine svNil
  kernel_rfl
  refine gAttr ?_
  refine sLoc 0 ?_ ?_ ?_
  kernel_rfl
  kernel_rfl
  kernel_rfl
  kernel_rfl
  kernel_rfl
  refine ssCons ?_ ?_
  refine stAss ?_ ?_ ?_ ?_
  refine sBool
  refine gAttr ?_
  refine sLoc 0 ?_ ?_ ?_
  kernel_rfl
  kernel_rfl
  kernel_rfl
  kernel_rfl
  kernel_rfl
  refine ssNil
noncomputable def N_Klass_init : List Str := [so "self", so "name", so "sort"]
noncomputable def T_Klass_init : ST := (tSeq (tAss (tLoc 1) (gAtt (tLoc 0) (so "name"))) (tSeq (tAss (tCall (tVal (.ref 419)) (lCons (tLoc 1) lNil)) (gAtt (tLoc 0) (so "key"))) (tSeq (tAss (tLoc 2) (gAtt (tLoc 0) (so "sort"))) (tSeq (tAss (tTup lNil) (gAtt (tLoc 0) (so "flags"))) (tSeq (tAss (tVal .none) (gAtt (tLoc 0) (so "parent"))) (tSeq (tAss (tLst lNil) (gAtt (tLoc 0) (so "interfaces"))) (tSeq (tAss tDic0 (gAtt (tLoc 0) (so "consts"))) (tSeq (tAss tDic0 (gAtt (tLoc 0) (so "props"))) (tSeq (tAss (tLst lNil) (gAtt (tLoc 0) (so "order"))) (tSeq (tAss tDic0 (gAtt (tLoc 0) (so "statics"))) (tSeq (tAss tDic0 (gAtt (tLoc 0) (so "static_slots"))) (tSeq (tAss tDic0 (gAtt (tLoc 0) (so "methods"))) (tSeq (tAss (tVal .none) (gAtt (tLoc 0) (so "backing"))) (tSeq (tAss (tLst lNil) (gAtt (tLoc 0) (so "cases"))) (tSeq (tAss (tLst lNil) (gAtt (tLoc 0) (so "uses"))) (tSeq (tAss (tVal .none) (gAtt (tLoc 0) (so "maker"))) (tSeq (tAss (tVal .none) (gAtt (tLoc 0) (so "cloner"))) (tSeq (tAss (tVal (.bool false)) (gAtt (tLoc 0) (so "is_linked"))) tNil))))))))))))))))))
theorem S_Klass_init : SimSs' d_Klass_init.scope N_Klass_init d_Klass_init.body T_Klass_init := by
  refine ssCons ?_ ?_
  refine stAss ?_ ?_ ?_ ?_
  refine sLoc 1 ?_ ?_ ?_
  kernel_rfl
  kernel_rfl
  kernel_rfl
  refine gAttr ?_
  refine sLoc 0 ?_ ?_ ?_
  kernel_rfl
  kernel_rfl
  kernel_rfl
  kernel_rfl
  kernel_rfl
  refine ssCons ?_ ?_
  refine stAss ?_ ?_ ?_ ?_
  refine sCall ?_ ?_ ?_ ?_
  refine sGlob (.ref 419) ?_ ?_ ?_
  kernel_rfl
  (intro c; refine c.mgAt ?_; intro _; kernel_rfl)
  kernel_rfl
  refine svCons ?_ ?_
  refine sLoc 1 ?_ ?_ ?_
  kernel_rfl
  kernel_rfl
  kernel_rfl
  refine svNil
  kernel_rfl
  kernel_rfl
  refine gAttr ?_
  refine sLoc 0 ?_ ?_ ?_
  kernel_rfl
  kernel_rfl
  kernel_rfl
  kernel_rfl
  kernel_rfl
  refine ssCons ?_ ?_
  refine stAss ?_ ?_ ?_ ?_
  refine sLoc 2 ?_ ?_ ?_
  kernel_rfl
  kernel_rfl
  kernel_rfl
  refine gAttr ?_
  refine sLoc 0 ?_ ?_ ?_
  kernel_rfl
  kernel_rfl
  kernel_rfl
  kernel_rfl
  kernel_rfl
  refine ssCons ?_ ?_
  refine stAss ?_ ?_ ?_ ?_
  refine sTup ?_ ?_
  refine svNil
  kernel_rfl
  refine gAttr ?_
  refine sLoc 0 ?_ ?_ ?_
  kernel_rfl
  kernel_rfl
  kernel_rfl
  kernel_rfl
  kernel_rfl
  refine ssCons ?_ ?_
  refine stAss ?_ ?_ ?_ ?_
  refine sNone
  refine gAttr ?_
  refine sLoc 0 ?_ ?_ ?_
  kernel_rfl
  kernel_rfl
  kernel_rfl
  kernel_rfl
  kernel_rfl
  refine ssCons ?_ ?_
  refine stAss ?_ ?_ ?_ ?_
  refine sLst ?_ ?_
  refine svNil
  kernel_rfl
  refine gAttr ?_
  refine sLoc 0 ?_ ?_ ?_
  kernel_rfl
  kernel_rfl
  kernel_rfl
  kernel_rfl
  kernel_rfl
  refine ssCons ?_ ?_
  refine stAss ?_ ?_ ?_ ?_
  refine sDic0
  refine gAttr ?_
  refine sLoc 0 ?_ ?_ ?_
  kernel_rfl
  kernel_rfl
  kernel_rfl
  kernel_rfl
  kernel_rfl
  refine ssCons ?_ ?_
  refine stAss ?_ ?_ ?_ ?_
  refine sDic0
  refine gAttr ?_
  refine sLoc 0 ?_ ?_ ?_
  kernel_rfl
  kernel_rfl
  kernel_rfl
  kernel_rfl
  kernel_rfl
  refine ssCons ?_ ?_
  refine stAss ?_ ?_ ?_ ?_
  refine sLst ?_ ?_
  refine svNil
  kernel_rfl
  refine gAttr ?_
  refine sLoc 0 ?_ ?_ ?_
  kernel_rfl
  kernel_rfl
  kernel_rfl
  kernel_rfl
  kernel_rfl
  refine ssCons ?_ ?_
  refine stAss ?_ ?_ ?_ ?_
  refine sDic0
  refine gAttr ?_
  refine sLoc 0 ?_ ?_ ?_
  kernel_rfl
  kernel_rfl
  kernel_rfl
  kernel_rfl
  kernel_rfl
  refine ssCons ?_ ?_
  refine stAss ?_ ?_ ?_ ?_
  refine sDic0
  refine gAttr ?_
  refine sLoc 0 ?_ ?_ ?_
  kernel_rfl
  kernel_rfl
  kernel_rfl
  kernel_rfl
  kernel_rfl
  refine ssCons ?_ ?_
  refine stAss ?_ ?_ ?_ ?_
  refine sDic0
  refine gAttr ?_
  refine sLoc 0 ?_ ?_ ?_
  kernel_rfl
  kernel_rfl
  kernel_rfl
  kernel_rfl
  kernel_rfl
  refine ssCons ?_ ?_
  refine stAss ?_ ?_ ?_ ?_
  refine sNone
  refine gAttr ?_
  refine sLoc 0 ?_ ?_ ?_
  kernel_rfl
  kernel_rfl
  kernel_rfl
  kernel_rfl
  kernel_rfl
  refine ssCons ?_ ?_
  refine stAss ?_ ?_ ?_ ?_
  refine sLst ?_ ?_
  refine svNil
  kernel_rfl
  refine gAttr ?_
  refine sLoc 0 ?_ ?_ ?_
  kernel_rfl
  kernel_rfl
  kernel_rfl
  kernel_rfl
  kernel_rfl
  refine ssCons ?_ ?_
  refine stAss ?_ ?_ ?_ ?_
  refine sLst ?_ ?_
  refine svNil
  kernel_rfl
  refine gAttr ?_
  refine sLoc 0 ?_ ?_ ?_
  kernel_rfl
  kernel_rfl
  kernel_rfl
  kernel_rfl
  kernel_rfl
  refine ssCons ?_ ?_
  refine stAss ?_ ?_ ?_ ?_
  refine sNone
  refine gAttr ?_
  refine sLoc 0 ?_ ?_ ?_
  kernel_rfl
  kernel_rfl
  kernel_rfl
  kernel_rfl
  kernel_rfl
  refine ssCons ?_ ?_
  refine stAss ?_ ?_ ?_ ?_
  refine sNone
  refine gAttr ?_
  refine sLoc 0 ?_ ?_ ?_
  kernel_rfl
  kernel_rfl
  kernel_rfl
  kernel_rfl
  kernel_rfl
  refine ssCons ?_ ?_
  refine stAss ?_ ?_ ?_ ?_
  refine sBool
  refine gAttr ?_
  refine sLoc 0 ?_ ?_ ?_
  kernel_rfl
  kernel_rfl
  kernel_rfl
  kernel_rfl
  kernel_rfl
  refine ssNil
noncomputable def N_to_bool : List Str := [so "value", so "sort"]
noncomputable def T_to_bool : ST := (tSeq (tAss (tCall (tVal (.ref 356)) (lCons (tLoc 0) lNil)) (gSlot 1)) (tSeq (tIf (bCmp .Eq (tLoc 1) (tStr (so "null"))) (tSeq (tRet (tVal (.bool false))) tNil) tNil) (tSeq (tIf (bCmp .Eq (tLoc 1) (tStr (so "string"))) (tSeq (tRet (tCmp .NotIn (tLoc 0) (tTup (lCons (tStr (so "")) (lCons (tStr (so "0")) lNil))))) tNil) tNil) (tSeq (tIf (bCmp .Eq (tLoc 1) (tStr (so "array"))) (tSeq (tRet (tCmp .Gt (tAtt (tLoc 0) (so "count")) (tInt 0))) tNil) tNil) (tSeq (tIf (bCmp .Eq (tLoc 1) (tStr (so "object"))) (tSeq (tRet (tVal (.bool true))) tNil) tNil) (tSeq (tRet (tCmp .NotEq (tLoc 0) (tInt 0))) tNil))))))
theorem S_to_bool : SimSs' d_to_bool.scope N_to_bool d_to_bool.body T_to_bool := by
  refine ssCons ?_ ?_
  refine stAss ?_ ?_ ?_ ?_
  refine sCall ?_ ?_ ?_ ?_
  refine sGlob (.ref 356) ?_ ?_ ?_
  kernel_rfl
  (intro c; refine c.mgAt ?_; intro _; kernel_rfl)
  kernel_rfl
  refine svCons ?_ ?_
  refine sLoc 0 ?_ ?_ ?_
  kernel_rfl
  kernel_rfl
  kernel_rfl
  refine svNil
  kernel_rfl
  kernel_rfl
  refine gLoc 1 ?_ ?_
  kernel_rfl
  kernel_rfl
  kernel_rfl
  kernel_rfl
  refine ssCons ?_ ?_
  refine stIf ?_ ?_ ?_
  refine sbCmp ?_ ?_ ?_
  refine sLoc 1 ?_ ?_ ?_
  kernel_rfl
  kernel_rfl
  kernel_rfl
  refine sStr
  kernel_rfl
  refine ssCons ?_ ?_
  refine stRet ?_
  refine sBool
  refine ssNil
  refine ssNil
  refine ssCons ?_ ?_
  refine stIf ?_ ?_ ?_
  refine sbCmp ?_ ?_ ?_
  refine sLoc 1 ?_ ?_ ?_
  kernel_rfl
  kernel_rfl
  kernel_rfl
  refine sStr
  kernel_rfl
  refine ssCons ?_ ?_
  refine stRet ?_
  refine sCmp ?_ ?_ ?_
  refine sLoc 0 ?_ ?_ ?_
  kernel_rfl
  kernel_rfl
  kernel_rfl
  refine sTup ?_ ?_
  refine svCons ?_ ?_
  refine sStr
  refine svCons ?_ ?_
  refine sStr
  refine svNil
  kernel_rfl
  kernel_rfl
  refine ssNil
  refine ssNil
  refine ssCons ?_ ?_
  refine stIf ?_ ?_ ?_
  refine sbCmp ?_ ?_ ?_
  refine sLoc 1 ?_ ?_ ?_
  kernel_rfl
  kernel_rfl
  kernel_rfl
  refine sStr
  kernel_rfl
  refine ssCons ?_ ?_
  refine stRet ?_
  refine sCmp ?_ ?_ ?_
  refine sAtt ?_ ?_
  refine sLoc 0 ?_ ?_ ?_
  kernel_rfl
  kernel_rfl
  kernel_rfl
  kernel_rfl
  refine sInt
  kernel_rfl
  refine ssNil
  refine ssNil
  refine ssCons ?_ ?_
  refine stIf ?_ ?_ ?_
  refine sbCmp ?_ ?_ ?_
  refine sLoc 1 ?_ ?_ ?_
  kernel_rfl
  kernel_rfl
  kernel_rfl
  refine sStr
  kernel_rfl
  refine ssCons ?_ ?_
  refine stRet ?_
  refine sBool
  refine ssNil
  refine ssNil
  refine ssCons ?_ ?_
  refine stRet ?_
  refine sCmp ?_ ?_ ?_
  refine sLoc 0 ?_ ?_ ?_
  kernel_rfl
  kernel_rfl
  kernel_rfl
  refine sInt
  kernel_rfl
  refine ssNil
noncomputable def N_sign_of : List Str := [so "a", so "b"]
noncomputable def T_sign_of : ST := (tSeq (tIf (bCmp .Lt (tLoc 0) (tLoc 1)) (tSeq (tRet (tUn .USub (tInt 1))) tNil) tNil) (tSeq (tRet (tIte (bCmp .Gt (tLoc 0) (tLoc 1)) (tInt 1) (tInt 0))) tNil))
theorem S_sign_of : SimSs' d_sign_of.scope N_sign_of d_sign_of.body T_sign_of := by
  refine ssCons ?_ ?_
  refine stIf ?_ ?_ ?_
  refine sbCmp ?_ ?_ ?_
  refine sLoc 0 ?_ ?_ ?_
  kernel_rfl
  kernel_rfl
  kernel_rfl
  refine sLoc 1 ?_ ?_ ?_
  kernel_rfl
  kernel_rfl
  kernel_rfl
  kernel_rfl
  refine ssCons ?_ ?_
  refine stRet ?_
  refine sUn ?_
  refine sInt
  refine ssNil
  refine ssNil
  refine ssCons ?_ ?_
  refine stRet ?_
  refine sIte ?_ ?_ ?_
  refine sbCmp ?_ ?_ ?_
  refine sLoc 0 ?_ ?_ ?_
  kernel_rfl
  kernel_rfl
  kernel_rfl
  refine sLoc 1 ?_ ?_ ?_
  kernel_rfl
  kernel_rfl
  kernel_rfl
  kernel_rfl
  refine sInt
  refine sInt
  refine ssNil
noncomputable def N_check_depth : List Str := [so "depth"]
noncomputable def T_check_depth : ST := (tSeq (tIf (bCmp .Gt (tLoc 0) (tInt 40)) (tSeq tNo tNil) tNil) tNil)
theorem S_check_depth : SimSs' d_check_depth.scope N_check_depth d_check_depth.body T_check_depth := by
  refine ssCons ?_ ?_
  refine stIf ?_ ?_ ?_
  refine sbCmp ?_ ?_ ?_
  refine sLoc 0 ?_ ?_ ?_
  kernel_rfl
  kernel_rfl
  kernel_rfl
  refine sInt
  kernel_rfl
  refine ssCons ?_ ?_
  refine stNo
  refine ssNil
  refine ssNil
  refine ssNil
noncomputable def N_compare_objects : List Str := [so "host", so "a", so "b", so "depth", so "name", so "first", so "second", so "found"]
noncomputable def T_compare_objects : ST := (tSeq (tIf (bCmp .Is (tLoc 1) (tLoc 2)) (tSeq (tRet (tInt 0)) tNil) tNil) (tSeq tNo (tSeq tNo (tSeq tNo (tSeq tNo (tSeq (tRet (tInt 0)) tNil))))))
theorem S_compare_objects : SimSs' d_compare_objects.scope N_compare_objects d_compare_objects.body T_compare_objects := by
  refine ssCons ?_ ?_
  refine stIf ?_ ?_ ?_
  refine sbCmp ?_ ?_ ?_
  refine sLoc 1 ?_ ?_ ?_
  kernel_rfl
  kernel_rfl
  kernel_rfl
  refine sLoc 2 ?_ ?_ ?_
  kernel_rfl
  kernel_rfl
  kernel_rfl
  kernel_rfl
  refine ssCons ?_ ?_
  refine stRet ?_
  refine sInt
  refine ssNil
  refine ssNil
  refine ssCons ?_ ?_
  refine stNo
  refine ssCons ?_ ?_
  refine stNo
  refine ssCons ?_ ?_
  refine stNo
  refine ssCons ?_ ?_
  refine stNo
  refine ssCons ?_ ?_
  refine stRet ?_
  refine sInt
  refine ssNil
noncomputable def N_compare : List Str := [so "host", so "a", so "b", so "depth", so "first", so "second"]
noncomputable def T_compare : ST := (tSeq (tExp (tCall (tVal (.ref 701)) (lCons (tLoc 3) lNil))) (tSeq (tSw2 (tTup (lCons (tCall (tVal (.ref 356)) (lCons (tLoc 1) lNil)) (lCons (tCall (tVal (.ref 356)) (lCons (tLoc 2) lNil)) lNil))) 4 5) (tSeq (tIf (bAnd (bCmp .Eq (tLoc 4) (tStr (so "int"))) (bAnd (bCmp .Eq (tLoc 5) (tStr (so "int"))) bTrue)) (tSeq (tRet (tCall (tVal (.ref 680)) (lCons (tLoc 1) (lCons (tLoc 2) lNil)))) tNil) tNil) (tSeq (tIf (bAnd (bCmp .Eq (tLoc 4) (tStr (so "string"))) (bAnd (bCmp .Eq (tLoc 5) (tStr (so "string"))) bTrue)) (tSeq (tRet tNoE) tNil) tNil) (tSeq (tIf (bAnd (bCmp .Eq (tLoc 4) (tStr (so "null"))) (bAnd (bCmp .Eq (tLoc 5) (tStr (so "string"))) bTrue)) (tSeq (tRet tNoE) tNil) tNil) (tSeq (tIf (bAnd (bCmp .Eq (tLoc 4) (tStr (so "string"))) (bAnd (bCmp .Eq (tLoc 5) (tStr (so "null"))) bTrue)) (tSeq (tRet tNoE) tNil) tNil) (tSeq (tIf (bAnd (bCmp .Eq (tLoc 4) (tStr (so "object"))) (bAnd (bCmp .Eq (tLoc 5) (tStr (so "object"))) bTrue)) (tSeq (tRet (tCall (tVal (.ref 715)) (lCons (tLoc 0) (lCons (tLoc 1) (lCons (tLoc 2) (lCons (tLoc 3) lNil)))))) tNil) tNil) (tSeq (tIf (bOr (bCmp .In (tLoc 4) (tTup (lCons (tStr (so "null")) (lCons (tStr (so "bool")) lNil)))) (bOr (bCmp .In (tLoc 5) (tTup (lCons (tStr (so "null")) (lCons (tStr (so "bool")) lNil)))) bFalse)) (tSeq (tRet (tCall (tVal (.ref 680)) (lCons (tCall (tVal (.ref 638)) (lCons (tLoc 1) lNil)) (lCons (tCall (tVal (.ref 638)) (lCons (tLoc 2) lNil)) lNil)))) tNil) tNil) (tSeq tNo (tSeq tNo (tSeq tNo (tSeq tNo (tSeq tNo (tSeq tNo tNil))))))))))))))
theorem S_compare : SimSs' d_compare.scope N_compare d_compare.body T_compare := by
  refine ssCons ?_ ?_
  refine stExp ?_ ?_
  refine sCall ?_ ?_ ?_ ?_
  refine sGlob (.ref 701) ?_ ?_ ?_
  kernel_rfl
  (intro c; refine c.mgAt ?_; intro _; kernel_rfl)
  kernel_rfl
  refine svCons ?_ ?_
  refine sLoc 3 ?_ ?_ ?_
  kernel_rfl
  kernel_rfl
  kernel_rfl
  refine svNil
  kernel_rfl
  kernel_rfl
  kernel_rfl
  refine ssCons ?_ ?_
  refine stSw2 (x := so "first") (y := so "second") 4 5 ?_ ?_ ?_ ?_ ?_ ?_
  refine sTup ?_ ?_
  refine svCons ?_ ?_
  refine sCall ?_ ?_ ?_ ?_
  refine sGlob (.ref 356) ?_ ?_ ?_
  kernel_rfl
  (intro c; refine c.mgAt ?_; intro _; kernel_rfl)
  kernel_rfl
  refine svCons ?_ ?_
  refine sLoc 1 ?_ ?_ ?_
  kernel_rfl
  kernel_rfl
  kernel_rfl
  refine svNil
  kernel_rfl
  kernel_rfl
  refine svCons ?_ ?_
  refine sCall ?_ ?_ ?_ ?_
  refine sGlob (.ref 356) ?_ ?_ ?_
  kernel_rfl
  (intro c; refine c.mgAt ?_; intro _; kernel_rfl)
  kernel_rfl
  refine svCons ?_ ?_
  refine sLoc 2 ?_ ?_ ?_
  kernel_rfl
  kernel_rfl
  kernel_rfl
  refine svNil
  kernel_rfl
  kernel_rfl
  refine svNil
  kernel_rfl
  kernel_rfl
  kernel_rfl
  kernel_rfl
  kernel_rfl
  kernel_rfl
  refine ssCons ?_ ?_
  refine stIf ?_ ?_ ?_
  refine sbBool ?_
  refine saAnd ?_ ?_
  refine sbCmp ?_ ?_ ?_
  refine sLoc 4 ?_ ?_ ?_
  kernel_rfl
  kernel_rfl
  kernel_rfl
  refine sStr
  kernel_rfl
  refine saAnd ?_ ?_
  refine sbCmp ?_ ?_ ?_
  refine sLoc 5 ?_ ?_ ?_
  kernel_rfl
  kernel_rfl
  kernel_rfl
  refine sStr
  kernel_rfl
  refine saAnd0
  refine ssCons ?_ ?_
  refine stRet ?_
  refine sCall ?_ ?_ ?_ ?_
  refine sGlob (.ref 680) ?_ ?_ ?_
  kernel_rfl
  (intro c; refine c.mgAt ?_; intro _; kernel_rfl)
  kernel_rfl
  refine svCons ?_ ?_
  refine sLoc 1 ?_ ?_ ?_
  kernel_rfl
  kernel_rfl
  kernel_rfl
  refine svCons ?_ ?_
  refine sLoc 2 ?_ ?_ ?_
  kernel_rfl
  kernel_rfl
  kernel_rfl
  refine svNil
  kernel_rfl
  kernel_rfl
  refine ssNil
  refine ssNil
  refine ssCons ?_ ?_
  refine stIf ?_ ?_ ?_
  refine sbBool ?_
  refine saAnd ?_ ?_
  refine sbCmp ?_ ?_ ?_
  refine sLoc 4 ?_ ?_ ?_
  kernel_rfl
  kernel_rfl
  kernel_rfl
  refine sStr
  kernel_rfl
  refine saAnd ?_ ?_
  refine sbCmp ?_ ?_ ?_
  refine sLoc 5 ?_ ?_ ?_
  kernel_rfl
  kernel_rfl
  kernel_rfl
  refine sStr
  kernel_rfl
  refine saAnd0
  refine ssCons ?_ ?_
  refine stRet ?_
  refine sNoE
  refine ssNil
  refine ssNil
  refine ssCons ?_ ?_
  refine stIf ?_ ?_ ?_
  refine sbBool ?_
  refine saAnd ?_ ?_
  refine sbCmp ?_ ?_ ?_
  refine sLoc 4 ?_ ?_ ?_
  kernel_rfl
  kernel_rfl
  kernel_rfl
  refine sStr
  kernel_rfl
  refine saAnd ?_ ?_
  refine sbCmp ?_ ?_ ?_
  refine sLoc 5 ?_ ?_ ?_
  kernel_rfl
  kernel_rfl
  kernel_rfl
  refine sStr
  kernel_rfl
  refine saAnd0
  refine ssCons ?_ ?_
  refine stRet ?_
  refine sNoE
  refine ssNil
  refine ssNil
  refine ssCons ?_ ?_
  refine stIf ?_ ?_ ?_
  refine sbBool ?_
  refine saAnd ?_ ?_
  refine sbCmp ?_ ?_ ?_
  refine sLoc 4 ?_ ?_ ?_
  kernel_rfl
  kernel_rfl
  kernel_rfl
  refine sStr
  kernel_rfl
  refine saAnd ?_ ?_
  refine sbCmp ?_ ?_ ?_
  refine sLoc 5 ?_ ?_ ?_
  kernel_rfl
  kernel_rfl
  kernel_rfl
  refine sStr
  kernel_rfl
  refine saAnd0
  refine ssCons ?_ ?_
  refine stRet ?_
  refine sNoE
  refine ssNil
  refine ssNil
  refine ssCons ?_ ?_
  refine stIf ?_ ?_ ?_
  refine sbBool ?_
  refine saAnd ?_ ?_
  refine sbCmp ?_ ?_ ?_
  refine sLoc 4 ?_ ?_ ?_
  kernel_rfl
  kernel_rfl
  kernel_rfl
  refine sStr
  kernel_rfl
  refine saAnd ?_ ?_
  refine sbCmp ?_ ?_ ?_
  refine sLoc 5 ?_ ?_ ?_
  kernel_rfl
  kernel_rfl
  kernel_rfl
  refine sStr
  kernel_rfl
  refine saAnd0
  refine ssCons ?_ ?_
  refine stRet ?_
  refine sCall ?_ ?_ ?_ ?_
  refine sGlob (.ref 715) ?_ ?_ ?_
  kernel_rfl
  (intro c; refine c.mgAt ?_; intro _; kernel_rfl)
  kernel_rfl
  refine svCons ?_ ?_
  refine sLoc 0 ?_ ?_ ?_
  kernel_rfl
  kernel_rfl
  kernel_rfl
  refine svCons ?_ ?_
  refine sLoc 1 ?_ ?_ ?_
  kernel_rfl
  kernel_rfl
  kernel_rfl
  refine svCons ?_ ?_
  refine sLoc 2 ?_ ?_ ?_
  kernel_rfl
  kernel_rfl
  kernel_rfl
  refine svCons ?_ ?_
  refine sLoc 3 ?_ ?_ ?_
  kernel_rfl
  kernel_rfl
  kernel_rfl
  refine svNil
  kernel_rfl
  kernel_rfl
  refine ssNil
  refine ssNil
  refine ssCons ?_ ?_
  refine stIf ?_ ?_ ?_
  refine sbBool ?_
  refine saOr ?_ ?_
  refine sbCmp ?_ ?_ ?_
  refine sLoc 4 ?_ ?_ ?_
  kernel_rfl
  kernel_rfl
  kernel_rfl
  refine sTup ?_ ?_
  refine svCons ?_ ?_
  refine sStr
  refine svCons ?_ ?_
  refine sStr
  refine svNil
  kernel_rfl
  kernel_rfl
  refine saOr ?_ ?_
  refine sbCmp ?_ ?_ ?_
  refine sLoc 5 ?_ ?_ ?_
  kernel_rfl
  kernel_rfl
  kernel_rfl
  refine sTup ?_ ?_
  refine svCons ?_ ?_
  refine sStr
  refine svCons ?_ ?_
  refine sStr
  refine svNil
  kernel_rfl
  kernel_rfl
  refine saOr0
  refine ssCons ?_ ?_
  refine stRet ?_
  refine sCall ?_ ?_ ?_ ?_
  refine sGlob (.ref 680) ?_ ?_ ?_
  kernel_rfl
  (intro c; refine c.mgAt ?_; intro _; kernel_rfl)
  kernel_rfl
  refine svCons ?_ ?_
  refine sCall ?_ ?_ ?_ ?_
  refine sGlob (.ref 638) ?_ ?_ ?_
  kernel_rfl
  (intro c; refine c.mgAt ?_; intro _; kernel_rfl)
  kernel_rfl
  refine svCons ?_ ?_
  refine sLoc 1 ?_ ?_ ?_
  kernel_rfl
  kernel_rfl
  kernel_rfl
  refine svNil
  kernel_rfl
  kernel_rfl
  refine svCons ?_ ?_
  refine sCall ?_ ?_ ?_ ?_
  refine sGlob (.ref 638) ?_ ?_ ?_
  kernel_rfl
  (intro c; refine c.mgAt ?_; intro _; kernel_rfl)
  kernel_rfl
  refine svCons ?_ ?_
  refine sLoc 2 ?_ ?_ ?_
  kernel_rfl
  kernel_rfl
  kernel_rfl
  refine svNil
  kernel_rfl
  kernel_rfl
  refine svNil
  kernel_rfl
  kernel_rfl
  refine ssNil
  refine ssNil
  refine ssCons ?_ ?_
  refine stNo
  refine ssCons ?_ ?_
  refine stNo
  refine ssCons ?_ ?_
  refine stNo
  refine ssCons ?_ ?_
  refine stNo
  refine ssCons ?_ ?_
  refine stNo
  refine ssCons ?_ ?_
  refine stNo
  refine ssNil
noncomputable def N_equal_arrays : List Str := [so "host", so "a", so "b", so "depth", so "key", so "slot"]
noncomputable def T_equal_arrays : ST := (tSeq (tIf (bCmp .Is (tLoc 1) (tLoc 2)) (tSeq (tRet (tVal (.bool true))) tNil) tNil) (tSeq (tIf (bCmp .NotEq (tAtt (tLoc 1) (so "count")) (tAtt (tLoc 2) (so "count"))) (tSeq (tRet (tVal (.bool false))) tNil) tNil) (tSeq (tFor (tCall (tVal (.ref 342)) (lCons (tLoc 1) lNil)) 1 (gTup 2 (gCons (gSlot 4) (gCons (gSlot 5) gNil))) (tSeq (tIf (bOr (bNot (bVal (tMeth (tLoc 2) (so "has") (lCons (tLoc 4) lNil)))) (bOr (bNot (bVal (tCall (tVal (.ref 759)) (lCons (tLoc 0) (lCons (tCall (tVal (.ref 179)) (lCons (tLoc 5) lNil)) (lCons (tCall (tVal (.ref 179)) (lCons (tMeth (tLoc 2) (so "slot") (lCons (tLoc 4) lNil)) lNil)) (lCons (tBin .Add (tLoc 3) (tInt 1)) lNil))))))) bFalse)) (tSeq (tRet (tVal (.bool false))) tNil) tNil) tNil)) (tSeq (tRet (tVal (.bool true))) tNil))))
theorem S_equal_arrays : SimSs' d_equal_arrays.scope N_equal_arrays d_equal_arrays.body T_equal_arrays := by
  refine ssCons ?_ ?_
  refine stIf ?_ ?_ ?_
  refine sbCmp ?_ ?_ ?_
  refine sLoc 1 ?_ ?_ ?_
  kernel_rfl
  kernel_rfl
  kernel_rfl
  refine sLoc 2 ?_ ?_ ?_
  kernel_rfl
  kernel_rfl
  kernel_rfl
  kernel_rfl
  refine ssCons ?_ ?_
  refine stRet ?_
  refine sBool
  refine ssNil
  refine ssNil
  refine ssCons ?_ ?_
  refine stIf ?_ ?_ ?_
  refine sbCmp ?_ ?_ ?_
  refine sAtt ?_ ?_
  refine sLoc 1 ?_ ?_ ?_
  kernel_rfl
  kernel_rfl
  kernel_rfl
  kernel_rfl
  refine sAtt ?_ ?_
  refine sLoc 2 ?_ ?_ ?_
  kernel_rfl
  kernel_rfl
  kernel_rfl
  kernel_rfl
  kernel_rfl
  refine ssCons ?_ ?_
  refine stRet ?_
  refine sBool
  refine ssNil
  refine ssNil
  refine ssCons ?_ ?_
  refine stFor ?_ ?_ ?_ ?_ ?_
  refine sCall ?_ ?_ ?_ ?_
  refine sGlob (.ref 342) ?_ ?_ ?_
  kernel_rfl
  (intro c; refine c.mgAt ?_; intro _; kernel_rfl)
  kernel_rfl
  refine svCons ?_ ?_
  refine sLoc 1 ?_ ?_ ?_
  kernel_rfl
  kernel_rfl
  kernel_rfl
  refine svNil
  kernel_rfl
  kernel_rfl
  refine gTuple ?_ ?_
  refine gsCons ?_ ?_ ?_
  refine gLoc 4 ?_ ?_
  kernel_rfl
  kernel_rfl
  refine gsCons ?_ ?_ ?_
  refine gLoc 5 ?_ ?_
  kernel_rfl
  kernel_rfl
  refine gsNil
  kernel_rfl
  kernel_rfl
  kernel_rfl
  refine ssCons ?_ ?_
  refine stIf ?_ ?_ ?_
  refine sbBool ?_
  refine saOr ?_ ?_
  refine sbNot ?_
  refine sbVal ?_ ?_
  refine sMeth ?_ ?_ ?_ ?_ ?_ ?_
  refine sLoc 2 ?_ ?_ ?_
  kernel_rfl
  kernel_rfl
  kernel_rfl
  refine svCons ?_ ?_
  refine sLoc 4 ?_ ?_ ?_
  kernel_rfl
  kernel_rfl
  kernel_rfl
  refine svNil
  kernel_rfl
  kernel_rfl
  decide
  kernel_rfl
  (intro _ _; rfl)
  refine saOr ?_ ?_
  refine sbNot ?_
  refine sbVal ?_ ?_
  refine sCall ?_ ?_ ?_ ?_
  refine sGlob (.ref 759) ?_ ?_ ?_
  kernel_rfl
  (intro c; refine c.mgAt ?_; intro _; kernel_rfl)
  kernel_rfl
  refine svCons ?_ ?_
  refine sLoc 0 ?_ ?_ ?_
  kernel_rfl
  kernel_rfl
  kernel_rfl
  refine svCons ?_ ?_
  refine sCall ?_ ?_ ?_ ?_
  refine sGlob (.ref 179) ?_ ?_ ?_
  kernel_rfl
  (intro c; refine c.mgAt ?_; intro _; kernel_rfl)
  kernel_rfl
  refine svCons ?_ ?_
  refine sLoc 5 ?_ ?_ ?_
  kernel_rfl
  kernel_rfl
  kernel_rfl
  refine svNil
  kernel_rfl
  kernel_rfl
  refine svCons ?_ ?_
  refine sCall ?_ ?_ ?_ ?_
  refine sGlob (.ref 179) ?_ ?_ ?_
  kernel_rfl
  (intro c; refine c.mgAt ?_; intro _; kernel_rfl)
  kernel_rfl
  refine svCons ?_ ?_
  refine sMeth ?_ ?_ ?_ ?_ ?_ ?_
  refine sLoc 2 ?_ ?_ ?_
  kernel_rfl
  kernel_rfl
  kernel_rfl
  refine svCons ?_ ?_
  refine sLoc 4 ?_ ?_ ?_
  kernel_rfl
  kernel_rfl
  kernel_rfl
  refine svNil
  kernel_rfl
  kernel_rfl
  decide
  kernel_rfl
  refine svNil
  kernel_rfl
  kernel_rfl
  refine svCons ?_ ?_
  refine sBin ?_ ?_
  refine sLoc 3 ?_ ?_ ?_
  kernel_rfl
  kernel_rfl
  kernel_rfl
  refine sInt
  refine svNil
  kernel_rfl
  kernel_rfl
  (intro _ _; rfl)
  refine saOr0
  refine ssCons ?_ ?_
  refine stRet ?_
  refine sBool
  refine ssNil
  refine ssNil
  refine ssNil
  (intro _ _; rfl)
  kernel_rfl
  refine ssCons ?_ ?_
  refine stRet ?_
  refine sBool
  refine ssNil
noncomputable def N_loose_equal : List Str := [so "host", so "a", so "b", so "depth", so "first", so "second"]
noncomputable def T_loose_equal : ST := (tSeq (tExp (tCall (tVal (.ref 701)) (lCons (tLoc 3) lNil))) (tSeq (tSw2 (tTup (lCons (tCall (tVal (.ref 356)) (lCons (tLoc 1) lNil)) (lCons (tCall (tVal (.ref 356)) (lCons (tLoc 2) lNil)) lNil))) 4 5) (tSeq (tIf (bAnd (bCmp .Eq (tLoc 4) (tStr (so "string"))) (bAnd (bCmp .Eq (tLoc 5) (tStr (so "string"))) (bAnd (bCmp .Eq (tLoc 1) (tLoc 2)) bTrue))) (tSeq (tRet (tVal (.bool true))) tNil) tNil) (tSeq (tIf (bAnd (bCmp .Eq (tLoc 4) (tStr (so "array"))) (bAnd (bCmp .Eq (tLoc 5) (tStr (so "array"))) bTrue)) (tSeq (tRet (tCall (tVal (.ref 751)) (lCons (tLoc 0) (lCons (tLoc 1) (lCons (tLoc 2) (lCons (tLoc 3) lNil)))))) tNil) tNil) (tSeq (tRet (tCmp .Eq (tCall (tVal (.ref 744)) (lCons (tLoc 0) (lCons (tLoc 1) (lCons (tLoc 2) (lCons (tLoc 3) lNil))))) (tInt 0))) tNil)))))
theorem S_loose_equal : SimSs' d_loose_equal.scope N_loose_equal d_loose_equal.body T_loose_equal := by
  refine ssCons ?_ ?_
  refine stExp ?_ ?_
  refine sCall ?_ ?_ ?_ ?_
  refine sGlob (.ref 701) ?_ ?_ ?_
  kernel_rfl
  (intro c; refine c.mgAt ?_; intro _; kernel_rfl)
  kernel_rfl
  refine svCons ?_ ?_
  refine sLoc 3 ?_ ?_ ?_
  kernel_rfl
  kernel_rfl
  kernel_rfl
  refine svNil
  kernel_rfl
  kernel_rfl
  kernel_rfl
  refine ssCons ?_ ?_
  refine stSw2 (x := so "first") (y := so "second") 4 5 ?_ ?_ ?_ ?_ ?_ ?_
  refine sTup ?_ ?_
  refine svCons ?_ ?_
  refine sCall ?_ ?_ ?_ ?_
  refine sGlob (.ref 356) ?_ ?_ ?_
  kernel_rfl
  (intro c; refine c.mgAt ?_; intro _; kernel_rfl)
  kernel_rfl
  refine svCons ?_ ?_
  refine sLoc 1 ?_ ?_ ?_
  kernel_rfl
  kernel_rfl
  kernel_rfl
  refine svNil
  kernel_rfl
  kernel_rfl
  refine svCons ?_ ?_
  refine sCall ?_ ?_ ?_ ?_
  refine sGlob (.ref 356) ?_ ?_ ?_
  kernel_rfl
  (intro c; refine c.mgAt ?_; intro _; kernel_rfl)
  kernel_rfl
  refine svCons ?_ ?_
  refine sLoc 2 ?_ ?_ ?_
  kernel_rfl
  kernel_rfl
  kernel_rfl
  refine svNil
  kernel_rfl
  kernel_rfl
  refine svNil
  kernel_rfl
  kernel_rfl
  kernel_rfl
  kernel_rfl
  kernel_rfl
  kernel_rfl
  refine ssCons ?_ ?_
  refine stIf ?_ ?_ ?_
  refine sbBool ?_
  refine saAnd ?_ ?_
  refine sbCmp ?_ ?_ ?_
  refine sLoc 4 ?_ ?_ ?_
  kernel_rfl
  kernel_rfl
  kernel_rfl
  refine sStr
  kernel_rfl
  refine saAnd ?_ ?_
  refine sbCmp ?_ ?_ ?_
  refine sLoc 5 ?_ ?_ ?_
  kernel_rfl
  kernel_rfl
  kernel_rfl
  refine sStr
  kernel_rfl
  refine saAnd ?_ ?_
  refine sbCmp ?_ ?_ ?_
  refine sLoc 1 ?_ ?_ ?_
  kernel_rfl
  kernel_rfl
  kernel_rfl
  refine sLoc 2 ?_ ?_ ?_
  kernel_rfl
  kernel_rfl
  kernel_rfl
  kernel_rfl
  refine saAnd0
  refine ssCons ?_ ?_
  refine stRet ?_
  refine sBool
  refine ssNil
  refine ssNil
  refine ssCons ?_ ?_
  refine stIf ?_ ?_ ?_
  refine sbBool ?_
  refine saAnd ?_ ?_
  refine sbCmp ?_ ?_ ?_
  refine sLoc 4 ?_ ?_ ?_
  kernel_rfl
  kernel_rfl
  kernel_rfl
  refine sStr
  kernel_rfl
  refine saAnd ?_ ?_
  refine sbCmp ?_ ?_ ?_
  refine sLoc 5 ?_ ?_ ?_
  kernel_rfl
  kernel_rfl
  kernel_rfl
  refine sStr
  kernel_rfl
  refine saAnd0
  refine ssCons ?_ ?_
  refine stRet ?_
  refine sCall ?_ ?_ ?_ ?_
  refine sGlob (.ref 751) ?_ ?_ ?_
  kernel_rfl
  (intro c; refine c.mgAt ?_; intro _; kernel_rfl)
  kernel_rfl
  refine svCons ?_ ?_
  refine sLoc 0 ?_ ?_ ?_
  kernel_rfl
  kernel_rfl
  kernel_rfl
  refine svCons ?_ ?_
  refine sLoc 1 ?_ ?_ ?_
  kernel_rfl
  kernel_rfl
  kernel_rfl
  refine svCons ?_ ?_
  refine sLoc 2 ?_ ?_ ?_
  kernel_rfl
  kernel_rfl
  kernel_rfl
  refine svCons ?_ ?_
  refine sLoc 3 ?_ ?_ ?_
  kernel_rfl
  kernel_rfl
  kernel_rfl
  refine svNil
  kernel_rfl
  kernel_rfl
  refine ssNil
  refine ssNil
  refine ssCons ?_ ?_
  refine stRet ?_
  refine sCmp ?_ ?_ ?_
  refine sCall ?_ ?_ ?_ ?_
  refine sGlob (.ref 744) ?_ ?_ ?_
  kernel_rfl
  (intro c; refine c.mgAt ?_; intro _; kernel_rfl)
  kernel_rfl
  refine svCons ?_ ?_
  refine sLoc 0 ?_ ?_ ?_
  kernel_rfl
  kernel_rfl
  kernel_rfl
  refine svCons ?_ ?_
  refine sLoc 1 ?_ ?_ ?_
  kernel_rfl
  kernel_rfl
  kernel_rfl
  refine svCons ?_ ?_
  refine sLoc 2 ?_ ?_ ?_
  kernel_rfl
  kernel_rfl
  kernel_rfl
  refine svCons ?_ ?_
  refine sLoc 3 ?_ ?_ ?_
  kernel_rfl
  kernel_rfl
  kernel_rfl
  refine svNil
  kernel_rfl
  kernel_rfl
  refine sInt
  kernel_rfl
  refine ssNil
noncomputable def N__law_digit : List Str := [so "row", so "many", so "found"]
noncomputable def T__law_digit : ST := (tSeq (tAss (tBin .Mod (tSub (tLoc 0) (tInt 0)) (tLoc 1)) (gSlot 2)) (tSeq (tAss (tBin .FloorDiv (tSub (tLoc 0) (tInt 0)) (tLoc 1)) (gSub (tLoc 0) (tInt 0))) (tSeq (tRet (tLoc 2)) tNil)))
theorem S__law_digit : SimSs' d__law_digit.scope N__law_digit d__law_digit.body T__law_digit := by
  refine ssCons ?_ ?_
  refine stAss ?_ ?_ ?_ ?_
  refine sBin ?_ ?_
  refine sSub ?_ ?_
  refine sLoc 0 ?_ ?_ ?_
  kernel_rfl
  kernel_rfl
  kernel_rfl
  refine sInt
  refine sLoc 1 ?_ ?_ ?_
  kernel_rfl
  kernel_rfl
  kernel_rfl
  refine gLoc 2 ?_ ?_
  kernel_rfl
  kernel_rfl
  kernel_rfl
  kernel_rfl
  refine ssCons ?_ ?_
  refine stAss ?_ ?_ ?_ ?_
  refine sBin ?_ ?_
  refine sSub ?_ ?_
  refine sLoc 0 ?_ ?_ ?_
  kernel_rfl
  kernel_rfl
  kernel_rfl
  refine sInt
  refine sLoc 1 ?_ ?_ ?_
  kernel_rfl
  kernel_rfl
  kernel_rfl
  refine gSubs ?_ ?_
  refine sLoc 0 ?_ ?_ ?_
  kernel_rfl
  kernel_rfl
  kernel_rfl
  refine sInt
  kernel_rfl
  kernel_rfl
  refine ssCons ?_ ?_
  refine stRet ?_
  refine sLoc 2 ?_ ?_ ?_
  kernel_rfl
  kernel_rfl
  kernel_rfl
  refine ssNil
noncomputable def N__law_first : List Str := [so "inner", so "rows"]
noncomputable def T__law_first : ST := (tSeq (tAss (tTup (lCons (tStr (so "array")) (lCons (tTup (lCons (tTup (lCons (tInt 7) (lCons (tVal (.bool false)) (lCons (tTup (lCons (tStr (so "bool")) (lCons (tVal (.bool true)) lNil))) lNil)))) (lCons (tTup (lCons (tStr (so "k")) (lCons (tVal (.bool true)) (lCons (tTup (lCons (tStr (so "string")) (lCons (tStr (so "")) lNil))) lNil)))) lNil))) lNil))) (gSlot 0)) (tSeq (tAss (tTup (lCons (tTup (lCons (tInt 0) (lCons (tVal (.bool false)) (lCons (tTup (lCons (tStr (so "int")) (lCons (tInt 1) lNil))) lNil)))) (lCons (tTup (lCons (tStr (so "a")) (lCons (tVal (.bool true)) (lCons (tLoc 0) lNil)))) (lCons (tTup (lCons (tUn .USub (tInt 3)) (lCons (tVal (.bool false)) (lCons (tTup (lCons (tStr (so "object")) (lCons (tInt 0) lNil))) lNil)))) (lCons (tTup (lCons (tInt 5) (lCons (tVal (.bool false)) (lCons (tTup (lCons (tStr (so "null")) (lCons (tVal .none) lNil))) lNil)))) lNil))))) (gSlot 1)) (tSeq (tRet (tTup (lCons (tStr (so "array")) (lCons (tLoc 1) lNil)))) tNil)))
theorem S__law_first : SimSs' d__law_first.scope N__law_first d__law_first.body T__law_first := by
  refine ssCons ?_ ?_
  refine stAss ?_ ?_ ?_ ?_
  refine sTup ?_ ?_
  refine svCons ?_ ?_
  refine sStr
  refine svCons ?_ ?_
  refine sTup ?_ ?_
  refine svCons ?_ ?_
  refine sTup ?_ ?_
  refine svCons ?_ ?_
  refine sInt
  refine svCons ?_ ?_
  refine sBool
  refine svCons ?_ ?_
  refine sTup ?_ ?_
  refine svCons ?_ ?_
  refine sStr
  refine svCons ?_ ?_
  refine sBool
  refine svNil
  kernel_rfl
  refine svNil
  kernel_rfl
  refine svCons ?_ ?_
  refine sTup ?_ ?_
  refine svCons ?_ ?_
  refine sStr
  refine svCons ?_ ?_
  refine sBool
  refine svCons ?_ ?_
  refine sTup ?_ ?_
  refine svCons ?_ ?_
  refine sStr
  refine svCons ?_ ?_
  refine sStr
  refine svNil
  kernel_rfl
  refine svNil
  kernel_rfl
  refine svNil
  kernel_rfl
  refine svNil
  kernel_rfl
  refine gLoc 0 ?_ ?_
  kernel_rfl
  kernel_rfl
  kernel_rfl
  kernel_rfl
  refine ssCons ?_ ?_
  refine stAss ?_ ?_ ?_ ?_
  refine sTup ?_ ?_
  refine svCons ?_ ?_
  refine sTup ?_ ?_
  refine svCons ?_ ?_
  refine sInt
  refine svCons ?_ ?_
  refine sBool
  refine svCons ?_ ?_
  refine sTup ?_ ?_
  refine svCons ?_ ?_
  refine sStr
  refine svCons ?_ ?_
  refine sInt
  refine svNil
  kernel_rfl
  refine svNil
  kernel_rfl
  refine svCons ?_ ?_
  refine sTup ?_ ?_
  refine svCons ?_ ?_
  refine sStr
  refine svCons ?_ ?_
  refine sBool
  refine svCons ?_ ?_
  refine sLoc 0 ?_ ?_ ?_
  kernel_rfl
  kernel_rfl
  kernel_rfl
  refine svNil
  kernel_rfl
  refine svCons ?_ ?_
  refine sTup ?_ ?_
  refine svCons ?_ ?_
  refine sUn ?_
  refine sInt
  refine svCons ?_ ?_
  refine sBool
  refine svCons ?_ ?_
  refine sTup ?_ ?_
  refine svCons ?_ ?_
  refine sStr
  refine svCons ?_ ?_
  refine sInt
  refine svNil
  kernel_rfl
  refine svNil
  kernel_rfl
  refine svCons ?_ ?_
  refine sTup ?_ ?_
  refine svCons ?_ ?_
  refine sInt
  refine svCons ?_ ?_
  refine sBool
  refine svCons ?_ ?_
  refine sTup ?_ ?_
  refine svCons ?_ ?_
  refine sStr
  refine svCons ?_ ?_
  refine sNone
  refine svNil
  kernel_rfl
  refine svNil
  kernel_rfl
  refine svNil
  kernel_rfl
  refine gLoc 1 ?_ ?_
  kernel_rfl
  kernel_rfl
  kernel_rfl
  kernel_rfl
  refine ssCons ?_ ?_
  refine stRet ?_
  refine sTup ?_ ?_
  refine svCons ?_ ?_
  refine sStr
  refine svCons ?_ ?_
  refine sLoc 1 ?_ ?_ ?_
  kernel_rfl
  kernel_rfl
  kernel_rfl
  refine svNil
  kernel_rfl
  refine ssNil
noncomputable def N__law_word : List Str := [so "form"]
noncomputable def T__law_word : ST := (tSeq (tRet (tIte (bCmp .NotEq (tSub (tLoc 0) (tInt 0)) (tStr (so "int"))) (tMeth (tDic (pCons (tStr (so "null")) (tStr (so "")) (pCons (tStr (so "bool")) (tStr (so "1")) (pCons (tStr (so "int")) (tStr (so "12")) pNil)))) (so "get") (lCons (tSub (tLoc 0) (tInt 0)) (lCons (tStr (so "x")) lNil))) (tCall (tVal (.type "str")) (lCons (tSub (tLoc 0) (tInt 1)) lNil)))) tNil)
theorem S__law_word : SimSs' d__law_word.scope N__law_word d__law_word.body T__law_word := by
  refine ssCons ?_ ?_
  refine stRet ?_
  refine sIte ?_ ?_ ?_
  refine sbCmp ?_ ?_ ?_
  refine sSub ?_ ?_
  refine sLoc 0 ?_ ?_ ?_
  kernel_rfl
  kernel_rfl
  kernel_rfl
  refine sInt
  refine sStr
  kernel_rfl
  refine sMeth ?_ ?_ ?_ ?_ ?_ ?_
  refine sDic ?_ ?_
  refine spCons ?_ ?_ ?_
  refine sStr
  refine sStr
  refine spCons ?_ ?_ ?_
  refine sStr
  refine sStr
  refine spCons ?_ ?_ ?_
  refine sStr
  refine sStr
  refine spNil
  kernel_rfl
  refine svCons ?_ ?_
  refine sSub ?_ ?_
  refine sLoc 0 ?_ ?_ ?_
  kernel_rfl
  kernel_rfl
  kernel_rfl
  refine sInt
  refine svCons ?_ ?_
  refine sStr
  refine svNil
  kernel_rfl
  kernel_rfl
  decide
  kernel_rfl
  refine sCall ?_ ?_ ?_ ?_
  refine sBlt (.type "str") ?_ ?_ ?_ ?_ ?_
  kernel_rfl
  (intro c; refine c.mgNo ?_; intro _; kernel_rfl)
  kernel_rfl
  decide
  kernel_rfl
  refine svCons ?_ ?_
  refine sSub ?_ ?_
  refine sLoc 0 ?_ ?_ ?_
  kernel_rfl
  kernel_rfl
  kernel_rfl
  refine sInt
  refine svNil
  kernel_rfl
  kernel_rfl
  refine ssNil
noncomputable def N__law_leaf : List Str := [so "row", so "form", so "way", so "looks"]
noncomputable def T__law_leaf : ST := (tSeq (tAss (tCall (tVal (.ref 766)) (lCons (tLoc 0) (lCons (tInt 8) lNil))) (gSlot 2)) (tSeq (tAss (tIte (bCmp .NotEq (tSub (tLoc 1) (tInt 0)) (tStr (so "object"))) (tCmp .NotIn (tSub (tLoc 1) (tInt 1)) (tTup (lCons (tVal .none) (lCons (tVal (.bool false)) (lCons (tInt 0) (lCons (tStr (so "")) lNil)))))) (tVal (.bool true))) (gSlot 3)) (tSeq (tIf (bAnd (bCmp .Eq (tLoc 2) (tInt 0)) (bAnd (bCmp .NotEq (tSub (tLoc 1) (tInt 0)) (tStr (so "object"))) bTrue)) (tSeq (tRet (tTup (lCons (tStr (so "string")) (lCons (tCall (tVal (.ref 780)) (lCons (tLoc 1) lNil)) lNil)))) tNil) tNil) (tSeq (tIf (bCmp .Eq (tLoc 2) (tInt 1)) (tSeq (tRet (tTup (lCons (tStr (so "bool")) (lCons (tLoc 3) lNil)))) tNil) tNil) (tSeq (tIf (bCmp .Eq (tLoc 2) (tInt 2)) (tSeq (tRet (tTup (lCons (tStr (so "null")) (lCons (tVal .none) lNil)))) tNil) tNil) (tSeq (tIf (bCmp .Eq (tLoc 2) (tInt 3)) (tSeq (tRet (tIte (bCmp .Eq (tSub (tLoc 1) (tInt 0)) (tStr (so "int"))) (tTup (lCons (tStr (so "int")) (lCons (tBin .Add (tSub (tLoc 1) (tInt 1)) (tInt 1)) lNil))) (tTup (lCons (tStr (so "int")) (lCons (tIte (bVal (tLoc 3)) (tInt 1) (tInt 0)) lNil))))) tNil) tNil) (tSeq (tIf (bCmp .Eq (tLoc 2) (tInt 4)) (tSeq (tRet (tTup (lCons (tStr (so "array")) (lCons (tTup (lCons (tTup (lCons (tInt 0) (lCons (tVal (.bool false)) (lCons (tLoc 1) lNil)))) lNil)) lNil)))) tNil) tNil) (tSeq (tIf (bCmp .Eq (tLoc 2) (tInt 5)) (tSeq (tRet (tTup (lCons (tStr (so "object")) (lCons (tCall (tVal (.ref 766)) (lCons (tLoc 0) (lCons (tInt 2) lNil))) lNil)))) tNil) tNil) (tSeq (tRet (tIte (bCmp .Eq (tLoc 2) (tInt 6)) (tTup (lCons (tStr (so "array")) (lCons (tTup lNil) lNil))) (tLoc 1))) tNil)))))))))
theorem S__law_leaf : SimSs' d__law_leaf.scope N__law_leaf d__law_leaf.body T__law_leaf := by
  refine ssCons ?_ ?_
  refine stAss ?_ ?_ ?_ ?_
  refine sCall ?_ ?_ ?_ ?_
  refine sGlob (.ref 766) ?_ ?_ ?_
  kernel_rfl
  (intro c; refine c.mgAt ?_; intro _; kernel_rfl)
  kernel_rfl
  refine svCons ?_ ?_
  refine sLoc 0 ?_ ?_ ?_
  kernel_rfl
  kernel_rfl
  kernel_rfl
  refine svCons ?_ ?_
  refine sInt
  refine svNil
  kernel_rfl
  kernel_rfl
  refine gLoc 2 ?_ ?_
  kernel_rfl
  kernel_rfl
  kernel_rfl
  kernel_rfl
  refine ssCons ?_ ?_
  refine stAss ?_ ?_ ?_ ?_
  refine sIte ?_ ?_ ?_
  refine sbCmp ?_ ?_ ?_
  refine sSub ?_ ?_
  refine sLoc 1 ?_ ?_ ?_
  kernel_rfl
  kernel_rfl
  kernel_rfl
  refine sInt
  refine sStr
  kernel_rfl
  refine sCmp ?_ ?_ ?_
  refine sSub ?_ ?_
  refine sLoc 1 ?_ ?_ ?_
  kernel_rfl
  kernel_rfl
  kernel_rfl
  refine sInt
  refine sTup ?_ ?_
  refine svCons ?_ ?_
  refine sNone
  refine svCons ?_ ?_
  refine sBool
  refine svCons ?_ ?_
  refine sInt
  refine svCons ?_ ?_
  refine sStr
  refine svNil
  kernel_rfl
  kernel_rfl
  refine sBool
  refine gLoc 3 ?_ ?_
  kernel_rfl
  kernel_rfl
  kernel_rfl
  kernel_rfl
  refine ssCons ?_ ?_
  refine stIf ?_ ?_ ?_
  refine sbBool ?_
  refine saAnd ?_ ?_
  refine sbCmp ?_ ?_ ?_
  refine sLoc 2 ?_ ?_ ?_
  kernel_rfl
  kernel_rfl
  kernel_rfl
  refine sInt
  kernel_rfl
  refine saAnd ?_ ?_
  refine sbCmp ?_ ?_ ?_
  refine sSub ?_ ?_
  refine sLoc 1 ?_ ?_ ?_
  kernel_rfl
  kernel_rfl
  kernel_rfl
  refine sInt
  refine sStr
  kernel_rfl
  refine saAnd0
  refine ssCons ?_ ?_
  refine stRet ?_
  refine sTup ?_ ?_
  refine svCons ?_ ?_
  refine sStr
  refine svCons ?_ ?_
  refine sCall ?_ ?_ ?_ ?_
  refine sGlob (.ref 780) ?_ ?_ ?_
  kernel_rfl
  (intro c; refine c.mgAt ?_; intro _; kernel_rfl)
  kernel_rfl
  refine svCons ?_ ?_
  refine sLoc 1 ?_ ?_ ?_
  kernel_rfl
  kernel_rfl
  kernel_rfl
  refine svNil
  kernel_rfl
  kernel_rfl
  refine svNil
  kernel_rfl
  refine ssNil
  refine ssNil
  refine ssCons ?_ ?_
  refine stIf ?_ ?_ ?_
  refine sbCmp ?_ ?_ ?_
  refine sLoc 2 ?_ ?_ ?_
  kernel_rfl
  kernel_rfl
  kernel_rfl
  refine sInt
  kernel_rfl
  refine ssCons ?_ ?_
  refine stRet ?_
  refine sTup ?_ ?_
  refine svCons ?_ ?_
  refine sStr
  refine svCons ?_ ?_
  refine sLoc 3 ?_ ?_ ?_
  kernel_rfl
  kernel_rfl
  kernel_rfl
  refine svNil
  kernel_rfl
  refine ssNil
  refine ssNil
  refine ssCons ?_ ?_
  refine stIf ?_ ?_ ?_
  refine sbCmp ?_ ?_ ?_
  refine sLoc 2 ?_ ?_ ?_
  kernel_rfl
  kernel_rfl
  kernel_rfl
  refine sInt
  kernel_rfl
  refine ssCons ?_ ?_
  refine stRet ?_
  refine sTup ?_ ?_
  refine svCons ?_ ?_
  refine sStr
  refine svCons ?_ ?_
  refine sNone
  refine svNil
  kernel_rfl
  refine ssNil
  refine ssNil
  refine ssCons ?_ ?_
  refine stIf ?_ ?_ ?_
  refine sbCmp ?_ ?_ ?_
  refine sLoc 2 ?_ ?_ ?_
  kernel_rfl
  kernel_rfl
  kernel_rfl
  refine sInt
  kernel_rfl
  refine ssCons ?_ ?_
  refine stRet ?_
  refine sIte ?_ ?_ ?_
  refine sbCmp ?_ ?_ ?_
  refine sSub ?_ ?_
  refine sLoc 1 ?_ ?_ ?_
  kernel_rfl
  kernel_rfl
  kernel_rfl
  refine sInt
  refine sStr
  kernel_rfl
  refine sTup ?_ ?_
  refine svCons ?_ ?_
  refine sStr
  refine svCons ?_ ?_
  refine sBin ?_ ?_
  refine sSub ?_ ?_
  refine sLoc 1 ?_ ?_ ?_
  kernel_rfl
  kernel_rfl
  kernel_rfl
  refine sInt
  refine sInt
  refine svNil
  kernel_rfl
  refine sTup ?_ ?_
  refine svCons ?_ ?_
  refine sStr
  refine svCons ?_ ?_
  refine sIte ?_ ?_ ?_
  refine sbVal ?_ ?_
  refine sLoc 3 ?_ ?_ ?_
  kernel_rfl
  kernel_rfl
  kernel_rfl
  (intro _ _; rfl)
  refine sInt
  refine sInt
  refine svNil
  kernel_rfl
  refine ssNil
  refine ssNil
  refine ssCons ?_ ?_
  refine stIf ?_ ?_ ?_
  refine sbCmp ?_ ?_ ?_
  refine sLoc 2 ?_ ?_ ?_
  kernel_rfl
  kernel_rfl
  kernel_rfl
  refine sInt
  kernel_rfl
  refine ssCons ?_ ?_
  refine stRet ?_
  refine sTup ?_ ?_
  refine svCons ?_ ?_
  refine sStr
  refine svCons ?_ ?_
  refine sTup ?_ ?_
  refine svCons ?_ ?_
  refine sTup ?_ ?_
  refine svCons ?_ ?_
  refine sInt
  refine svCons ?_ ?_
  refine sBool
  refine svCons ?_ ?_
  refine sLoc 1 ?_ ?_ ?_
  kernel_rfl
  kernel_rfl
  kernel_rfl
  refine svNil
  kernel_rfl
  refine svNil
  kernel_rfl
  refine svNil
  kernel_rfl
  refine ssNil
  refine ssNil
  refine ssCons ?_ ?_
  refine stIf ?_ ?_ ?_
  refine sbCmp ?_ ?_ ?_
  refine sLoc 2 ?_ ?_ ?_
  kernel_rfl
  kernel_rfl
  kernel_rfl
  refine sInt
  kernel_rfl
  refine ssCons ?_ ?_
  refine stRet ?_
  refine sTup ?_ ?_
  refine svCons ?_ ?_
  refine sStr
  refine svCons ?_ ?_
  refine sCall ?_ ?_ ?_ ?_
  refine sGlob (.ref 766) ?_ ?_ ?_
  kernel_rfl
  (intro c; refine c.mgAt ?_; intro _; kernel_rfl)
  kernel_rfl
  refine svCons ?_ ?_
  refine sLoc 0 ?_ ?_ ?_
  kernel_rfl
  kernel_rfl
  kernel_rfl
  refine svCons ?_ ?_
  refine sInt
  refine svNil
  kernel_rfl
  kernel_rfl
  refine svNil
  kernel_rfl
  refine ssNil
  refine ssNil
  refine ssCons ?_ ?_
  refine stRet ?_
  refine sIte ?_ ?_ ?_
  refine sbCmp ?_ ?_ ?_
  refine sLoc 2 ?_ ?_ ?_
  kernel_rfl
  kernel_rfl
  kernel_rfl
  refine sInt
  kernel_rfl
  refine sTup ?_ ?_
  refine svCons ?_ ?_
  refine sStr
  refine svCons ?_ ?_
  refine sTup ?_ ?_
  refine svNil
  kernel_rfl
  refine svNil
  kernel_rfl
  refine sLoc 1 ?_ ?_ ?_
  kernel_rfl
  kernel_rfl
  kernel_rfl
  refine ssNil
noncomputable def N__law_turned : List Str := [so "row", so "form", so "depth", so "rows", so "way", so "at", so "key", so "is_ref", so "inner", so "keys"]
noncomputable def T__law_turned : ST := (tSeq (tIf (bOr (bCmp .NotEq (tSub (tLoc 1) (tInt 0)) (tStr (so "array"))) (bOr (bCmp .Eq (tSub (tLoc 1) (tInt 1)) (tTup lNil)) bFalse)) (tSeq (tRet (tCall (tVal (.ref 787)) (lCons (tLoc 0) (lCons (tLoc 1) lNil)))) tNil) tNil) (tSeq (tSw2 (tTup (lCons (tCall (tVal (.type "list")) (lCons (tSub (tLoc 1) (tInt 1)) lNil)) (lCons (tCall (tVal (.ref 766)) (lCons (tLoc 0) (lCons (tInt 6) lNil))) lNil))) 3 4) (tSeq (tAss (tCall (tVal (.ref 766)) (lCons (tLoc 0) (lCons (tCall (tVal (.builtin "len")) (lCons (tLoc 3) lNil)) lNil))) (gSlot 5)) (tSeq (tAss (tSub (tLoc 3) (tLoc 5)) (gTup 3 (gCons (gSlot 6) (gCons (gSlot 7) (gCons (gSlot 8) gNil))))) (tSeq (tIf (bCmp .Eq (tLoc 4) (tInt 0)) (tSeq (tAss (tBin .Add (tSub (tLoc 3) (tSlc (tLoc 5) (tVal .none) (tVal .none))) (tSub (tLoc 3) (tSlc (tVal .none) (tLoc 5) (tVal .none)))) (gSlot 3)) tNil) (tSeq (tIf (bCmp .Eq (tLoc 4) (tInt 1)) (tSeq (tExp (tMeth (tLoc 3) (so "pop") (lCons (tLoc 5) lNil))) tNil) (tSeq (tIf (bCmp .Eq (tLoc 4) (tInt 2)) (tSeq (tAss (tComp 0 (tLoc 3) (gSlot 0) bTrue (tSub (tLoc 0) (tInt 0)) 1 []) (gSlot 9)) (tSeq (tAss (tTup (lCons (tSub (tComp 0 (tLst (lCons (tInt 9) (lCons (tStr (so "9a")) (lCons (tInt 10) (lCons (tStr (so "b")) (lCons (tInt 11) lNil)))))) (gSlot 0) (bCmp .NotIn (tLoc 0) (tLoc 1)) (tLoc 0) 1 [9]) (tInt 0)) (lCons (tLoc 7) (lCons (tLoc 8) lNil)))) (gSub (tLoc 3) (tLoc 5))) tNil)) (tSeq (tIf (bCmp .Eq (tLoc 4) (tInt 3)) (tSeq (tAss (tTup (lCons (tLoc 6) (lCons (tUn .Not (tLoc 7)) (lCons (tLoc 8) lNil)))) (gSub (tLoc 3) (tLoc 5))) tNil) (tSeq (tIf (bCmp .Gt (tLoc 2) (tInt 0)) (tSeq (tAss (tTup (lCons (tLoc 6) (lCons (tLoc 7) (lCons (tCall (tVal (.ref 792)) (lCons (tLoc 0) (lCons (tLoc 8) (lCons (tBin .Sub (tLoc 2) (tInt 1)) lNil)))) lNil)))) (gSub (tLoc 3) (tLoc 5))) tNil) tNil) tNil)) tNil)) tNil)) tNil)) (tSeq (tRet (tTup (lCons (tStr (so "array")) (lCons (tCall (tVal (.type "tuple")) (lCons (tLoc 3) lNil)) lNil)))) tNil))))))
theorem S__law_turned : SimSs' d__law_turned.scope N__law_turned d__law_turned.body T__law_turned := by
  refine ssCons ?_ ?_
  refine stIf ?_ ?_ ?_
  refine sbBool ?_
  refine saOr ?_ ?_
  refine sbCmp ?_ ?_ ?_
  refine sSub ?_ ?_
  refine sLoc 1 ?_ ?_ ?_
  kernel_rfl
  kernel_rfl
  kernel_rfl
  refine sInt
  refine sStr
  kernel_rfl
  refine saOr ?_ ?_
  refine sbCmp ?_ ?_ ?_
  refine sSub ?_ ?_
  refine sLoc 1 ?_ ?_ ?_
  kernel_rfl
  kernel_rfl
  kernel_rfl
  refine sInt
  refine sTup ?_ ?_
  refine svNil
  kernel_rfl
  kernel_rfl
  refine saOr0
  refine ssCons ?_ ?_
  refine stRet ?_
  refine sCall ?_ ?_ ?_ ?_
  refine sGlob (.ref 787) ?_ ?_ ?_
  kernel_rfl
  (intro c; refine c.mgAt ?_; intro _; kernel_rfl)
  kernel_rfl
  refine svCons ?_ ?_
  refine sLoc 0 ?_ ?_ ?_
  kernel_rfl
  kernel_rfl
  kernel_rfl
  refine svCons ?_ ?_
  refine sLoc 1 ?_ ?_ ?_
  kernel_rfl
  kernel_rfl
  kernel_rfl
  refine svNil
  kernel_rfl
  kernel_rfl
  refine ssNil
  refine ssNil
  refine ssCons ?_ ?_
  refine stSw2 (x := so "rows") (y := so "way") 3 4 ?_ ?_ ?_ ?_ ?_ ?_
  refine sTup ?_ ?_
  refine svCons ?_ ?_
  refine sCall ?_ ?_ ?_ ?_
  refine sBlt (.type "list") ?_ ?_ ?_ ?_ ?_
  kernel_rfl
  (intro c; refine c.mgNo ?_; intro _; kernel_rfl)
  kernel_rfl
  decide
  kernel_rfl
  refine svCons ?_ ?_
  refine sSub ?_ ?_
  refine sLoc 1 ?_ ?_ ?_
  kernel_rfl
  kernel_rfl
  kernel_rfl
  refine sInt
  refine svNil
  kernel_rfl
  kernel_rfl
  refine svCons ?_ ?_
  refine sCall ?_ ?_ ?_ ?_
  refine sGlob (.ref 766) ?_ ?_ ?_
  kernel_rfl
  (intro c; refine c.mgAt ?_; intro _; kernel_rfl)
  kernel_rfl
  refine svCons ?_ ?_
  refine sLoc 0 ?_ ?_ ?_
  kernel_rfl
  kernel_rfl
  kernel_rfl
  refine svCons ?_ ?_
  refine sInt
  refine svNil
  kernel_rfl
  kernel_rfl
  refine svNil
  kernel_rfl
  kernel_rfl
  kernel_rfl
  kernel_rfl
  kernel_rfl
  kernel_rfl
  refine ssCons ?_ ?_
  refine stAss ?_ ?_ ?_ ?_
  refine sCall ?_ ?_ ?_ ?_
  refine sGlob (.ref 766) ?_ ?_ ?_
  kernel_rfl
  (intro c; refine c.mgAt ?_; intro _; kernel_rfl)
  kernel_rfl
  refine svCons ?_ ?_
  refine sLoc 0 ?_ ?_ ?_
  kernel_rfl
  kernel_rfl
  kernel_rfl
  refine svCons ?_ ?_
  refine sCall ?_ ?_ ?_ ?_
  refine sBlt (.builtin "len") ?_ ?_ ?_ ?_ ?_
  kernel_rfl
  (intro c; refine c.mgNo ?_; intro _; kernel_rfl)
  kernel_rfl
  decide
  kernel_rfl
  refine svCons ?_ ?_
  refine sLoc 3 ?_ ?_ ?_
  kernel_rfl
  kernel_rfl
  kernel_rfl
  refine svNil
  kernel_rfl
  kernel_rfl
  refine svNil
  kernel_rfl
  kernel_rfl
  refine gLoc 5 ?_ ?_
  kernel_rfl
  kernel_rfl
  kernel_rfl
  kernel_rfl
  refine ssCons ?_ ?_
  refine stAssT ?_ ?_ ?_ ?_
  refine sSub ?_ ?_
  refine sLoc 3 ?_ ?_ ?_
  kernel_rfl
  kernel_rfl
  kernel_rfl
  refine sLoc 5 ?_ ?_ ?_
  kernel_rfl
  kernel_rfl
  kernel_rfl
  refine gTuple ?_ ?_
  refine gsCons ?_ ?_ ?_
  refine gLoc 6 ?_ ?_
  kernel_rfl
  kernel_rfl
  refine gsCons ?_ ?_ ?_
  refine gLoc 7 ?_ ?_
  kernel_rfl
  kernel_rfl
  refine gsCons ?_ ?_ ?_
  refine gLoc 8 ?_ ?_
  kernel_rfl
  kernel_rfl
  refine gsNil
  kernel_rfl
  kernel_rfl
  kernel_rfl
  kernel_rfl
  kernel_rfl
  (intro _ _; rfl)
  refine ssCons ?_ ?_
  refine stIf ?_ ?_ ?_
  refine sbCmp ?_ ?_ ?_
  refine sLoc 4 ?_ ?_ ?_
  kernel_rfl
  kernel_rfl
  kernel_rfl
  refine sInt
  kernel_rfl
  refine ssCons ?_ ?_
  refine stAss ?_ ?_ ?_ ?_
  refine sBin ?_ ?_
  refine sSub ?_ ?_
  refine sLoc 3 ?_ ?_ ?_
  kernel_rfl
  kernel_rfl
  kernel_rfl
  refine sSlc ?_ ?_ ?_
  refine soSome ?_
  refine sLoc 5 ?_ ?_ ?_
  kernel_rfl
  kernel_rfl
  kernel_rfl
  refine soNone
  refine soNone
  refine sSub ?_ ?_
  refine sLoc 3 ?_ ?_ ?_
  kernel_rfl
  kernel_rfl
  kernel_rfl
  refine sSlc ?_ ?_ ?_
  refine soNone
  refine soSome ?_
  refine sLoc 5 ?_ ?_ ?_
  kernel_rfl
  kernel_rfl
  kernel_rfl
  refine soNone
  refine gLoc 3 ?_ ?_
  kernel_rfl
  kernel_rfl
  kernel_rfl
  kernel_rfl
  refine ssNil
  refine ssCons ?_ ?_
  refine stIf ?_ ?_ ?_
  refine sbCmp ?_ ?_ ?_
  refine sLoc 4 ?_ ?_ ?_
  kernel_rfl
  kernel_rfl
  kernel_rfl
  refine sInt
  kernel_rfl
  refine ssCons ?_ ?_
  refine stExp ?_ ?_
  refine sMeth ?_ ?_ ?_ ?_ ?_ ?_
  refine sLoc 3 ?_ ?_ ?_
  kernel_rfl
  kernel_rfl
  kernel_rfl
  refine svCons ?_ ?_
  refine sLoc 5 ?_ ?_ ?_
  kernel_rfl
  kernel_rfl
  kernel_rfl
  refine svNil
  kernel_rfl
  kernel_rfl
  decide
  kernel_rfl
  kernel_rfl
  refine ssNil
  refine ssCons ?_ ?_
  refine stIf ?_ ?_ ?_
  refine sbCmp ?_ ?_ ?_
  refine sLoc 4 ?_ ?_ ?_
  kernel_rfl
  kernel_rfl
  kernel_rfl
  refine sInt
  kernel_rfl
  refine ssCons ?_ ?_
  refine stAssK ?_ ?_ ?_
  refine sComp (own := [so "one"]) (fr := []) (fi := []) ?_ ?_ ?_ ?_ ?_ ?_ ?_
  kernel_rfl
  refine sLoc 3 ?_ ?_ ?_
  kernel_rfl
  kernel_rfl
  kernel_rfl
  refine gcLoc 0 ?_ ?_
  kernel_rfl
  kernel_rfl
  refine siNil
  refine sSub ?_ ?_
  refine sLoc 0 ?_ ?_ ?_
  kernel_rfl
  kernel_rfl
  kernel_rfl
  refine sInt
  (intro _ _; rfl)
  kernel_rfl
  refine gCell 9 ?_ ?_
  kernel_rfl
  kernel_rfl
  kernel_rfl
  refine ssCons ?_ ?_
  refine stAss ?_ ?_ ?_ ?_
  refine sTup ?_ ?_
  refine svCons ?_ ?_
  refine sSub ?_ ?_
  refine sComp (own := [so "k"]) (fr := [so "keys"]) (fi := [9]) ?_ ?_ ?_ ?_ ?_ ?_ ?_
  kernel_rfl
  refine sLst ?_ ?_
  refine svCons ?_ ?_
  refine sInt
  refine svCons ?_ ?_
  refine sStr
  refine svCons ?_ ?_
  refine sInt
  refine svCons ?_ ?_
  refine sStr
  refine svCons ?_ ?_
  refine sInt
  refine svNil
  kernel_rfl
  refine gcLoc 0 ?_ ?_
  kernel_rfl
  kernel_rfl
  refine siOne ?_
  refine sbCmp ?_ ?_ ?_
  refine sLoc 0 ?_ ?_ ?_
  kernel_rfl
  kernel_rfl
  kernel_rfl
  refine sCell 1 ?_ ?_ ?_
  kernel_rfl
  kernel_rfl
  kernel_rfl
  kernel_rfl
  refine sLoc 0 ?_ ?_ ?_
  kernel_rfl
  kernel_rfl
  kernel_rfl
  (intro _ _; rfl)
  kernel_rfl
  refine sInt
  refine svCons ?_ ?_
  refine sLoc 7 ?_ ?_ ?_
  kernel_rfl
  kernel_rfl
  kernel_rfl
  refine svCons ?_ ?_
  refine sLoc 8 ?_ ?_ ?_
  kernel_rfl
  kernel_rfl
  kernel_rfl
  refine svNil
  kernel_rfl
  refine gSubs ?_ ?_
  refine sLoc 3 ?_ ?_ ?_
  kernel_rfl
  kernel_rfl
  kernel_rfl
  refine sLoc 5 ?_ ?_ ?_
  kernel_rfl
  kernel_rfl
  kernel_rfl
  kernel_rfl
  kernel_rfl
  refine ssNil
  refine ssCons ?_ ?_
  refine stIf ?_ ?_ ?_
  refine sbCmp ?_ ?_ ?_
  refine sLoc 4 ?_ ?_ ?_
  kernel_rfl
  kernel_rfl
  kernel_rfl
  refine sInt
  kernel_rfl
  refine ssCons ?_ ?_
  refine stAss ?_ ?_ ?_ ?_
  refine sTup ?_ ?_
  refine svCons ?_ ?_
  refine sLoc 6 ?_ ?_ ?_
  kernel_rfl
  kernel_rfl
  kernel_rfl
  refine svCons ?_ ?_
  refine sUn ?_
  refine sLoc 7 ?_ ?_ ?_
  kernel_rfl
  kernel_rfl
  kernel_rfl
  refine svCons ?_ ?_
  refine sLoc 8 ?_ ?_ ?_
  kernel_rfl
  kernel_rfl
  kernel_rfl
  refine svNil
  kernel_rfl
  refine gSubs ?_ ?_
  refine sLoc 3 ?_ ?_ ?_
  kernel_rfl
  kernel_rfl
  kernel_rfl
  refine sLoc 5 ?_ ?_ ?_
  kernel_rfl
  kernel_rfl
  kernel_rfl
  kernel_rfl
  kernel_rfl
  refine ssNil
  refine ssCons ?_ ?_
  refine stIf ?_ ?_ ?_
  refine sbCmp ?_ ?_ ?_
  refine sLoc 2 ?_ ?_ ?_
  kernel_rfl
  kernel_rfl
  kernel_rfl
  refine sInt
  kernel_rfl
  refine ssCons ?_ ?_
  refine stAss ?_ ?_ ?_ ?_
  refine sTup ?_ ?_
  refine svCons ?_ ?_
  refine sLoc 6 ?_ ?_ ?_
  kernel_rfl
  kernel_rfl
  kernel_rfl
  refine svCons ?_ ?_
  refine sLoc 7 ?_ ?_ ?_
  kernel_rfl
  kernel_rfl
  kernel_rfl
  refine svCons ?_ ?_
  refine sCall ?_ ?_ ?_ ?_
  refine sGlob (.ref 792) ?_ ?_ ?_
  kernel_rfl
  (intro c; refine c.mgAt ?_; intro _; kernel_rfl)
  kernel_rfl
  refine svCons ?_ ?_
  refine sLoc 0 ?_ ?_ ?_
  kernel_rfl
  kernel_rfl
  kernel_rfl
  refine svCons ?_ ?_
  refine sLoc 8 ?_ ?_ ?_
  kernel_rfl
  kernel_rfl
  kernel_rfl
  refine svCons ?_ ?_
  refine sBin ?_ ?_
  refine sLoc 2 ?_ ?_ ?_
  kernel_rfl
  kernel_rfl
  kernel_rfl
  refine sInt
  refine svNil
  kernel_rfl
  kernel_rfl
  refine svNil
  kernel_rfl
  refine gSubs ?_ ?_
  refine sLoc 3 ?_ ?_ ?_
  kernel_rfl
  kernel_rfl
  kernel_rfl
  refine sLoc 5 ?_ ?_ ?_
  kernel_rfl
  kernel_rfl
  kernel_rfl
  kernel_rfl
  kernel_rfl
  refine ssNil
  refine ssNil
  refine ssNil
  refine ssNil
  refine ssNil
  refine ssNil
  refine ssCons ?_ ?_
  refine stRet ?_
  refine sTup ?_ ?_
  refine svCons ?_ ?_
  refine sStr
  refine svCons ?_ ?_
  refine sCall ?_ ?_ ?_ ?_
  refine sBlt (.type "tuple") ?_ ?_ ?_ ?_ ?_
  kernel_rfl
  (intro c; refine c.mgNo ?_; intro _; kernel_rfl)
  kernel_rfl
  decide
  kernel_rfl
  refine svCons ?_ ?_
  refine sLoc 3 ?_ ?_ ?_
  kernel_rfl
  kernel_rfl
  kernel_rfl
  refine svNil
  kernel_rfl
  kernel_rfl
  refine svNil
  kernel_rfl
  refine ssNil
noncomputable def N__law_made : List Str := [so "objects", so "form", so "pairs", so "key", so "is_ref", so "inner", so "thing"]
noncomputable def T__law_made : ST := (tSeq (tIf (bCmp .Eq (tSub (tLoc 1) (tInt 0)) (tStr (so "object"))) (tSeq (tRet (tSub (tLoc 0) (tSub (tLoc 1) (tInt 1)))) tNil) tNil) (tSeq (tIf (bCmp .NotEq (tSub (tLoc 1) (tInt 0)) (tStr (so "array"))) (tSeq (tRet (tSub (tLoc 1) (tInt 1))) tNil) tNil) (tSeq (tAss (tLst lNil) (gSlot 2)) (tSeq (tFor (tSub (tLoc 1) (tInt 1)) 1 (gTup 3 (gCons (gSlot 3) (gCons (gSlot 4) (gCons (gSlot 5) gNil)))) (tSeq (tAss (tCall (tVal (.ref 799)) (lCons (tLoc 0) (lCons (tLoc 5) lNil))) (gSlot 6)) (tSeq (tExp (tMeth (tLoc 2) (so "append") (lCons (tTup (lCons (tLoc 3) (lCons (tIte (bVal (tLoc 4)) (tCall (tVal (.ref 125)) (lCons (tLoc 6) lNil)) (tLoc 6)) lNil))) lNil))) tNil))) (tSeq (tRet (tCall (tVal (.ref 349)) (lCons (tLoc 2) lNil))) tNil)))))
theorem S__law_made : SimSs' d__law_made.scope N__law_made d__law_made.body T__law_made := by
  refine ssCons ?_ ?_
  refine stIf ?_ ?_ ?_
  refine sbCmp ?_ ?_ ?_
  refine sSub ?_ ?_
  refine sLoc 1 ?_ ?_ ?_
  kernel_rfl
  kernel_rfl
  kernel_rfl
  refine sInt
  refine sStr
  kernel_rfl
  refine ssCons ?_ ?_
  refine stRet ?_
  refine sSub ?_ ?_
  refine sLoc 0 ?_ ?_ ?_
  kernel_rfl
  kernel_rfl
  kernel_rfl
  refine sSub ?_ ?_
  refine sLoc 1 ?_ ?_ ?_
  kernel_rfl
  kernel_rfl
  kernel_rfl
  refine sInt
  refine ssNil
  refine ssNil
  refine ssCons ?_ ?_
  refine stIf ?_ ?_ ?_
  refine sbCmp ?_ ?_ ?_
  refine sSub ?_ ?_
  refine sLoc 1 ?_ ?_ ?_
  kernel_rfl
  kernel_rfl
  kernel_rfl
  refine sInt
  refine sStr
  kernel_rfl
  refine ssCons ?_ ?_
  refine stRet ?_
  refine sSub ?_ ?_
  refine sLoc 1 ?_ ?_ ?_
  kernel_rfl
  kernel_rfl
  kernel_rfl
  refine sInt
  refine ssNil
  refine ssNil
  refine ssCons ?_ ?_
  refine stAss ?_ ?_ ?_ ?_
  refine sLst ?_ ?_
  refine svNil
  kernel_rfl
  refine gLoc 2 ?_ ?_
  kernel_rfl
  kernel_rfl
  kernel_rfl
  kernel_rfl
  refine ssCons ?_ ?_
  refine stFor ?_ ?_ ?_ ?_ ?_
  refine sSub ?_ ?_
  refine sLoc 1 ?_ ?_ ?_
  kernel_rfl
  kernel_rfl
  kernel_rfl
  refine sInt
  refine gTuple ?_ ?_
  refine gsCons ?_ ?_ ?_
  refine gLoc 3 ?_ ?_
  kernel_rfl
  kernel_rfl
  refine gsCons ?_ ?_ ?_
  refine gLoc 4 ?_ ?_
  kernel_rfl
  kernel_rfl
  refine gsCons ?_ ?_ ?_
  refine gLoc 5 ?_ ?_
  kernel_rfl
  kernel_rfl
  refine gsNil
  kernel_rfl
  kernel_rfl
  kernel_rfl
  kernel_rfl
  refine ssCons ?_ ?_
  refine stAss ?_ ?_ ?_ ?_
  refine sCall ?_ ?_ ?_ ?_
  refine sGlob (.ref 799) ?_ ?_ ?_
  kernel_rfl
  (intro c; refine c.mgAt ?_; intro _; kernel_rfl)
  kernel_rfl
  refine svCons ?_ ?_
  refine sLoc 0 ?_ ?_ ?_
  kernel_rfl
  kernel_rfl
  kernel_rfl
  refine svCons ?_ ?_
  refine sLoc 5 ?_ ?_ ?_
  kernel_rfl
  kernel_rfl
  kernel_rfl
  refine svNil
  kernel_rfl
  kernel_rfl
  refine gLoc 6 ?_ ?_
  kernel_rfl
  kernel_rfl
  kernel_rfl
  kernel_rfl
  refine ssCons ?_ ?_
  refine stExp ?_ ?_
  refine sMeth ?_ ?_ ?_ ?_ ?_ ?_
  refine sLoc 2 ?_ ?_ ?_
  kernel_rfl
  kernel_rfl
  kernel_rfl
  refine svCons ?_ ?_
  refine sTup ?_ ?_
  refine svCons ?_ ?_
  refine sLoc 3 ?_ ?_ ?_
  kernel_rfl
  kernel_rfl
  kernel_rfl
  refine svCons ?_ ?_
  refine sIte ?_ ?_ ?_
  refine sbVal ?_ ?_
  refine sLoc 4 ?_ ?_ ?_
  kernel_rfl
  kernel_rfl
  kernel_rfl
  (intro _ _; rfl)
  refine sCall ?_ ?_ ?_ ?_
  refine sGlob (.ref 125) ?_ ?_ ?_
  kernel_rfl
  (intro c; refine c.mgAt ?_; intro _; kernel_rfl)
  kernel_rfl
  refine svCons ?_ ?_
  refine sLoc 6 ?_ ?_ ?_
  kernel_rfl
  kernel_rfl
  kernel_rfl
  refine svNil
  kernel_rfl
  kernel_rfl
  refine sLoc 6 ?_ ?_ ?_
  kernel_rfl
  kernel_rfl
  kernel_rfl
  refine svNil
  kernel_rfl
  refine svNil
  kernel_rfl
  kernel_rfl
  decide
  kernel_rfl
  kernel_rfl
  refine ssNil
  (intro _ _; rfl)
  kernel_rfl
  refine ssCons ?_ ?_
  refine stRet ?_
  refine sCall ?_ ?_ ?_ ?_
  refine sGlob (.ref 349) ?_ ?_ ?_
  kernel_rfl
  (intro c; refine c.mgAt ?_; intro _; kernel_rfl)
  kernel_rfl
  refine svCons ?_ ?_
  refine sLoc 2 ?_ ?_ ?_
  kernel_rfl
  kernel_rfl
  kernel_rfl
  refine svNil
  kernel_rfl
  kernel_rfl
  refine ssNil
noncomputable def N__law_shape : List Str := [so "form"]
noncomputable def T__law_shape : ST := (tSeq (tIf (bCmp .Eq (tSub (tLoc 0) (tInt 0)) (tStr (so "object"))) (tSeq (tRet (tTup (lCons (tStr (so "object")) (lCons (tStr (so "A")) (lCons (tSub (tLoc 0) (tInt 1)) lNil))))) tNil) tNil) (tSeq (tIf (bCmp .NotEq (tSub (tLoc 0) (tInt 0)) (tStr (so "array"))) (tSeq (tRet (tLoc 0)) tNil) tNil) (tSeq (tRet (tTup (lCons (tStr (so "array")) (lCons (tCall (tVal (.type "tuple")) (lCons (tComp 1 (tSub (tLoc 0) (tInt 1)) (gTup 3 (gCons (gSlot 0) (gCons (gSlot 1) (gCons (gSlot 2) gNil)))) bTrue (tTup (lCons (tLoc 0) (lCons (tCall (tVal (.ref 804)) (lCons (tLoc 2) lNil)) lNil))) 3 []) lNil)) lNil)))) tNil)))
theorem S__law_shape : SimSs' d__law_shape.scope N__law_shape d__law_shape.body T__law_shape := by
  refine ssCons ?_ ?_
  refine stIf ?_ ?_ ?_
  refine sbCmp ?_ ?_ ?_
  refine sSub ?_ ?_
  refine sLoc 0 ?_ ?_ ?_
  kernel_rfl
  kernel_rfl
  kernel_rfl
  refine sInt
  refine sStr
  kernel_rfl
  refine ssCons ?_ ?_
  refine stRet ?_
  refine sTup ?_ ?_
  refine svCons ?_ ?_
  refine sStr
  refine svCons ?_ ?_
  refine sStr
  refine svCons ?_ ?_
  refine sSub ?_ ?_
  refine sLoc 0 ?_ ?_ ?_
  kernel_rfl
  kernel_rfl
  kernel_rfl
  refine sInt
  refine svNil
  kernel_rfl
  refine ssNil
  refine ssNil
  refine ssCons ?_ ?_
  refine stIf ?_ ?_ ?_
  refine sbCmp ?_ ?_ ?_
  refine sSub ?_ ?_
  refine sLoc 0 ?_ ?_ ?_
  kernel_rfl
  kernel_rfl
  kernel_rfl
  refine sInt
  refine sStr
  kernel_rfl
  refine ssCons ?_ ?_
  refine stRet ?_
  refine sLoc 0 ?_ ?_ ?_
  kernel_rfl
  kernel_rfl
  kernel_rfl
  refine ssNil
  refine ssNil
  refine ssCons ?_ ?_
  refine stRet ?_
  refine sTup ?_ ?_
  refine svCons ?_ ?_
  refine sStr
  refine svCons ?_ ?_
  refine sCall ?_ ?_ ?_ ?_
  refine sBlt (.type "tuple") ?_ ?_ ?_ ?_ ?_
  kernel_rfl
  (intro c; refine c.mgNo ?_; intro _; kernel_rfl)
  kernel_rfl
  decide
  kernel_rfl
  refine svCons ?_ ?_
  refine sComp (own := [so "key", so "is_ref", so "inner"]) (fr := []) (fi := []) ?_ ?_ ?_ ?_ ?_ ?_ ?_
  kernel_rfl
  refine sSub ?_ ?_
  refine sLoc 0 ?_ ?_ ?_
  kernel_rfl
  kernel_rfl
  kernel_rfl
  refine sInt
  refine gcTuple ?_ ?_
  refine gcCons ?_ ?_ ?_
  refine gcLoc 0 ?_ ?_
  kernel_rfl
  kernel_rfl
  refine gcCons ?_ ?_ ?_
  refine gcLoc 1 ?_ ?_
  kernel_rfl
  kernel_rfl
  refine gcCons ?_ ?_ ?_
  refine gcLoc 2 ?_ ?_
  kernel_rfl
  kernel_rfl
  refine gcNil
  kernel_rfl
  kernel_rfl
  kernel_rfl
  kernel_rfl
  refine siNil
  refine sTup ?_ ?_
  refine svCons ?_ ?_
  refine sLoc 0 ?_ ?_ ?_
  kernel_rfl
  kernel_rfl
  kernel_rfl
  refine svCons ?_ ?_
  refine sCall ?_ ?_ ?_ ?_
  refine sGlob (.ref 804) ?_ ?_ ?_
  kernel_rfl
  (intro c; refine c.mgAt ?_; intro _; kernel_rfl)
  kernel_rfl
  refine svCons ?_ ?_
  refine sLoc 2 ?_ ?_ ?_
  kernel_rfl
  kernel_rfl
  kernel_rfl
  refine svNil
  kernel_rfl
  kernel_rfl
  refine svNil
  kernel_rfl
  (intro _ _; rfl)
  kernel_rfl
  refine svNil
  kernel_rfl
  kernel_rfl
  refine svNil
  kernel_rfl
  refine ssNil
noncomputable def N__law_words_right : List Str := [so "form", so "thing", so "words"]
noncomputable def T__law_words_right : ST := (tSeq (tAss (tDic (pCons (tStr (so "null")) (tTup (lCons (tStr (so "null")) (lCons (tStr (so "null")) (lCons (tStr (so "NULL")) lNil)))) (pCons (tStr (so "bool")) (tTup (lCons (tStr (so "bool")) (lCons (tStr (so "bool")) (lCons (tStr (so "boolean")) lNil)))) (pCons (tStr (so "int")) (tTup (lCons (tStr (so "int")) (lCons (tStr (so "int")) (lCons (tStr (so "integer")) lNil)))) (pCons (tStr (so "string")) (tTup (lCons (tStr (so "string")) (lCons (tStr (so "string")) (lCons (tStr (so "string")) lNil)))) (pCons (tStr (so "array")) (tTup (lCons (tStr (so "array")) (lCons (tStr (so "array")) (lCons (tStr (so "array")) lNil)))) (pCons (tStr (so "object")) (tTup (lCons (tStr (so "object")) (lCons (tStr (so "A")) (lCons (tStr (so "object")) lNil)))) pNil))))))) (gSlot 2)) (tSeq (tRet (tCmp .Eq (tTup (lCons (tCall (tVal (.ref 356)) (lCons (tLoc 1) lNil)) (lCons (tCall (tVal (.ref 363)) (lCons (tLoc 1) lNil)) (lCons (tCall (tVal (.ref 370)) (lCons (tLoc 1) lNil)) lNil)))) (tSub (tLoc 2) (tSub (tLoc 0) (tInt 0))))) tNil))
theorem S__law_words_right : SimSs' d__law_words_right.scope N__law_words_right d__law_words_right.body T__law_words_right := by
  refine ssCons ?_ ?_
  refine stAss ?_ ?_ ?_ ?_
  refine sDic ?_ ?_
  refine spCons ?_ ?_ ?_
  refine sStr
  refine sTup ?_ ?_
  refine svCons ?_ ?_
  refine sStr
  refine svCons ?_ ?_
  refine sStr
  refine svCons ?_ ?_
  refine sStr
  refine svNil
  kernel_rfl
  refine spCons ?_ ?_ ?_
  refine sStr
  refine sTup ?_ ?_
  refine svCons ?_ ?_
  refine sStr
  refine svCons ?_ ?_
  refine sStr
  refine svCons ?_ ?_
  refine sStr
  refine svNil
  kernel_rfl
  refine spCons ?_ ?_ ?_
  refine sStr
  refine sTup ?_ ?_
  refine svCons ?_ ?_
  refine sStr
  refine svCons ?_ ?_
  refine sStr
  refine svCons ?_ ?_
  refine sStr
  refine svNil
  kernel_rfl
  refine spCons ?_ ?_ ?_
  refine sStr
  refine sTup ?_ ?_
  refine svCons ?_ ?_
  refine sStr
  refine svCons ?_ ?_
  refine sStr
  refine svCons ?_ ?_
  refine sStr
  refine svNil
  kernel_rfl
  refine spCons ?_ ?_ ?_
  refine sStr
  refine sTup ?_ ?_
  refine svCons ?_ ?_
  refine sStr
  refine svCons ?_ ?_
  refine sStr
  refine svCons ?_ ?_
  refine sStr
  refine svNil
  kernel_rfl
  refine spCons ?_ ?_ ?_
  refine sStr
  refine sTup ?_ ?_
  refine svCons ?_ ?_
  refine sStr
  refine svCons ?_ ?_
  refine sStr
  refine svCons ?_ ?_
  refine sStr
  refine svNil
  kernel_rfl
  refine spNil
  kernel_rfl
  refine gLoc 2 ?_ ?_
  kernel_rfl
  kernel_rfl
  kernel_rfl
  kernel_rfl
  refine ssCons ?_ ?_
  refine stRet ?_
  refine sCmp ?_ ?_ ?_
  refine sTup ?_ ?_
  refine svCons ?_ ?_
  refine sCall ?_ ?_ ?_ ?_
  refine sGlob (.ref 356) ?_ ?_ ?_
  kernel_rfl
  (intro c; refine c.mgAt ?_; intro _; kernel_rfl)
  kernel_rfl
  refine svCons ?_ ?_
  refine sLoc 1 ?_ ?_ ?_
  kernel_rfl
  kernel_rfl
  kernel_rfl
  refine svNil
  kernel_rfl
  kernel_rfl
  refine svCons ?_ ?_
  refine sCall ?_ ?_ ?_ ?_
  refine sGlob (.ref 363) ?_ ?_ ?_
  kernel_rfl
  (intro c; refine c.mgAt ?_; intro _; kernel_rfl)
  kernel_rfl
  refine svCons ?_ ?_
  refine sLoc 1 ?_ ?_ ?_
  kernel_rfl
  kernel_rfl
  kernel_rfl
  refine svNil
  kernel_rfl
  kernel_rfl
  refine svCons ?_ ?_
  refine sCall ?_ ?_ ?_ ?_
  refine sGlob (.ref 370) ?_ ?_ ?_
  kernel_rfl
  (intro c; refine c.mgAt ?_; intro _; kernel_rfl)
  kernel_rfl
  refine svCons ?_ ?_
  refine sLoc 1 ?_ ?_ ?_
  kernel_rfl
  kernel_rfl
  kernel_rfl
  refine svNil
  kernel_rfl
  kernel_rfl
  refine svNil
  kernel_rfl
  refine sSub ?_ ?_
  refine sLoc 2 ?_ ?_ ?_
  kernel_rfl
  kernel_rfl
  kernel_rfl
  refine sSub ?_ ?_
  refine sLoc 0 ?_ ?_ ?_
  kernel_rfl
  kernel_rfl
  kernel_rfl
  refine sInt
  kernel_rfl
  refine ssNil
noncomputable def N__law_is_equivalence : List Str := [so "rows", so "many", so "k", so "j"]
noncomputable def T__law_is_equivalence : ST := (tSeq (tAss (tCall (tVal (.type "range")) (lCons (tCall (tVal (.builtin "len")) (lCons (tLoc 0) lNil)) lNil)) (gSlot 1)) (tSeq (tFor (tLoc 1) 0 (gSlot 2) (tSeq (tFor (tLoc 1) 0 (gSlot 3) (tSeq (tIf (bOr (bNot (bVal (tSub (tSub (tLoc 0) (tLoc 2)) (tLoc 2)))) (bOr (bCmp .NotEq (tSub (tSub (tLoc 0) (tLoc 2)) (tLoc 3)) (tSub (tSub (tLoc 0) (tLoc 3)) (tLoc 2))) bFalse)) (tSeq (tRet (tVal (.bool false))) tNil) tNil) (tSeq (tIf (bAnd (bVal (tSub (tSub (tLoc 0) (tLoc 2)) (tLoc 3))) (bAnd (bCmp .NotEq (tSub (tLoc 0) (tLoc 2)) (tSub (tLoc 0) (tLoc 3))) bTrue)) (tSeq (tRet (tVal (.bool false))) tNil) tNil) tNil))) tNil)) (tSeq (tRet (tVal (.bool true))) tNil)))
theorem S__law_is_equivalence : SimSs' d__law_is_equivalence.scope N__law_is_equivalence d__law_is_equivalence.body T__law_is_equivalence := by
  refine ssCons ?_ ?_
  refine stAss ?_ ?_ ?_ ?_
  refine sCall ?_ ?_ ?_ ?_
  refine sBlt (.type "range") ?_ ?_ ?_ ?_ ?_
  kernel_rfl
  (intro c; refine c.mgNo ?_; intro _; kernel_rfl)
  kernel_rfl
  decide
  kernel_rfl
  refine svCons ?_ ?_
  refine sCall ?_ ?_ ?_ ?_
  refine sBlt (.builtin "len") ?_ ?_ ?_ ?_ ?_
  kernel_rfl
  (intro c; refine c.mgNo ?_; intro _; kernel_rfl)
  kernel_rfl
  decide
  kernel_rfl
  refine svCons ?_ ?_
  refine sLoc 0 ?_ ?_ ?_
  kernel_rfl
  kernel_rfl
  kernel_rfl
  refine svNil
  kernel_rfl
  kernel_rfl
  refine svNil
  kernel_rfl
  kernel_rfl
  refine gLoc 1 ?_ ?_
  kernel_rfl
  kernel_rfl
  kernel_rfl
  kernel_rfl
  refine ssCons ?_ ?_
  refine stFor ?_ ?_ ?_ ?_ ?_
  refine sLoc 1 ?_ ?_ ?_
  kernel_rfl
  kernel_rfl
  kernel_rfl
  refine gLoc 2 ?_ ?_
  kernel_rfl
  kernel_rfl
  refine ssCons ?_ ?_
  refine stFor ?_ ?_ ?_ ?_ ?_
  refine sLoc 1 ?_ ?_ ?_
  kernel_rfl
  kernel_rfl
  kernel_rfl
  refine gLoc 3 ?_ ?_
  kernel_rfl
  kernel_rfl
  refine ssCons ?_ ?_
  refine stIf ?_ ?_ ?_
  refine sbBool ?_
  refine saOr ?_ ?_
  refine sbNot ?_
  refine sbVal ?_ ?_
  refine sSub ?_ ?_
  refine sSub ?_ ?_
  refine sLoc 0 ?_ ?_ ?_
  kernel_rfl
  kernel_rfl
  kernel_rfl
  refine sLoc 2 ?_ ?_ ?_
  kernel_rfl
  kernel_rfl
  kernel_rfl
  refine sLoc 2 ?_ ?_ ?_
  kernel_rfl
  kernel_rfl
  kernel_rfl
  (intro _ _; rfl)
  refine saOr ?_ ?_
  refine sbCmp ?_ ?_ ?_
  refine sSub ?_ ?_
  refine sSub ?_ ?_
  refine sLoc 0 ?_ ?_ ?_
  kernel_rfl
  kernel_rfl
  kernel_rfl
  refine sLoc 2 ?_ ?_ ?_
  kernel_rfl
  kernel_rfl
  kernel_rfl
  refine sLoc 3 ?_ ?_ ?_
  kernel_rfl
  kernel_rfl
  kernel_rfl
  refine sSub ?_ ?_
  refine sSub ?_ ?_
  refine sLoc 0 ?_ ?_ ?_
  kernel_rfl
  kernel_rfl
  kernel_rfl
  refine sLoc 3 ?_ ?_ ?_
  kernel_rfl
  kernel_rfl
  kernel_rfl
  refine sLoc 2 ?_ ?_ ?_
  kernel_rfl
  kernel_rfl
  kernel_rfl
  kernel_rfl
  refine saOr0
  refine ssCons ?_ ?_
  refine stRet ?_
  refine sBool
  refine ssNil
  refine ssNil
  refine ssCons ?_ ?_
  refine stIf ?_ ?_ ?_
  refine sbBool ?_
  refine saAnd ?_ ?_
  refine sbVal ?_ ?_
  refine sSub ?_ ?_
  refine sSub ?_ ?_
  refine sLoc 0 ?_ ?_ ?_
  kernel_rfl
  kernel_rfl
  kernel_rfl
  refine sLoc 2 ?_ ?_ ?_
  kernel_rfl
  kernel_rfl
  kernel_rfl
  refine sLoc 3 ?_ ?_ ?_
  kernel_rfl
  kernel_rfl
  kernel_rfl
  (intro _ _; rfl)
  refine saAnd ?_ ?_
  refine sbCmp ?_ ?_ ?_
  refine sSub ?_ ?_
  refine sLoc 0 ?_ ?_ ?_
  kernel_rfl
  kernel_rfl
  kernel_rfl
  refine sLoc 2 ?_ ?_ ?_
  kernel_rfl
  kernel_rfl
  kernel_rfl
  refine sSub ?_ ?_
  refine sLoc 0 ?_ ?_ ?_
  kernel_rfl
  kernel_rfl
  kernel_rfl
  refine sLoc 3 ?_ ?_ ?_
  kernel_rfl
  kernel_rfl
  kernel_rfl
  kernel_rfl
  refine saAnd0
  refine ssCons ?_ ?_
  refine stRet ?_
  refine sBool
  refine ssNil
  refine ssNil
  refine ssNil
  (intro _ _; rfl)
  kernel_rfl
  refine ssNil
  (intro _ _; rfl)
  kernel_rfl
  refine ssCons ?_ ?_
  refine stRet ?_
  refine sBool
  refine ssNil
noncomputable def N__law_are_right : List Str := [so "forms", so "things", so "host", so "shapes", so "k", so "thing", so "other", so "rows", so "j"]
noncomputable def T__law_are_right : ST := (tSeq (tAss (tTup (lCons (tCall (tVal (.ref 550)) lNil) (lCons (tComp 0 (tLoc 0) (gSlot 0) bTrue (tCall (tVal (.builtin "repr")) (lCons (tCall (tVal (.ref 804)) (lCons (tLoc 0) lNil)) lNil)) 1 []) lNil))) (gTup 2 (gCons (gSlot 2) (gCons (gSlot 3) gNil)))) (tSeq (tFor (tCall (tVal (.type "enumerate")) (lCons (tLoc 1) lNil)) 1 (gTup 2 (gCons (gSlot 4) (gCons (gSlot 5) gNil))) (tSeq (tIf (bOr (bCmp .NotEq (tCall (tVal (.builtin "repr")) (lCons (tCall (tVal (.ref 405)) (lCons (tLoc 5) lNil)) lNil)) (tSub (tLoc 3) (tLoc 4))) (bOr (bNot (bVal (tCall (tVal (.ref 811)) (lCons (tSub (tLoc 0) (tLoc 4)) (lCons (tLoc 5) lNil))))) bFalse)) (tSeq (tRet (tVal (.bool false))) tNil) tNil) tNil)) (tSeq (tCompS 7 (tComp 0 (tLoc 1) (gSlot 0) bTrue (tComp 0 (tLoc 1) (gSlot 0) bTrue (tCall (tVal (.ref 377)) (lCons (tLoc 1) (lCons (tLoc 0) lNil))) 1 [0]) 1 [1])) (tSeq (tIf (bOr (bCmp .NotEq (tLoc 7) (tComp 0 (tLoc 3) (gSlot 0) bTrue (tComp 0 (tLoc 1) (gSlot 0) bTrue (tCmp .Eq (tLoc 1) (tLoc 0)) 1 [0]) 1 [3])) (bOr (bNot (bVal (tCall (tVal (.ref 818)) (lCons (tLoc 7) lNil)))) bFalse)) (tSeq (tRet (tVal (.bool false))) tNil) tNil) (tSeq (tFor (tCall (tVal (.type "enumerate")) (lCons (tLoc 1) lNil)) 1 (gTup 2 (gCons (gSlot 4) (gCons (gSlot 5) gNil))) (tSeq (tFor (tCall (tVal (.type "enumerate")) (lCons (tLoc 1) lNil)) 1 (gTup 2 (gCons (gSlot 8) (gCons (gSlot 6) gNil))) (tSeq (tIf (bAnd (bVal (tSub (tSub (tLoc 7) (tLoc 4)) (tLoc 8))) (bAnd (bNot (bVal (tCall (tVal (.ref 759)) (lCons (tLoc 2) (lCons (tLoc 5) (lCons (tLoc 6) lNil)))))) bTrue)) (tSeq (tRet (tVal (.bool false))) tNil) tNil) tNil)) tNil)) (tSeq (tRet (tCmp .Eq (tAtt (tLoc 2) (so "notes")) (tLst lNil))) tNil))))))
theorem S__law_are_right : SimSs' d__law_are_right.scope N__law_are_right d__law_are_right.body T__law_are_right := by
  refine ssCons ?_ ?_
  refine stAssT ?_ ?_ ?_ ?_
  refine sTup ?_ ?_
  refine svCons ?_ ?_
  refine sCall ?_ ?_ ?_ ?_
  refine sGlob (.ref 550) ?_ ?_ ?_
  kernel_rfl
  (intro c; refine c.mgAt ?_; intro _; kernel_rfl)
  kernel_rfl
  refine svNil
  kernel_rfl
  kernel_rfl
  refine svCons ?_ ?_
  refine sComp (own := [so "form"]) (fr := []) (fi := []) ?_ ?_ ?_ ?_ ?_ ?_ ?_
  kernel_rfl
  refine sLoc 0 ?_ ?_ ?_
  kernel_rfl
  kernel_rfl
  kernel_rfl
  refine gcLoc 0 ?_ ?_
  kernel_rfl
  kernel_rfl
  refine siNil
  refine sCall ?_ ?_ ?_ ?_
  refine sBlt (.builtin "repr") ?_ ?_ ?_ ?_ ?_
  kernel_rfl
  (intro c; refine c.mgNo ?_; intro _; kernel_rfl)
  kernel_rfl
  decide
  kernel_rfl
  refine svCons ?_ ?_
  refine sCall ?_ ?_ ?_ ?_
  refine sGlob (.ref 804) ?_ ?_ ?_
  kernel_rfl
  (intro c; refine c.mgAt ?_; intro _; kernel_rfl)
  kernel_rfl
  refine svCons ?_ ?_
  refine sLoc 0 ?_ ?_ ?_
  kernel_rfl
  kernel_rfl
  kernel_rfl
  refine svNil
  kernel_rfl
  kernel_rfl
  refine svNil
  kernel_rfl
  kernel_rfl
  (intro _ _; rfl)
  kernel_rfl
  refine svNil
  kernel_rfl
  refine gTuple ?_ ?_
  refine gsCons ?_ ?_ ?_
  refine gLoc 2 ?_ ?_
  kernel_rfl
  kernel_rfl
  refine gsCons ?_ ?_ ?_
  refine gCell 3 ?_ ?_
  kernel_rfl
  kernel_rfl
  refine gsNil
  kernel_rfl
  kernel_rfl
  kernel_rfl
  kernel_rfl
  (intro env ok; refine swN_is ok ?_; kernel_rfl)
  refine ssCons ?_ ?_
  refine stFor ?_ ?_ ?_ ?_ ?_
  refine sCall ?_ ?_ ?_ ?_
  refine sBlt (.type "enumerate") ?_ ?_ ?_ ?_ ?_
  kernel_rfl
  (intro c; refine c.mgNo ?_; intro _; kernel_rfl)
  kernel_rfl
  decide
  kernel_rfl
  refine svCons ?_ ?_
  refine sCell 1 ?_ ?_ ?_
  kernel_rfl
  kernel_rfl
  kernel_rfl
  refine svNil
  kernel_rfl
  kernel_rfl
  refine gTuple ?_ ?_
  refine gsCons ?_ ?_ ?_
  refine gLoc 4 ?_ ?_
  kernel_rfl
  kernel_rfl
  refine gsCons ?_ ?_ ?_
  refine gLoc 5 ?_ ?_
  kernel_rfl
  kernel_rfl
  refine gsNil
  kernel_rfl
  kernel_rfl
  kernel_rfl
  refine ssCons ?_ ?_
  refine stIf ?_ ?_ ?_
  refine sbBool ?_
  refine saOr ?_ ?_
  refine sbCmp ?_ ?_ ?_
  refine sCall ?_ ?_ ?_ ?_
  refine sBlt (.builtin "repr") ?_ ?_ ?_ ?_ ?_
  kernel_rfl
  (intro c; refine c.mgNo ?_; intro _; kernel_rfl)
  kernel_rfl
  decide
  kernel_rfl
  refine svCons ?_ ?_
  refine sCall ?_ ?_ ?_ ?_
  refine sGlob (.ref 405) ?_ ?_ ?_
  kernel_rfl
  (intro c; refine c.mgAt ?_; intro _; kernel_rfl)
  kernel_rfl
  refine svCons ?_ ?_
  refine sLoc 5 ?_ ?_ ?_
  kernel_rfl
  kernel_rfl
  kernel_rfl
  refine svNil
  kernel_rfl
  kernel_rfl
  refine svNil
  kernel_rfl
  kernel_rfl
  refine sSub ?_ ?_
  refine sCell 3 ?_ ?_ ?_
  kernel_rfl
  kernel_rfl
  kernel_rfl
  refine sLoc 4 ?_ ?_ ?_
  kernel_rfl
  kernel_rfl
  kernel_rfl
  kernel_rfl
  refine saOr ?_ ?_
  refine sbNot ?_
  refine sbVal ?_ ?_
  refine sCall ?_ ?_ ?_ ?_
  refine sGlob (.ref 811) ?_ ?_ ?_
  kernel_rfl
  (intro c; refine c.mgAt ?_; intro _; kernel_rfl)
  kernel_rfl
  refine svCons ?_ ?_
  refine sSub ?_ ?_
  refine sLoc 0 ?_ ?_ ?_
  kernel_rfl
  kernel_rfl
  kernel_rfl
  refine sLoc 4 ?_ ?_ ?_
  kernel_rfl
  kernel_rfl
  kernel_rfl
  refine svCons ?_ ?_
  refine sLoc 5 ?_ ?_ ?_
  kernel_rfl
  kernel_rfl
  kernel_rfl
  refine svNil
  kernel_rfl
  kernel_rfl
  (intro _ _; rfl)
  refine saOr0
  refine ssCons ?_ ?_
  refine stRet ?_
  refine sBool
  refine ssNil
  refine ssNil
  refine ssNil
  (intro _ _; rfl)
  kernel_rfl
  refine ssCons ?_ ?_
  refine stComp (own := [so "thing"]) (fr := [so "things"]) (fi := [1]) 7 ?_ ?_ ?_ ?_ ?_ ?_ ?_ ?_ ?_
  kernel_rfl
  refine sCell 1 ?_ ?_ ?_
  kernel_rfl
  kernel_rfl
  kernel_rfl
  refine gcCell 0 ?_ ?_ ?_
  kernel_rfl
  kernel_rfl
  decide
  refine siNil
  refine sComp (own := [so "other"]) (fr := [so "thing"]) (fi := [0]) ?_ ?_ ?_ ?_ ?_ ?_ ?_
  kernel_rfl
  refine sCell 1 ?_ ?_ ?_
  kernel_rfl
  kernel_rfl
  kernel_rfl
  refine gcLoc 0 ?_ ?_
  kernel_rfl
  kernel_rfl
  refine siNil
  refine sCall ?_ ?_ ?_ ?_
  refine sGlob (.ref 377) ?_ ?_ ?_
  kernel_rfl
  (intro c; refine c.mgAt ?_; intro _; kernel_rfl)
  kernel_rfl
  refine svCons ?_ ?_
  refine sCell 1 ?_ ?_ ?_
  kernel_rfl
  kernel_rfl
  kernel_rfl
  refine svCons ?_ ?_
  refine sLoc 0 ?_ ?_ ?_
  kernel_rfl
  kernel_rfl
  kernel_rfl
  refine svNil
  kernel_rfl
  kernel_rfl
  (intro _ _; rfl)
  kernel_rfl
  (intro _ _; rfl)
  kernel_rfl
  kernel_rfl
  kernel_rfl
  refine ssCons ?_ ?_
  refine stIf ?_ ?_ ?_
  refine sbBool ?_
  refine saOr ?_ ?_
  refine sbCmp ?_ ?_ ?_
  refine sLoc 7 ?_ ?_ ?_
  kernel_rfl
  kernel_rfl
  kernel_rfl
  refine sComp (own := [so "one"]) (fr := [so "shapes"]) (fi := [3]) ?_ ?_ ?_ ?_ ?_ ?_ ?_
  kernel_rfl
  refine sCell 3 ?_ ?_ ?_
  kernel_rfl
  kernel_rfl
  kernel_rfl
  refine gcCell 0 ?_ ?_ ?_
  kernel_rfl
  kernel_rfl
  decide
  refine siNil
  refine sComp (own := [so "other"]) (fr := [so "one"]) (fi := [0]) ?_ ?_ ?_ ?_ ?_ ?_ ?_
  kernel_rfl
  refine sCell 1 ?_ ?_ ?_
  kernel_rfl
  kernel_rfl
  kernel_rfl
  refine gcLoc 0 ?_ ?_
  kernel_rfl
  kernel_rfl
  refine siNil
  refine sCmp ?_ ?_ ?_
  refine sCell 1 ?_ ?_ ?_
  kernel_rfl
  kernel_rfl
  kernel_rfl
  refine sLoc 0 ?_ ?_ ?_
  kernel_rfl
  kernel_rfl
  kernel_rfl
  kernel_rfl
  (intro _ _; rfl)
  kernel_rfl
  (intro _ _; rfl)
  kernel_rfl
  kernel_rfl
  refine saOr ?_ ?_
  refine sbNot ?_
  refine sbVal ?_ ?_
  refine sCall ?_ ?_ ?_ ?_
  refine sGlob (.ref 818) ?_ ?_ ?_
  kernel_rfl
  (intro c; refine c.mgAt ?_; intro _; kernel_rfl)
  kernel_rfl
  refine svCons ?_ ?_
  refine sLoc 7 ?_ ?_ ?_
  kernel_rfl
  kernel_rfl
  kernel_rfl
  refine svNil
  kernel_rfl
  kernel_rfl
  (intro _ _; rfl)
  refine saOr0
  refine ssCons ?_ ?_
  refine stRet ?_
  refine sBool
  refine ssNil
  refine ssNil
  refine ssCons ?_ ?_
  refine stFor ?_ ?_ ?_ ?_ ?_
  refine sCall ?_ ?_ ?_ ?_
  refine sBlt (.type "enumerate") ?_ ?_ ?_ ?_ ?_
  kernel_rfl
  (intro c; refine c.mgNo ?_; intro _; kernel_rfl)
  kernel_rfl
  decide
  kernel_rfl
  refine svCons ?_ ?_
  refine sCell 1 ?_ ?_ ?_
  kernel_rfl
  kernel_rfl
  kernel_rfl
  refine svNil
  kernel_rfl
  kernel_rfl
  refine gTuple ?_ ?_
  refine gsCons ?_ ?_ ?_
  refine gLoc 4 ?_ ?_
  kernel_rfl
  kernel_rfl
  refine gsCons ?_ ?_ ?_
  refine gLoc 5 ?_ ?_
  kernel_rfl
  kernel_rfl
  refine gsNil
  kernel_rfl
  kernel_rfl
  kernel_rfl
  refine ssCons ?_ ?_
  refine stFor ?_ ?_ ?_ ?_ ?_
  refine sCall ?_ ?_ ?_ ?_
  refine sBlt (.type "enumerate") ?_ ?_ ?_ ?_ ?_
  kernel_rfl
  (intro c; refine c.mgNo ?_; intro _; kernel_rfl)
  kernel_rfl
  decide
  kernel_rfl
  refine svCons ?_ ?_
  refine sCell 1 ?_ ?_ ?_
  kernel_rfl
  kernel_rfl
  kernel_rfl
  refine svNil
  kernel_rfl
  kernel_rfl
  refine gTuple ?_ ?_
  refine gsCons ?_ ?_ ?_
  refine gLoc 8 ?_ ?_
  kernel_rfl
  kernel_rfl
  refine gsCons ?_ ?_ ?_
  refine gLoc 6 ?_ ?_
  kernel_rfl
  kernel_rfl
  refine gsNil
  kernel_rfl
  kernel_rfl
  kernel_rfl
  refine ssCons ?_ ?_
  refine stIf ?_ ?_ ?_
  refine sbBool ?_
  refine saAnd ?_ ?_
  refine sbVal ?_ ?_
  refine sSub ?_ ?_
  refine sSub ?_ ?_
  refine sLoc 7 ?_ ?_ ?_
  kernel_rfl
  kernel_rfl
  kernel_rfl
  refine sLoc 4 ?_ ?_ ?_
  kernel_rfl
  kernel_rfl
  kernel_rfl
  refine sLoc 8 ?_ ?_ ?_
  kernel_rfl
  kernel_rfl
  kernel_rfl
  (intro _ _; rfl)
  refine saAnd ?_ ?_
  refine sbNot ?_
  refine sbVal ?_ ?_
  refine sCall ?_ ?_ ?_ ?_
  refine sGlob (.ref 759) ?_ ?_ ?_
  kernel_rfl
  (intro c; refine c.mgAt ?_; intro _; kernel_rfl)
  kernel_rfl
  refine svCons ?_ ?_
  refine sLoc 2 ?_ ?_ ?_
  kernel_rfl
  kernel_rfl
  kernel_rfl
  refine svCons ?_ ?_
  refine sLoc 5 ?_ ?_ ?_
  kernel_rfl
  kernel_rfl
  kernel_rfl
  refine svCons ?_ ?_
  refine sLoc 6 ?_ ?_ ?_
  kernel_rfl
  kernel_rfl
  kernel_rfl
  refine svNil
  kernel_rfl
  kernel_rfl
  (intro _ _; rfl)
  refine saAnd0
  refine ssCons ?_ ?_
  refine stRet ?_
  refine sBool
  refine ssNil
  refine ssNil
  refine ssNil
  (intro _ _; rfl)
  kernel_rfl
  refine ssNil
  (intro _ _; rfl)
  kernel_rfl
  refine ssCons ?_ ?_
  refine stRet ?_
  refine sCmp ?_ ?_ ?_
  refine sAtt ?_ ?_
  refine sLoc 2 ?_ ?_ ?_
  kernel_rfl
  kernel_rfl
  kernel_rfl
  kernel_rfl
  refine sLst ?_ ?_
  refine svNil
  kernel_rfl
  kernel_rfl
  refine ssNil
noncomputable def N__law_ring_right : List Str := [so "many", so "k", so "refs", so "due", so "first", so "around"]
noncomputable def T__law_ring_right : ST := (tSeq (tCompS 2 (tComp 0 (tCall (tVal (.type "range")) (lCons (tLoc 0) lNil)) (gSlot 0) bTrue (tCall (tVal (.ref 125)) lNil) 1 [])) (tSeq (tFor (tCall (tVal (.type "range")) (lCons (tLoc 0) lNil)) 0 (gSlot 1) (tSeq (tAss (tCall (tVal (.ref 349)) (lCons (tLst (lCons (tTup (lCons (tStr (so "to")) (lCons (tSub (tLoc 2) (tBin .Mod (tBin .Add (tLoc 1) (tInt 1)) (tLoc 0))) lNil))) lNil)) lNil)) (gAtt (tSub (tLoc 2) (tLoc 1)) (so "value"))) tNil)) (tSeq (tAss (tTup (lCons (tStr (so "again")) (lCons (tLoc 0) lNil))) (gSlot 3)) (tSeq (tFor (tCall (tVal (.type "range")) (lCons (tLoc 0) lNil)) 0 (gSlot 1) (tSeq (tAss (tTup (lCons (tStr (so "array")) (lCons (tTup (lCons (tTup (lCons (tStr (so "to")) (lCons (tLoc 3) lNil))) lNil)) lNil))) (gSlot 3)) tNil)) (tSeq (tSw2 (tTup (lCons (tAtt (tSub (tLoc 2) (tInt 0)) (so "value")) (lCons (tCall (tVal (.ref 349)) (lCons (tLst (lCons (tTup (lCons (tStr (so "in")) (lCons (tSub (tLoc 2) (tInt 0)) lNil))) lNil)) lNil)) lNil))) 4 5) (tSeq (tIf (bCmp .NotEq (tCall (tVal (.builtin "repr")) (lCons (tCall (tVal (.ref 405)) (lCons (tLoc 5) lNil)) lNil)) (tCall (tVal (.builtin "repr")) (lCons (tTup (lCons (tStr (so "array")) (lCons (tTup (lCons (tTup (lCons (tStr (so "in")) (lCons (tLoc 3) lNil))) lNil)) lNil))) lNil))) (tSeq (tRet (tVal (.bool false))) tNil) tNil) (tSeq (tRet (tAnd (tCmp .Eq (tCall (tVal (.builtin "repr")) (lCons (tCall (tVal (.ref 405)) (lCons (tLoc 4) lNil)) lNil)) (tCall (tVal (.builtin "repr")) (lCons (tLoc 3) lNil))) (tCall (tVal (.ref 377)) (lCons (tLoc 4) (lCons (tLoc 4) lNil))))) tNil)))))))
theorem S__law_ring_right : SimSs' d__law_ring_right.scope N__law_ring_right d__law_ring_right.body T__law_ring_right := by
  refine ssCons ?_ ?_
  refine stComp (own := [so "k"]) (fr := []) (fi := []) 2 ?_ ?_ ?_ ?_ ?_ ?_ ?_ ?_ ?_
  kernel_rfl
  refine sCall ?_ ?_ ?_ ?_
  refine sBlt (.type "range") ?_ ?_ ?_ ?_ ?_
  kernel_rfl
  (intro c; refine c.mgNo ?_; intro _; kernel_rfl)
  kernel_rfl
  decide
  kernel_rfl
  refine svCons ?_ ?_
  refine sLoc 0 ?_ ?_ ?_
  kernel_rfl
  kernel_rfl
  kernel_rfl
  refine svNil
  kernel_rfl
  kernel_rfl
  refine gcLoc 0 ?_ ?_
  kernel_rfl
  kernel_rfl
  refine siNil
  refine sCall ?_ ?_ ?_ ?_
  refine sGlob (.ref 125) ?_ ?_ ?_
  kernel_rfl
  (intro c; refine c.mgAt ?_; intro _; kernel_rfl)
  kernel_rfl
  refine svNil
  kernel_rfl
  kernel_rfl
  (intro _ _; rfl)
  kernel_rfl
  kernel_rfl
  kernel_rfl
  refine ssCons ?_ ?_
  refine stFor ?_ ?_ ?_ ?_ ?_
  refine sCall ?_ ?_ ?_ ?_
  refine sBlt (.type "range") ?_ ?_ ?_ ?_ ?_
  kernel_rfl
  (intro c; refine c.mgNo ?_; intro _; kernel_rfl)
  kernel_rfl
  decide
  kernel_rfl
  refine svCons ?_ ?_
  refine sLoc 0 ?_ ?_ ?_
  kernel_rfl
  kernel_rfl
  kernel_rfl
  refine svNil
  kernel_rfl
  kernel_rfl
  refine gLoc 1 ?_ ?_
  kernel_rfl
  kernel_rfl
  refine ssCons ?_ ?_
  refine stAss ?_ ?_ ?_ ?_
  refine sCall ?_ ?_ ?_ ?_
  refine sGlob (.ref 349) ?_ ?_ ?_
  kernel_rfl
  (intro c; refine c.mgAt ?_; intro _; kernel_rfl)
  kernel_rfl
  refine svCons ?_ ?_
  refine sLst ?_ ?_
  refine svCons ?_ ?_
  refine sTup ?_ ?_
  refine svCons ?_ ?_
  refine sStr
  refine svCons ?_ ?_
  refine sSub ?_ ?_
  refine sLoc 2 ?_ ?_ ?_
  kernel_rfl
  kernel_rfl
  kernel_rfl
  refine sBin ?_ ?_
  refine sBin ?_ ?_
  refine sLoc 1 ?_ ?_ ?_
  kernel_rfl
  kernel_rfl
  kernel_rfl
  refine sInt
  refine sLoc 0 ?_ ?_ ?_
  kernel_rfl
  kernel_rfl
  kernel_rfl
  refine svNil
  kernel_rfl
  refine svNil
  kernel_rfl
  refine svNil
  kernel_rfl
  kernel_rfl
  refine gAttr ?_
  refine sSub ?_ ?_
  refine sLoc 2 ?_ ?_ ?_
  kernel_rfl
  kernel_rfl
  kernel_rfl
  refine sLoc 1 ?_ ?_ ?_
  kernel_rfl
  kernel_rfl
  kernel_rfl
  kernel_rfl
  kernel_rfl
  refine ssNil
  (intro _ _; rfl)
  kernel_rfl
  refine ssCons ?_ ?_
  refine stAss ?_ ?_ ?_ ?_
  refine sTup ?_ ?_
  refine svCons ?_ ?_
  refine sStr
  refine svCons ?_ ?_
  refine sLoc 0 ?_ ?_ ?_
  kernel_rfl
  kernel_rfl
  kernel_rfl
  refine svNil
  kernel_rfl
  refine gLoc 3 ?_ ?_
  kernel_rfl
  kernel_rfl
  kernel_rfl
  kernel_rfl
  refine ssCons ?_ ?_
  refine stFor ?_ ?_ ?_ ?_ ?_
  refine sCall ?_ ?_ ?_ ?_
  refine sBlt (.type "range") ?_ ?_ ?_ ?_ ?_
  kernel_rfl
  (intro c; refine c.mgNo ?_; intro _; kernel_rfl)
  kernel_rfl
  decide
  kernel_rfl
  refine svCons ?_ ?_
  refine sLoc 0 ?_ ?_ ?_
  kernel_rfl
  kernel_rfl
  kernel_rfl
  refine svNil
  kernel_rfl
  kernel_rfl
  refine gLoc 1 ?_ ?_
  kernel_rfl
  kernel_rfl
  refine ssCons ?_ ?_
  refine stAss ?_ ?_ ?_ ?_
  refine sTup ?_ ?_
  refine svCons ?_ ?_
  refine sStr
  refine svCons ?_ ?_
  refine sTup ?_ ?_
  refine svCons ?_ ?_
  refine sTup ?_ ?_
  refine svCons ?_ ?_
  refine sStr
  refine svCons ?_ ?_
  refine sLoc 3 ?_ ?_ ?_
  kernel_rfl
  kernel_rfl
  kernel_rfl
  refine svNil
  kernel_rfl
  refine svNil
  kernel_rfl
  refine svNil
  kernel_rfl
  refine gLoc 3 ?_ ?_
  kernel_rfl
  kernel_rfl
  kernel_rfl
  kernel_rfl
  refine ssNil
  (intro _ _; rfl)
  kernel_rfl
  refine ssCons ?_ ?_
  refine stSw2 (x := so "first") (y := so "around") 4 5 ?_ ?_ ?_ ?_ ?_ ?_
  refine sTup ?_ ?_
  refine svCons ?_ ?_
  refine sAtt ?_ ?_
  refine sSub ?_ ?_
  refine sLoc 2 ?_ ?_ ?_
  kernel_rfl
  kernel_rfl
  kernel_rfl
  refine sInt
  kernel_rfl
  refine svCons ?_ ?_
  refine sCall ?_ ?_ ?_ ?_
  refine sGlob (.ref 349) ?_ ?_ ?_
  kernel_rfl
  (intro c; refine c.mgAt ?_; intro _; kernel_rfl)
  kernel_rfl
  refine svCons ?_ ?_
  refine sLst ?_ ?_
  refine svCons ?_ ?_
  refine sTup ?_ ?_
  refine svCons ?_ ?_
  refine sStr
  refine svCons ?_ ?_
  refine sSub ?_ ?_
  refine sLoc 2 ?_ ?_ ?_
  kernel_rfl
  kernel_rfl
  kernel_rfl
  refine sInt
  refine svNil
  kernel_rfl
  refine svNil
  kernel_rfl
  refine svNil
  kernel_rfl
  kernel_rfl
  refine svNil
  kernel_rfl
  kernel_rfl
  kernel_rfl
  kernel_rfl
  kernel_rfl
  kernel_rfl
  refine ssCons ?_ ?_
  refine stIf ?_ ?_ ?_
  refine sbCmp ?_ ?_ ?_
  refine sCall ?_ ?_ ?_ ?_
  refine sBlt (.builtin "repr") ?_ ?_ ?_ ?_ ?_
  kernel_rfl
  (intro c; refine c.mgNo ?_; intro _; kernel_rfl)
  kernel_rfl
  decide
  kernel_rfl
  refine svCons ?_ ?_
  refine sCall ?_ ?_ ?_ ?_
  refine sGlob (.ref 405) ?_ ?_ ?_
  kernel_rfl
  (intro c; refine c.mgAt ?_; intro _; kernel_rfl)
  kernel_rfl
  refine svCons ?_ ?_
  refine sLoc 5 ?_ ?_ ?_
  kernel_rfl
  kernel_rfl
  kernel_rfl
  refine svNil
  kernel_rfl
  kernel_rfl
  refine svNil
  kernel_rfl
  kernel_rfl
  refine sCall ?_ ?_ ?_ ?_
  refine sBlt (.builtin "repr") ?_ ?_ ?_ ?_ ?_
  kernel_rfl
  (intro c; refine c.mgNo ?_; intro _; kernel_rfl)
  kernel_rfl
  decide
  kernel_rfl
  refine svCons ?_ ?_
  refine sTup ?_ ?_
  refine svCons ?_ ?_
  refine sStr
  refine svCons ?_ ?_
  refine sTup ?_ ?_
  refine svCons ?_ ?_
  refine sTup ?_ ?_
  refine svCons ?_ ?_
  refine sStr
  refine svCons ?_ ?_
  refine sLoc 3 ?_ ?_ ?_
  kernel_rfl
  kernel_rfl
  kernel_rfl
  refine svNil
  kernel_rfl
  refine svNil
  kernel_rfl
  refine svNil
  kernel_rfl
  refine svNil
  kernel_rfl
  kernel_rfl
  kernel_rfl
  refine ssCons ?_ ?_
  refine stRet ?_
  refine sBool
  refine ssNil
  refine ssNil
  refine ssCons ?_ ?_
  refine stRet ?_
  refine sAnd ?_ ?_
  refine sCmp ?_ ?_ ?_
  refine sCall ?_ ?_ ?_ ?_
  refine sBlt (.builtin "repr") ?_ ?_ ?_ ?_ ?_
  kernel_rfl
  (intro c; refine c.mgNo ?_; intro _; kernel_rfl)
  kernel_rfl
  decide
  kernel_rfl
  refine svCons ?_ ?_
  refine sCall ?_ ?_ ?_ ?_
  refine sGlob (.ref 405) ?_ ?_ ?_
  kernel_rfl
  (intro c; refine c.mgAt ?_; intro _; kernel_rfl)
  kernel_rfl
  refine svCons ?_ ?_
  refine sLoc 4 ?_ ?_ ?_
  kernel_rfl
  kernel_rfl
  kernel_rfl
  refine svNil
  kernel_rfl
  kernel_rfl
  refine svNil
  kernel_rfl
  kernel_rfl
  refine sCall ?_ ?_ ?_ ?_
  refine sBlt (.builtin "repr") ?_ ?_ ?_ ?_ ?_
  kernel_rfl
  (intro c; refine c.mgNo ?_; intro _; kernel_rfl)
  kernel_rfl
  decide
  kernel_rfl
  refine svCons ?_ ?_
  refine sLoc 3 ?_ ?_ ?_
  kernel_rfl
  kernel_rfl
  kernel_rfl
  refine svNil
  kernel_rfl
  kernel_rfl
  kernel_rfl
  refine sCall ?_ ?_ ?_ ?_
  refine sGlob (.ref 377) ?_ ?_ ?_
  kernel_rfl
  (intro c; refine c.mgAt ?_; intro _; kernel_rfl)
  kernel_rfl
  refine svCons ?_ ?_
  refine sLoc 4 ?_ ?_ ?_
  kernel_rfl
  kernel_rfl
  kernel_rfl
  refine svCons ?_ ?_
  refine sLoc 4 ?_ ?_ ?_
  kernel_rfl
  kernel_rfl
  kernel_rfl
  refine svNil
  kernel_rfl
  kernel_rfl
  refine ssNil
noncomputable def N_law : List Str := [so "script", so "klass", so "objects", so "forms", so "form", so "k", so "base", so "things"]
noncomputable def T_law : ST := (tSeq (tAss (tCall (tVal (.ref 571)) (lCons (tStr (so "A")) (lCons (tStr (so "class")) lNil))) (gSlot 1)) (tSeq (tAss (tLst (lCons (tCall (tVal (.ref 168)) (lCons (tLoc 1) (lCons (tInt 0) lNil))) (lCons (tCall (tVal (.ref 168)) (lCons (tLoc 1) (lCons (tInt 1) lNil))) lNil))) (gSlot 2)) (tSeq (tSw2 (tTup (lCons (tLst lNil) (lCons (tCall (tVal (.ref 773)) lNil) lNil))) 3 4) (tSeq (tFor (tCall (tVal (.type "enumerate")) (lCons (tLst (lCons (tInt 0) (lCons (tInt 0) (lCons (tInt 2) (lCons (tInt 6) (lCons (tInt 21) (lCons (tInt 34) (lCons (tInt 28) lNil)))))))) lNil)) 1 (gTup 2 (gCons (gSlot 5) (gCons (gSlot 6) gNil))) (tSeq (tAss (tCall (tVal (.ref 792)) (lCons (tLst (lCons (tBin .Add (tLoc 6) (tBin .Mod (tCall (tVal (.builtin "sum")) (lCons (tSub (tLoc 0) (tSlc (tLoc 5) (tVal .none) (tInt 8))) lNil)) (tBin .Pow (tInt 10) (tInt 30)))) lNil)) (lCons (tLoc 4) (lCons (tInt 2) lNil)))) (gSlot 4)) (tSeq (tIf (bCmp .Gt (tLoc 5) (tInt 1)) (tSeq (tExp (tMeth (tLoc 3) (so "append") (lCons (tLoc 4) lNil))) tNil) tNil) tNil))) (tSeq (tCompS 7 (tComp 0 (tLoc 3) (gSlot 0) bTrue (tCall (tVal (.ref 799)) (lCons (tLoc 1) (lCons (tLoc 0) lNil))) 1 [2])) (tSeq (tRet (tAnd (tCall (tVal (.ref 823)) (lCons (tLoc 3) (lCons (tLoc 7) lNil))) (tCall (tVal (.ref 828)) (lCons (tBin .Add (tInt 1) (tBin .Mod (tCall (tVal (.builtin "sum")) (lCons (tLoc 0) lNil)) (tInt 3))) lNil)))) tNil))))))
theorem S_law : SimSs' d_law.scope N_law d_law.body T_law := by
  refine ssCons ?_ ?_
  refine stAss ?_ ?_ ?_ ?_
  refine sCall ?_ ?_ ?_ ?_
  refine sGlob (.ref 571) ?_ ?_ ?_
  kernel_rfl
  (intro c; refine c.mgAt ?_; intro _; kernel_rfl)
  kernel_rfl
  refine svCons ?_ ?_
  refine sStr
  refine svCons ?_ ?_
  refine sStr
  refine svNil
  kernel_rfl
  kernel_rfl
  refine gLoc 1 ?_ ?_
  kernel_rfl
  kernel_rfl
  kernel_rfl
  kernel_rfl
  refine ssCons ?_ ?_
  refine stAss ?_ ?_ ?_ ?_
  refine sLst ?_ ?_
  refine svCons ?_ ?_
  refine sCall ?_ ?_ ?_ ?_
  refine sGlob (.ref 168) ?_ ?_ ?_
  kernel_rfl
  (intro c; refine c.mgAt ?_; intro _; kernel_rfl)
  kernel_rfl
  refine svCons ?_ ?_
  refine sLoc 1 ?_ ?_ ?_
  kernel_rfl
  kernel_rfl
  kernel_rfl
  refine svCons ?_ ?_
  refine sInt
  refine svNil
  kernel_rfl
  kernel_rfl
  refine svCons ?_ ?_
  refine sCall ?_ ?_ ?_ ?_
  refine sGlob (.ref 168) ?_ ?_ ?_
  kernel_rfl
  (intro c; refine c.mgAt ?_; intro _; kernel_rfl)
  kernel_rfl
  refine svCons ?_ ?_
  refine sLoc 1 ?_ ?_ ?_
  kernel_rfl
  kernel_rfl
  kernel_rfl
  refine svCons ?_ ?_
  refine sInt
  refine svNil
  kernel_rfl
  kernel_rfl
  refine svNil
  kernel_rfl
  refine gCell 2 ?_ ?_
  kernel_rfl
  kernel_rfl
  kernel_rfl
  kernel_rfl
  refine ssCons ?_ ?_
  refine stSw2 (x := so "forms") (y := so "form") 3 4 ?_ ?_ ?_ ?_ ?_ ?_
  refine sTup ?_ ?_
  refine svCons ?_ ?_
  refine sLst ?_ ?_
  refine svNil
  kernel_rfl
  refine svCons ?_ ?_
  refine sCall ?_ ?_ ?_ ?_
  refine sGlob (.ref 773) ?_ ?_ ?_
  kernel_rfl
  (intro c; refine c.mgAt ?_; intro _; kernel_rfl)
  kernel_rfl
  refine svNil
  kernel_rfl
  kernel_rfl
  refine svNil
  kernel_rfl
  kernel_rfl
  kernel_rfl
  kernel_rfl
  kernel_rfl
  kernel_rfl
  refine ssCons ?_ ?_
  refine stFor ?_ ?_ ?_ ?_ ?_
  refine sCall ?_ ?_ ?_ ?_
  refine sBlt (.type "enumerate") ?_ ?_ ?_ ?_ ?_
  kernel_rfl
  (intro c; refine c.mgNo ?_; intro _; kernel_rfl)
  kernel_rfl
  decide
  kernel_rfl
  refine svCons ?_ ?_
  refine sLst ?_ ?_
  refine svCons ?_ ?_
  refine sInt
  refine svCons ?_ ?_
  refine sInt
  refine svCons ?_ ?_
  refine sInt
  refine svCons ?_ ?_
  refine sInt
  refine svCons ?_ ?_
  refine sInt
  refine svCons ?_ ?_
  refine sInt
  refine svCons ?_ ?_
  refine sInt
  refine svNil
  kernel_rfl
  refine svNil
  kernel_rfl
  kernel_rfl
  refine gTuple ?_ ?_
  refine gsCons ?_ ?_ ?_
  refine gLoc 5 ?_ ?_
  kernel_rfl
  kernel_rfl
  refine gsCons ?_ ?_ ?_
  refine gLoc 6 ?_ ?_
  kernel_rfl
  kernel_rfl
  refine gsNil
  kernel_rfl
  kernel_rfl
  kernel_rfl
  refine ssCons ?_ ?_
  refine stAss ?_ ?_ ?_ ?_
  refine sCall ?_ ?_ ?_ ?_
  refine sGlob (.ref 792) ?_ ?_ ?_
  kernel_rfl
  (intro c; refine c.mgAt ?_; intro _; kernel_rfl)
  kernel_rfl
  refine svCons ?_ ?_
  refine sLst ?_ ?_
  refine svCons ?_ ?_
  refine sBin ?_ ?_
  refine sLoc 6 ?_ ?_ ?_
  kernel_rfl
  kernel_rfl
  kernel_rfl
  refine sBin ?_ ?_
  refine sCall ?_ ?_ ?_ ?_
  refine sBlt (.builtin "sum") ?_ ?_ ?_ ?_ ?_
  kernel_rfl
  (intro c; refine c.mgNo ?_; intro _; kernel_rfl)
  kernel_rfl
  decide
  kernel_rfl
  refine svCons ?_ ?_
  refine sSub ?_ ?_
  refine sLoc 0 ?_ ?_ ?_
  kernel_rfl
  kernel_rfl
  kernel_rfl
  refine sSlc ?_ ?_ ?_
  refine soSome ?_
  refine sLoc 5 ?_ ?_ ?_
  kernel_rfl
  kernel_rfl
  kernel_rfl
  refine soNone
  refine soSome ?_
  refine sInt
  refine svNil
  kernel_rfl
  kernel_rfl
  refine sBin ?_ ?_
  refine sInt
  refine sInt
  refine svNil
  kernel_rfl
  refine svCons ?_ ?_
  refine sLoc 4 ?_ ?_ ?_
  kernel_rfl
  kernel_rfl
  kernel_rfl
  refine svCons ?_ ?_
  refine sInt
  refine svNil
  kernel_rfl
  kernel_rfl
  refine gLoc 4 ?_ ?_
  kernel_rfl
  kernel_rfl
  kernel_rfl
  kernel_rfl
  refine ssCons ?_ ?_
  refine stIf ?_ ?_ ?_
  refine sbCmp ?_ ?_ ?_
  refine sLoc 5 ?_ ?_ ?_
  kernel_rfl
  kernel_rfl
  kernel_rfl
  refine sInt
  kernel_rfl
  refine ssCons ?_ ?_
  refine stExp ?_ ?_
  refine sMeth ?_ ?_ ?_ ?_ ?_ ?_
  refine sLoc 3 ?_ ?_ ?_
  kernel_rfl
  kernel_rfl
  kernel_rfl
  refine svCons ?_ ?_
  refine sLoc 4 ?_ ?_ ?_
  kernel_rfl
  kernel_rfl
  kernel_rfl
  refine svNil
  kernel_rfl
  kernel_rfl
  decide
  kernel_rfl
  kernel_rfl
  refine ssNil
  refine ssNil
  refine ssNil
  (intro _ _; rfl)
  kernel_rfl
  refine ssCons ?_ ?_
  refine stComp (own := [so "form"]) (fr := [so "objects"]) (fi := [2]) 7 ?_ ?_ ?_ ?_ ?_ ?_ ?_ ?_ ?_
  kernel_rfl
  refine sLoc 3 ?_ ?_ ?_
  kernel_rfl
  kernel_rfl
  kernel_rfl
  refine gcLoc 0 ?_ ?_
  kernel_rfl
  kernel_rfl
  refine siNil
  refine sCall ?_ ?_ ?_ ?_
  refine sGlob (.ref 799) ?_ ?_ ?_
  kernel_rfl
  (intro c; refine c.mgAt ?_; intro _; kernel_rfl)
  kernel_rfl
  refine svCons ?_ ?_
  refine sCell 1 ?_ ?_ ?_
  kernel_rfl
  kernel_rfl
  kernel_rfl
  refine svCons ?_ ?_
  refine sLoc 0 ?_ ?_ ?_
  kernel_rfl
  kernel_rfl
  kernel_rfl
  refine svNil
  kernel_rfl
  kernel_rfl
  (intro _ _; rfl)
  kernel_rfl
  kernel_rfl
  kernel_rfl
  refine ssCons ?_ ?_
  refine stRet ?_
  refine sAnd ?_ ?_
  refine sCall ?_ ?_ ?_ ?_
  refine sGlob (.ref 823) ?_ ?_ ?_
  kernel_rfl
  (intro c; refine c.mgAt ?_; intro _; kernel_rfl)
  kernel_rfl
  refine svCons ?_ ?_
  refine sLoc 3 ?_ ?_ ?_
  kernel_rfl
  kernel_rfl
  kernel_rfl
  refine svCons ?_ ?_
  refine sLoc 7 ?_ ?_ ?_
  kernel_rfl
  kernel_rfl
  kernel_rfl
  refine svNil
  kernel_rfl
  kernel_rfl
  refine sCall ?_ ?_ ?_ ?_
  refine sGlob (.ref 828) ?_ ?_ ?_
  kernel_rfl
  (intro c; refine c.mgAt ?_; intro _; kernel_rfl)
  kernel_rfl
  refine svCons ?_ ?_
  refine sBin ?_ ?_
  refine sInt
  refine sBin ?_ ?_
  refine sCall ?_ ?_ ?_ ?_
  refine sBlt (.builtin "sum") ?_ ?_ ?_ ?_ ?_
  kernel_rfl
  (intro c; refine c.mgNo ?_; intro _; kernel_rfl)
  kernel_rfl
  decide
  kernel_rfl
  refine svCons ?_ ?_
  refine sLoc 0 ?_ ?_ ?_
  kernel_rfl
  kernel_rfl
  kernel_rfl
  refine svNil
  kernel_rfl
  kernel_rfl
  refine sInt
  refine svNil
  kernel_rfl
  kernel_rfl
  refine ssNil
end Mine
end
section
open PySem PySem.W PySem.Calls PyProof.Rows
set_option Elab.async false
set_option maxRecDepth 100000
set_option linter.unusedVariables false
namespace Mine
section
variable {c : Cx} {A : Around} {u : PM} {Q : Value → PM → Prop} {a b : Int} {t t' : Tok} {x y : Str} {p q : Bool}
theorem eqI (h : Q (.bool (a == b)) u) : RU c A (compareOp .Eq (.int a t) (.int b t')) u Q := fun _ _ B E => PyProof.Rows.eq_int (OutX.same h E B)
theorem neI (h : Q (.bool (a != b)) u) : RU c A (compareOp .NotEq (.int a t) (.int b t')) u Q := fun _ _ B E => PyProof.Rows.ne_int (OutX.same h E B)
theorem ltI (h : Q (.bool (decide (a < b))) u) : RU c A (compareOp .Lt (.int a t) (.int b t')) u Q := fun _ _ B E => PyProof.Rows.lt_int (OutX.same h E B)
theorem gtI (h : Q (.bool (decide (b < a))) u) : RU c A (compareOp .Gt (.int a t) (.int b t')) u Q := fun _ _ B E => PyProof.Rows.gt_int (OutX.same h E B)
theorem leI (h : Q (.bool (decide (a ≤ b))) u) : RU c A (compareOp .LtE (.int a t) (.int b t')) u Q := fun _ _ B E => PyProof.Rows.le_int (OutX.same h E B)
theorem geI (h : Q (.bool (decide (b ≤ a))) u) : RU c A (compareOp .GtE (.int a t) (.int b t')) u Q := fun _ _ B E => PyProof.Rows.ge_int (OutX.same h E B)
theorem eqS (h : Q (.bool (x == y)) u) : RU c A (compareOp .Eq (.str x t) (.str y t')) u Q := fun _ _ B E => PyProof.Rows.eq_str (OutX.same h E B)
theorem neS (h : Q (.bool (x != y)) u) : RU c A (compareOp .NotEq (.str x t) (.str y t')) u Q := fun _ _ B E => PyProof.Rows.ne_str (OutX.same h E B)
theorem eqB (h : Q (.bool (p == q)) u) : RU c A (compareOp .Eq (.bool p) (.bool q)) u Q := fun _ _ B E => PyProof.Rows.eq_bool (OutX.same h E B)
theorem neB (h : Q (.bool (p != q)) u) : RU c A (compareOp .NotEq (.bool p) (.bool q)) u Q := fun _ _ B E => PyProof.Rows.ne_bool (OutX.same h E B)
theorem eqN (h : Q (.bool true) u) : RU c A (compareOp .Eq .none .none) u Q := fun _ _ B E => PySem.EqNone.eq_none_none (OutX.same h E B)
theorem isN {v : Value} (h : Q (.bool (v == .none)) u) : RU c A (compareOp .Is v .none) u Q := fun _ _ B E => is_none_gen (OutX.same h E B)
theorem isR {a : Addr} (h : Q (.bool true) u) : RU c A (compareOp .Is (.ref a) (.ref a)) u Q := fun _ _ B E => wpAny_is_ref_self (OutX.same h E B)
theorem addI (h : ∀ t, Q (.int (a + b) t) u) : RU c A (binaryOp .Add (.int a t) (.int b t')) u Q := fun _ _ B E => PyProof.Rows.add_int (OutX.same (h _) E B)
theorem iaddI (h : ∀ t, Q (.int (a + b) t) u) : RU c A (inplaceOp .Add (.int a t) (.int b t')) u Q := fun _ _ B E => PyProof.Rows.iadd_int (OutX.same (h _) E B)
theorem subI (h : ∀ t, Q (.int (a - b) t) u) : RU c A (binaryOp .Sub (.int a t) (.int b t')) u Q := fun _ _ B E => PyProof.Rows.sub_int (OutX.same (h _) E B)
theorem mulI (hm : IntMulOk a b) (h : ∀ t, Q (.int (a * b) t) u) : RU c A (binaryOp .Mult (.int a t) (.int b t')) u Q := fun _ _ B E => PyProof.Rows.mul_int (OutX.same (h _) E B) hm
theorem modI (hb : b ≠ 0) (h : ∀ t, Q (.int (a.fmod b) t) u) : RU c A (binaryOp .Mod (.int a t) (.int b t')) u Q := fun _ _ B E => PyProof.Rows.mod_int hb (OutX.same (h _) E B)
theorem powI (hn : 0 ≤ b) (hn2 : b ≤ 1000000) (ha : a.natAbs < 2 ^ 64) (h : ∀ t, Q (.int (a ^ b.toNat) t) u) : RU c A (binaryOp .Pow (.int a t) (.int b t')) u Q := fun _ _ B E => PyProof.Rows.pow_int_small hn hn2 ha (OutX.same (h _) E B)
theorem shrI (hn : 0 ≤ b) (h : ∀ t, Q (.int (a.fdiv (2 ^ b.toNat)) t) u) : RU c A (binaryOp .RShift (.int a t) (.int b t')) u Q := fun _ _ B E => PyProof.Rows.rshift_int hn (OutX.same (h _) E B)
theorem orI (h : ∀ t, Q (.int (Builtin.bitOr a b) t) u) : RU c A (binaryOp .BitOr (.int a t) (.int b t')) u Q := fun _ _ B E => PyProof.Rows.or_int (OutX.same (h _) E B)
theorem negI (h : ∀ t, Q (.int (-a) t) u) : RU c A (unaryOp .USub (.int a t)) u Q := fun _ _ B E => PyProof.Rows.neg_int (OutX.same (h _) E B)
theorem notB (h : Q (.bool (!p)) u) : RU c A (unaryOp .Not (.bool p)) u Q := fun _ _ B E => wpAny_bind (wpAny_truthy_bool (wpAny_pure (OutX.same h E B)))
theorem trB {Q : Bool → PM → Prop} (h : Q p u) : RU c A (truthy (.bool p)) u Q := fun _ _ B E => wpAny_truthy_bool (OutX.same h E B)
theorem strI (ha : a.natAbs.log2 < 1920) (h : ∀ t, Q (.str (Str.ofString (toString a)) t) u) : RU c A (call (.type "str") [.int a t]) u Q := fun _ _ B E => P.str_of_int ha (OutX.same (h _) E B)
theorem lenL {l : Addr} {xs : List Value} (hl : Lst u l xs) (hf : (xs.length : Int) < 2 ^ 63) (h : ∀ t, Q (.int xs.length t) u) : RU c A (call (.builtin "len") [.ref l]) u Q := fun _ _ B E =>
  call_len_list (hl.isList E) (by simpa using hf) (by simpa using OutX.same (h _) E B)
theorem chrI (hi : (decide (a < 0) || decide (a > 0x10FFFF)) = false) (h : ∀ t, Q (.str ⟨#[a.toNat]⟩ t) u) : RU c A (call (.builtin "chr") [.int a t]) u Q := fun _ _ B E => P.chr_of_int hi (OutX.same (h _) E B)
theorem rng1 {n : Nat} (h : ∀ r o, u r = none → RngO o n → Q (.ref r) (upd u r o)) : RU c A (call (.type "range") [.int n t]) u Q := fun _ _ B E =>
  call_range_1 (push_out B E rfl (h _ _ (emb_new E) ⟨_, _, _, rfl⟩))
theorem tupN {vs : List Value} (hs : vs.length ≤ sizeLine) (h : ∀ a o, u a = none → TupO o vs → Q (.ref a) (upd u a o)) : RU c A (newTuple vs) u Q := fun _ _ B E => wpAny_newTuple (push_out B E rfl (h _ _ (emb_new E) ⟨rfl, _, rfl⟩)) hs
theorem lstN {vs : List Value} (hs : vs.length ≤ sizeLine) (h : ∀ a o, u a = none → c.h0.get? a = none → LstO o vs → Q (.ref a) (upd u a o)) : RU c A (newList vs) u Q := fun _ _ B E => wpAny_newList (push_out B E rfl (h _ _ (emb_new E) (h0none B) ⟨_, rfl⟩)) hs
end
end Mine
end
section
open PySem PySem.W PySem.Calls PyProof.Rows
set_option Elab.async false
set_option maxRecDepth 100000
set_option linter.unusedVariables false
namespace Mine
theorem upd_out {α : Type} {c : Cx} {u : PM} {h h' : Heap} {tk : Nat} {l : Addr} {o o' : Obj} {Q : α → PM → Prop} {v : α} (B : Base c h) (E : Emb u h) (e : u l = some o) (h0 : c.h0.get? l = none) (sb : Heap.SameBut l h h') (e' : h'.get? l = some o') (q : Q v (upd u l o')) : OutX c u h Q v (sh c h' tk) := by
  refine OutX.mk q (fun b x z => ?_) ⟨fun b x z => (sb.2 b fun y => by rw [y, h0] at z; cases z).trans (B.keep _ _ z)⟩ fun b x z1 z2 => ?_
  · by_cases y : b = l
    · subst y; rw [upd_self] at z; cases z; exact e'
    · rw [upd_ne y] at z; exact (sb.2 b y).trans (E b x z)
  · have y : b ≠ l := fun y => by rw [y, e] at z1; cases z1
    exact ⟨(sb.2 b y).trans z2, by rw [upd_ne y]; exact z1⟩
theorem still_out {α : Type} {c : Cx} {u : PM} {h h' : Heap} {tk : Nat} {Q : α → PM → Prop} {v : α} (B : Base c h) (E : Emb u h) (hk : ∀ b o, h.get? b = some o → h'.get? b = some o) (q : Q v u) : OutX c u h Q v (sh c h' tk) :=
  OutX.mk q (fun b o e => hk b o (E b o e)) ⟨fun b o e => hk b o (B.keep b o e)⟩ fun b o e1 e2 => ⟨hk b o e2, e1⟩
theorem grow_out {α : Type} {c : Cx} {u : PM} {h h' : Heap} {tk : Nat} {a : Addr} {o : Obj} {Q : α → PM → Prop} {v : α} (B : Base c h) (E : Emb u h) (hk : ∀ b o, h.get? b = some o → h'.get? b = some o) (ha : h.get? a = none) (e : h'.get? a = some o) (q : u a = none → c.h0.get? a = none → Q v (upd u a o)) : OutX c u h Q v (sh c h' tk) := by
  have hu : u a = none := by
    cases z : u a with
    | none => rfl
    | some x => rw [E a x z] at ha; cases ha
  have h0 : c.h0.get? a = none := by
    cases z : c.h0.get? a with
    | none => rfl
    | some x => rw [B.keep a x z] at ha; cases ha
  refine OutX.mk (q hu h0) (emb_upd (fun b x z => hk b x (E b x z)) e) ⟨fun b x z => hk b x (B.keep b x z)⟩ fun b x z1 z2 => ⟨hk b x z2, ?_⟩
  rw [upd_ne (fun y => by rw [y, ha] at z2; cases z2)]; exact z1
section
variable {c : Cx} {A : Around} {u : PM} {Q : Value → PM → Prop} {l : Addr} {xs ys : List Value} {k : Int} {t : Tok}
/-! lists -/
theorem getL {v : Value} (hl : Lst u l xs) (h0 : 0 ≤ k) (hf : k < 2 ^ 63) (hx : xs[k.toNat]? = some v) (h : Q v u) : RU c A (getItem (.ref l) (.int k t)) u Q := fun _ _ B E => wpAny_getItem_list (hl.isList E) h0 hf (by simpa using hx) (OutX.same h E B)
theorem inPyL {Q : Bool → PM → Prop} (hl : Lst u l xs) (h : Q false u) : RU c A (getitemInPython (.ref l)) u Q := fun hp tk B E => by
  have hT : (sh c hp tk).TypeIs (.ref l) "list" := (hl.isList E).typeIs
  unfold getitemInPython
  exact wpAny_bind (wpAny_specialOf hT list_getitem_lookup (wpAny_pure (OutX.same h E B)))
theorem setL {Q : Unit → PM → Prop} {v : Value} {n : Nat} (e : u l = some (lstOf xs n)) (hn : c.h0.get? l = none) (h0 : 0 ≤ k) (hf : k < 2 ^ 63) (hx : k < xs.length) (h : ∀ n', Q () (upd u l (lstOf (xs.set k.toNat v) n'))) : RU c A (setItem (.ref l) (.int k t) v) u Q := fun hp tk B E => by
  refine ki_setAt (n := n) (items := xs.toArray) (E _ _ e) h0 hf (by simpa using hx) ?_
  have q := PySem.IsL.update (n := n) (items := xs.toArray) (h := hp) (E _ _ e) (·.setIfInBounds k.toNat v)
  have e2 : xs.toArray.setIfInBounds k.toNat v = (xs.set k.toNat v).toArray := by simp
  rw [e2] at q
  exact upd_out B E e hn (Heap.SameBut.update ..) q (h _)
theorem apdL {v : Value} {n : Nat} (e : u l = some (lstOf xs n)) (hn : c.h0.get? l = none) (hs : xs.length ≤ sizeLine) (h : ∀ n', Q .none (upd u l (lstOf (xs ++ [v]) n'))) : RU c A (call (.builtin "list.append") [.ref l, v]) u Q := fun hp tk B E => by
  refine wpAny_list_append_plain (items := xs.toArray) ⟨n, E _ _ e⟩ (fun h' L' sb => ?_) (by simpa using hs)
  obtain ⟨n', e'⟩ := L'
  have e2 : xs.toArray.push v = (xs ++ [v]).toArray := by simp
  rw [e2] at e'
  exact upd_out B E e hn sb e' (h n')
theorem mApd {Q : Value × List Value → PM → Prop} {pl : Sem Bool} (hl : Lst u l xs) (h : Q (.builtin "list.append", [.ref l]) u) : RU c A (getMethod (.ref l) (so "append") pl) u Q := fun _ _ B E => by
  obtain ⟨o, e, n, rfl⟩ := hl
  exact getMethod_list_append (E _ _ e) rfl rfl (OutX.same h E B)
theorem mPop {Q : Value × List Value → PM → Prop} {pl : Sem Bool} (hl : Lst u l xs) (h : Q (.builtin "list.pop", [.ref l]) u) : RU c A (getMethod (.ref l) (so "pop") pl) u Q := fun hp tk B E => by
  obtain ⟨o, e, n, rfl⟩ := hl
  exact getMethod_builtin (s := sh c hp tk) ⟨_, E _ _ e, rfl⟩ PySem.F.plainAttrs_list PySem.F.slot_list_pop PySem.F.type_list_pop (fun a z => by cases z; exact ⟨_, E _ _ e, rfl⟩) (OutX.same h E B)
theorem popL {v : Value} {n : Nat} (e : u l = some (lstOf xs n)) (hn : c.h0.get? l = none) (hs : xs.length ≤ sizeLine) (h0 : 0 ≤ k) (hf : k < 2 ^ 31) (hx : xs[k.toNat]? = some v) (h : ∀ n', Q v (upd u l (lstOf (xs.eraseIdx k.toNat) n'))) : RU c A (call (.builtin "list.pop") [.ref l, .int k t]) u Q := fun hp tk B E => by
  have hlt : k.toNat < xs.length := (List.getElem?_eq_some_iff.mp hx).1
  have hk : seqIndex? k xs.toArray.size = some k.toNat := by
    unfold seqIndex?
    have h1 : ¬ k < 0 := by omega
    have h2 : k < xs.length := by omega
    simp [h1, h0, h2]
  refine call_meets (s := sh c hp tk) PySem.F.slot_list_pop ⟨_, E _ _ e, rfl⟩ PySem.F.entry_list_pop (PySem.F.args_list_pop_2 _ _) (PySem.MeetsSeq.list_pop_at l xs.toArray n k t k.toNat v (by simp [Builtin.List.listFitsIndex]; omega) hk (by simpa using hx) (by simpa using hs)) ⟨E _ _ e, ?_⟩
  have q := PySem.IsL.update (n := n) (items := xs.toArray) (h := hp) (E _ _ e) (fun ys => ys.eraseIdxIfInBounds k.toNat)
  have e2 : xs.toArray.eraseIdxIfInBounds k.toNat = (xs.eraseIdx k.toNat).toArray := by simp
  rw [e2] at q
  exact upd_out B E e hn (Heap.SameBut.update ..) q (h _)
theorem addL {b : Addr} (hl : Lst u l xs) (hb : Lst u b ys) (hs : xs.length + ys.length ≤ sizeLine) (h : ∀ a o, u a = none → c.h0.get? a = none → LstO o (xs ++ ys) → Q (.ref a) (upd u a o)) : RU c A (binaryOp .Add (.ref l) (.ref b)) u Q := fun hp tk B E => by
  obtain ⟨n, e⟩ := hl.plain E
  obtain ⟨m, e2⟩ := hb.plain E
  refine concat_meets (s := sh c hp tk) ⟨_, e, rfl⟩ ⟨_, e2, rfl⟩ noFill_list_add seq_list_add PySem.F.slot_list_add PySem.F.entry_list_add (PySem.F.args_list_add_2 _ _) (AutoSeq1.list___add___list_list_0 l xs.toArray n b ys.toArray m (by simpa using hs)) ⟨e, e2, ?_⟩
  have e3 : xs.toArray ++ ys.toArray = (xs ++ ys).toArray := by simp
  rw [e3]
  exact push_out B E rfl (h _ _ (emb_new E) (h0none B) ⟨_, rfl⟩)
theorem slcL {b : Addr} {o : Obj} {lo hi : Value} {plo phi : Option Int} (hl : Lst u l xs) (hb : u b = some o) (ho : o.cls = .type "slice" ∧ o.data = .fields #[lo, hi, .none]) (p1 : IsPart lo plo) (p2 : IsPart hi phi) (hs : xs.length ≤ sizeLine) (h : ∀ a o, u a = none → c.h0.get? a = none → LstO o (slicePick xs.toArray plo phi none).toList → Q (.ref a) (upd u a o)) :
    RU c A (getItem (.ref l) (.ref b)) u Q := fun hp tk B E =>
  wpAny_getItem_list_slice (hl.isList E) ⟨o, E _ _ hb, ho.1, ho.2⟩ p1 p2 .none (by simp) (push_out B E rfl (h _ _ (emb_new E) (h0none B) ⟨0, by simp [lstOf]⟩)) (by simpa using hs)
theorem newSlc {x y z : Value} (h : ∀ a o, u a = none → o.cls = .type "slice" ∧ o.data = .fields #[x, y, z] → Q (.ref a) (upd u a o)) : RU c A (newFields "slice" [x, y, z]) u Q := fun hp tk B E => by
  unfold newFields
  exact wpAny_newObj_type (push_out B E rfl (h _ _ (emb_new E) ⟨rfl, rfl⟩))
theorem mulL {n : Nat} {v : Value} {z : Int} (e : u l = some (lstOf [v] n)) (h0 : 0 ≤ z) (hx : z ≤ 16777216) (h : ∀ a o, u a = none → c.h0.get? a = none → LstO o (List.replicate z.toNat v) → Q (.ref a) (upd u a o)) : RU c A (binaryOp .Mult (.ref l) (.int z t)) u Q := fun hp tk B E => by
  have el := E _ _ e
  have c0 : ¬(!Builtin.List.listFitsIndex z) = true := by
    have f1 : Builtin.List.listFitsIndex z = true := by
      unfold Builtin.List.listFitsIndex
      rw [Bool.and_eq_true]
      have e : (2 : Int) ^ 63 = 9223372036854775808 := rfl
      exact ⟨decide_eq_true (by rw [e]; omega), decide_eq_true (by rw [e]; omega)⟩
    rw [f1]; decide
  have hsz : [v].toArray.size * z.toNat = z.toNat := by simp
  have M := AutoListH.list___mul___list_int_3 l [v].toArray n z t c0 (by rw [hsz]; omega) (by
    rw [hsz]
    unfold Builtin.List.listTooLong
    have : ¬ z.toNat > sizeLine := by rw [sizeLine_eq]; omega
    rw [decide_eq_false this]; decide)
  have fin : OutX c u hp Q (Value.ref hp.objs.size) (sh c (hp.push { cls := Value.type "list", data := Data.seq (List.foldl (fun x1 x2 => x1 ++ x2) #[] (List.replicate (if [v].toArray.isEmpty = true then 0 else z.toNat) [v].toArray)) }) tk) := by
    refine push_out B E rfl (h _ _ (emb_new E) (h0none B) ?_)
    refine ⟨0, ?_⟩
    have e3 : ∀ (k : Nat) (acc : List Value), List.foldl (fun x1 x2 => x1 ++ x2) acc.toArray (List.replicate k [v].toArray) = (acc ++ List.replicate k v).toArray := by
      intro k
      induction k with
      | zero => intro acc; simp
      | succ k ih =>
        intro acc
        have e6 : acc.toArray ++ [v].toArray = (acc ++ [v]).toArray := by simp
        rw [List.replicate_succ, List.foldl_cons, e6, ih, List.replicate_succ]; simp
    have e4 := e3 z.toNat []
    have e5 : (if [v].toArray.isEmpty = true then 0 else z.toNat) = z.toNat := by simp
    rw [e5, e4]
    simp [lstOf]
  exact wpAny_binaryOp_repeat_ref (T := "list") (U := "int") (s := sh c hp tk) (by decide) ⟨_, el, rfl⟩ (fun s' => typeIs_int s' z t) noFill_list_mul PySem.F.fills_int_mul PySem.F.slot_int_rmul repeat_list PySem.F.slot_int_index.lookup
    (call_meets PySem.F.slot_int_rmul (typeIs_int _ z t) PySem.F.entry_int_rmul (PySem.F.args_int_rmul_2 _ _) (int___rmul___int_list z t l [v].toArray n)
      ⟨el, rfl, ⟨_, el, rfl⟩, call_meets PySem.F.slot_list_mul ⟨_, el, rfl⟩ PySem.F.entry_list_mul (PySem.F.args_list_mul_2 _ _) M ⟨el, fin⟩⟩)
/-! tuples -/
theorem getT {v : Value} (hl : Tup u l xs) (h0 : 0 ≤ k) (hf : k < 2 ^ 63) (hx : xs[k.toNat]? = some v) (h : Q v u) : RU c A (getItem (.ref l) (.int k t)) u Q := fun _ _ B E => by
  have hlt : k.toNat < xs.length := (List.getElem?_eq_some_iff.mp hx).1
  have hk : seqIndex? k xs.toArray.size = some k.toNat := by
    unfold seqIndex?
    have h1 : ¬ k < 0 := by omega
    have h2 : k < xs.length := by omega
    simp [h1, h0, h2]
  exact PyProof.Rows.getItem_tuple (hl.isTuple E) (by omega) hf hk (by simpa using hx) (OutX.same h E B)
theorem inPyT {Q : Bool → PM → Prop} (hl : Tup u l xs) (h : Q false u) : RU c A (getitemInPython (.ref l)) u Q := fun hp tk B E => by
  have hT : (sh c hp tk).TypeIs (.ref l) "tuple" := (hl.isTuple E).typeIs
  unfold getitemInPython
  exact wpAny_bind (wpAny_specialOf hT PySem.F.slot_tuple_getitem.lookup (wpAny_pure (OutX.same h E B)))
theorem lenT (hl : Tup u l xs) (hf : (xs.length : Int) < 2 ^ 63) (h : ∀ t, Q (.int xs.length t) u) : RU c A (call (.builtin "len") [.ref l]) u Q := fun _ _ B E =>
  len_tuple (hl.isTuple E) (by simpa using hf) (by simpa using OutX.same (h _) E B)
theorem unpT {Q : List Value → PM → Prop} {n : Nat} (hl : Tup u l xs) (hn : xs.length = n) (hh : A.handled = none) (h : Q xs u) : RU c A (unpackItems (.ref l) n none) u Q := fun hp tk B E => by
  have e : n = xs.toArray.size := by simp [hn]
  rw [e]
  refine wpAny_unpackItems_tuple hh (hl.isTuple E) fun h' sb => ?_
  have hk : ∀ b o, hp.get? b = some o → h'.get? b = some o := fun b o z => sb b o (Nat.ne_of_lt (Heap.lt_size z)) z
  exact still_out B E hk (by simpa using h)
theorem ordC {k : Nat} (h : ∀ t, Q (.int k t) u) : RU c A (call (.builtin "ord") [.str ⟨#[k]⟩ t]) u Q := fun _ _ B E => P.ord_of_char (OutX.same (h _) E B)
theorem tupL (hl : Lst u l xs) (hs : xs.length ≤ sizeLine) (h : ∀ a o, u a = none → TupO o xs → Q (.ref a) (upd u a o)) : RU c A (call (.type "tuple") [.ref l]) u Q := fun hp tk B E => by
  refine call_tuple_list (hl.isList E) (fun h' hk => ?_) (by simpa using hs)
  have ha : hp.get? h'.objs.size = none := by
    cases z : hp.get? h'.objs.size with
    | none => rfl
    | some o => exact absurd (Heap.lt_size (hk _ _ z)) (Nat.lt_irrefl _)
  exact grow_out B E (fun b o z => Heap.get?_push_of_some _ (hk b o z)) ha (Heap.get?_push_size _ rfl) fun q1 q2 => h _ _ q1 ⟨rfl, _, rfl⟩
theorem lstT (hl : Tup u l xs) (hs : xs.length ≤ sizeLine) (h : ∀ a o, u a = none → c.h0.get? a = none → LstO o xs → Q (.ref a) (upd u a o)) : RU c A (call (.type "list") [.ref l]) u Q := fun hp tk B E => by
  obtain ⟨o, e, hc, n, hd⟩ := hl
  refine call_list_seq l (.inr rfl) (E _ _ e) hc hd (fun h' c' hk hn => ?_) (by simpa using hs)
  exact grow_out B E hk (size_none _) hn fun q1 q2 => h _ _ q1 q2 ⟨c', rfl⟩
end
end Mine
end
section
open PySem PySem.W PySem.Calls PyProof.Rows Builtin Builtin.ObjectAttr
set_option Elab.async false
set_option maxRecDepth 100000
set_option linter.unusedVariables false
namespace Mine
/-! instances -/
/-- an instance's dict -/
noncomputable def DctO (o : Obj) (m : Str → Option Value) : Prop := ∃ es ep, o.data = .dict es ep ∧ StrKeys es ∧ UniqKeys es ∧ ∀ x, nsFind es x = m x
theorem DctO.ns {h : Heap} {a : Addr} {o : Obj} {m : Str → Option Value} (d : DctO o m) (e : h.get? a = some o) : h.Ns1 a m := let ⟨es, ep, r⟩ := d; ⟨o, es, ep, e, r⟩
theorem DctO.look {o : Obj} {m : Str → Option Value} (d : DctO o m) (x : Str) : lookIn x o = some (m x) := by
  obtain ⟨es, ep, hd, hk, hu, hm⟩ := d
  unfold lookIn
  rw [hd]
  dsimp only
  have e := hm x
  unfold nsFind findBy at e
  rw [← Array.find?_toList] at e
  split
  · rename_i en he
    rw [he] at e; rw [← e]; rfl
  · rename_i he
    rw [he] at e
    have : es.toList.any (·.refKey) = false := by
      rw [Array.any_toList, Array.any_eq_false']; intro en hen; obtain ⟨n, t, h⟩ := hk en hen; simp [DictEntry.refKey, h]
    rw [this, ← e]; rfl
structure Ins (c : Cx) (u : PM) (x dx D : Addr) (ns : List Str) (vs : List (Option Value)) : Prop where
  at_ : u x = some (instObj D dx)
  dct : ∃ o, u dx = some o ∧ DctO o (slot ns vs)
  len : vs.length = ns.length
  h0 : c.h0.get? dx = none
structure Cls (D : Addr) (ns : List Str) : Prop where
  get : ∀ P, plainGet (KK P) D (so "") = true
  set : ∀ P, findIn (KK P) (.ref D) "__setattr__" = some (some (.builtin "object.__setattr__"))
  over : ∀ P, plainOver (KK P) D = true
  dict : ∀ P, hasDictIn (KK P) D = true
  cl : ∀ P, findIn (KK P) (.ref D) "__class__" = some (some (.builtin "object.__class__"))
  mro : ∀ P, mroIn (KK P) D (.type "object") = some true
  attrs : ∀ P, ns.all (fun n => findIn (KK P) (.ref D) n == some none) = true
  few : ns.length ≤ 900
theorem cls_n : ∀ P, specialIn (KK P) (.builtin "object.__class__") "__get__" = some (some (.builtin "getset_descriptor.__get__")) := fun P => by kernel_rfl
theorem cls_tk : ∀ P, takesIn (KK P) (.builtin "object.__class__") = some true := fun P => by kernel_rfl
theorem idx_mem : ∀ {ns : List Str} {x : Str} {i : Nat}, idx ns x = some i → x ∈ ns
  | [], _, _, h => by cases h
  | n :: ns, x, i, h => by
    unfold idx at h
    by_cases e : n = x
    · rw [e]; exact List.mem_cons_self ..
    · rw [if_neg e] at h
      obtain ⟨j, hj, _⟩ := Option.map_eq_some_iff.mp h
      exact List.mem_cons_of_mem _ (idx_mem hj)
theorem slot_in (ns : List Str) (vs : List (Option Value)) : Within (slot ns vs) ns := fun y hy => Decidable.byContradiction fun z => hy (slot_none z)
theorem Cls.attr {D : Addr} {ns : List Str} (K : Cls D ns) {x : Str} {i : Nat} (h : idx ns x = some i) (P : Params) : findIn (KK P) (.ref D) x = some none :=
  beq_iff_eq.mp (List.all_eq_true.mp (K.attrs P) x (idx_mem h))
section
variable {c : Cx} {A : Around} {u u' : PM} {x dx D b l : Addr} {ob : Obj} {ns : List Str} {vs : List (Option Value)} {h : Heap} {xs : List Value}
theorem Ins.inst (I : Ins c u x dx D ns vs) (E : Emb u h) : ∃ od, u dx = some od ∧ DctO od (slot ns vs) ∧ InstAt h x (instObj D dx) D (some od) :=
  let ⟨o, e, d⟩ := I.dct; ⟨o, e, d, E _ _ I.at_, rfl, rfl, E _ _ e⟩
theorem Ins.le (I : Ins c u x dx D ns vs) (l : Le u u') : Ins c u' x dx D ns vs := ⟨l _ _ I.at_, let ⟨o, e, d⟩ := I.dct; ⟨o, l _ _ e, d⟩, I.len, I.h0⟩
theorem Ins.other (I : Ins c u x dx D ns vs) (h1 : x ≠ b) (h2 : dx ≠ b) : Ins c (upd u b ob) x dx D ns vs :=
  ⟨(upd_ne h1).trans I.at_, let ⟨o, e, d⟩ := I.dct; ⟨o, (upd_ne h2).trans e, d⟩, I.len, I.h0⟩
theorem Ins.ne (I : Ins c u x dx D ns vs) : x ≠ dx := fun z => by
  obtain ⟨o, e, es, n, hd, _⟩ := I.dct
  have := I.at_
  rw [z, e] at this; cases this; cases hd
theorem Ins.dxL (I : Ins c u x dx D ns vs) (L : Lst u l xs) : dx ≠ l := fun z => by
  obtain ⟨o, e, es, n, hd, _⟩ := I.dct
  obtain ⟨o', e', n', rfl⟩ := L
  rw [z, e'] at e; cases e; cases hd
theorem Ins.xL (I : Ins c u x dx D ns vs) (L : Lst u l xs) : x ≠ l := fun z => by
  obtain ⟨o', e', n', rfl⟩ := L
  have := I.at_
  rw [z, e'] at this; cases this
theorem getA {Q : Value → PM → Prop} {name : Str} {i : Nat} {v : Value} {ex : Bool} (K : Cls D ns) (I : Ins c u x dx D ns vs) (hi : idx ns name = some i) (hv : nth vs i = some v) (hh : handedIn v = true) (q : Q v u) : RU c A (getAttr (.ref x) name ex) u Q := fun h tk B E => by
  obtain ⟨od, e, d, inst⟩ := I.inst E
  refine get_value (s := sh c h tk) (c.kin B) inst (plainGet_of (K.get _)).1 (findObj_own (K.dict _) (K.attr hi _) rfl ?_) hh (OutX.same q E B)
  rw [d.look, slot_nth hi, hv]
theorem setA {Q : Unit → PM → Prop} {name : Str} {i : Nat} {v : Value} (K : Cls D ns) (I : Ins c u x dx D ns vs) (hi : idx ns name = some i) (q : ∀ o, Ins c (upd u dx o) x dx D ns (setN vs i v) → Q () (upd u dx o)) : RU c A (setAttr (.ref x) name v) u Q := fun h tk B E => by
  obtain ⟨od, e, d, inst⟩ := I.inst E
  have X := c.kin B
  obtain ⟨cd, hc, hd⟩ := any_some (K.dict c.w.params)
  refine set_plain (s := sh c h tk) X inst (K.set _) (osa_open (s := sh c h (tk + 1)) X inst (K.over _) (r := none) (by unfold takerIn; rw [K.attr hi]; rfl) fun b => ?_)
  refine wpAny_bind (wpAny_pure (wpAny_bind (wpAny_bind (wpAny_loadPart inst.at_ (wpAny_bind ((looks_clsIn X hc).here ?_))))))
  rw [hd]
  refine wpAny_pure (a := some dx) (wpAny_bind (wpAny_pure ?_))
  refine wpAny_bind (wpAny_nsSet1 (d.ns (E _ _ e)) fun h' hn hsb => ?_)
  have hlen : i < vs.length := I.len ▸ idx_lt hi
  have hset := slot_set (vs := vs) (w := v) hi (.inr hlen)
  obtain ⟨o', es', ep', ho', hd', hk', hu', hm'⟩ := id hn
  obtain ⟨oD, esD, epD, hoD, hdD, hcD⟩ := hn.count ((slot_in ns vs).cons name v)
  refine wpAny_bind (wpAny_lookBehind hoD (by rw [hdD]; exact pastItsLine_dict (Nat.le_trans hcD (by have := K.few; rw [List.length_cons, sizeLine_eq]; omega))) ?_)
  refine wpAny_pure (upd_out B E e I.h0 hsb ho' (q o' ⟨(upd_ne I.ne).trans I.at_, ⟨o', upd_self, es', ep', hd', hk', hu', fun y => ?_⟩, (setN_len _ _ _).trans I.len, I.h0⟩))
  rw [hm', hset]
theorem metA {Q : Value × List Value → PM → Prop} {name : Str} {f : Addr} {pl : Sem Bool} (K : Cls D ns) (I : Ins c u x dx D ns vs) (hf : ∀ P, findIn (KK P) (.ref D) name = some (some (.ref f))) (ht : ∀ P, typeIn (KK P) (.ref f) = some (.type "function")) (hn : ns.contains name = false)
    (q : Q (.ref f, [.ref x]) u) : RU c A (getMethod (.ref x) name pl) u Q := fun h tk B E => by
  obtain ⟨od, e, d, inst⟩ := I.inst E
  refine method_fn (s := sh c h tk) (c.kin B) inst (plainGet_of (K.get _)).1 (plainGet_of (K.get _)).2 (hf _) (ht _) ?_ (OutX.same q E B)
  unfold shadowIn
  dsimp only
  rw [d.look, slot_none (by simpa using hn)]; rfl

/-! isinstance -/
theorem isiY {Q : Value → PM → Prop} (I : Ins c u x dx D ns vs) (q : Q (.bool true) u) : RU c A (call (.builtin "isinstance") [.ref x, .ref D]) u Q := fun h tk B E => by
  obtain ⟨od, e, d, inst⟩ := I.inst E
  exact isi_call (s := sh c h tk) (c.kin B) (fun M => inst.type) (by unfold isIn; rw [beq_self_eq_true, Bool.true_or]) (by intro z; cases z) (OutX.same q E B)
theorem isiN {Q : Value → PM → Prop} {C : Addr} (K : Cls D ns) (I : Ins c u x dx D ns vs) (hne : ∀ P, kin_not (KK P) D C = true) (q : Q (.bool false) u) : RU c A (call (.builtin "isinstance") [.ref x, .ref C]) u Q := fun h tk B E => by
  obtain ⟨od, e, d, inst⟩ := I.inst E
  exact kin_callC (s := sh c h tk) (c.kin B) inst (hne _) (K.get _) (K.dict _) (K.cl _) (cls_n _) (cls_tk _) (K.mro _) (OutX.same q E B)
theorem isiT {Q : Value → PM → Prop} {T : String} (K : Cls D ns) (I : Ins c u x dx D ns vs) (hne : ∀ P, kin_notT (KK P) D T = true) (hty : typeOf (.type T) = pure (.type "type")) (q : Q (.bool false) u) : RU c A (call (.builtin "isinstance") [.ref x, .type T]) u Q := fun h tk B E => by
  obtain ⟨od, e, d, inst⟩ := I.inst E
  exact kin_callT (s := sh c h tk) (c.kin B) inst (hne _) hty (K.get _) (K.dict _) (K.cl _) (cls_n _) (cls_tk _) (K.mro _) (OutX.same q E B)
end
/-- a leaf value: its type, and how it is asked -/
inductive LeafV : Value → String → Prop
  | none : LeafV .none "NoneType"
  | bool (b) : LeafV (.bool b) "bool"
  | int (n t) : LeafV (.int n t) "int"
  | str (s t) : LeafV (.str s t) "str"
section
variable {c : Cx} {A : Around} {u : PM} {v : Value} {T : String} {Q : Value → PM → Prop} {C : Addr}
theorem isiL (L : LeafV v T) (e : ∀ P, isNotIn (KK P) T C = true) (q : Q (.bool false) u) : RU c A (call (.builtin "isinstance") [v, .ref C]) u Q := fun h tk B E => by
  cases L
  · exact isn_call (s := sh c h tk) (P := fun _ => True) (c.kin B) (fun M => Looks.of_pure rfl) (e _) (by intro z; cases z) trivial none_cls (OutX.same q E B)
  · exact isn_call (s := sh c h tk) (P := fun _ => True) (c.kin B) (fun M => Looks.of_pure rfl) (e _) (by intro z; cases z) trivial bool_cls (OutX.same q E B)
  · exact isn_call (s := sh c h tk) (P := fun _ => True) (c.kin B) (fun M => Looks.of_pure rfl) (e _) (by intro z; cases z) trivial int_cls (OutX.same q E B)
  · exact isn_call (s := sh c h tk) (P := fun _ => True) (c.kin B) (fun M => Looks.of_pure rfl) (e _) (by intro z; cases z) trivial str_cls (OutX.same q E B)
end
end Mine
end
section
open PySem PySem.W PySem.Calls PyProof.Rows Builtin Builtin.ObjectAttr PySem.SeqAt
set_option Elab.async false
set_option maxRecDepth 100000
set_option linter.unusedVariables false
namespace Mine
noncomputable def callees : List Addr := [100, 107, 125, 147, 168, 179, 201, 208, 215, 229, 250, 253, 264, 271, 278, 285, 290, 295, 302, 309, 316, 323, 330, 342, 349, 356, 363, 370, 377, 384, 391, 405, 412, 419, 451, 550, 571, 638, 680, 701, 715, 744, 751, 759, 766, 773, 780, 787, 792, 799, 804, 811, 818, 823, 828, 833]
theorem callees_ok (P : Params) : callees.all (fun a => keepIn (KK P) (.ref a)) = true := by kernel_rfl
theorem kp {c : Cx} {a : Addr} (h : callees.contains a = true) : Kpr c (.ref a) := kprK (List.all_eq_true.mp (callees_ok _) a (by simpa using h))
theorem lt_cLine {A : Around} {k n : Nat} (R : Room A k) (hn : n ≤ 9000) : A.units + n < cLine := by have := R.u; unfold cLine; omega
section
variable {c : Cx} {A : Around} {u : PM} {Q : Value → PM → Prop} {n : Int} {t : Tok} {x : Str} {b : Bool}
/-! isinstance of a leaf -/
theorem ibB (q : Q (.bool true) u) : RU c A (call (.builtin "isinstance") [.bool b, .type "bool"]) u Q := fun h tk B E => IsiPair.bool_bool (OutX.same q E B)
theorem iiB (q : Q (.bool false) u) : RU c A (call (.builtin "isinstance") [.int n t, .type "bool"]) u Q := fun h tk B E => IsiPair.int_bool (OutX.same q E B)
theorem isB (q : Q (.bool false) u) : RU c A (call (.builtin "isinstance") [.str x t, .type "bool"]) u Q := fun h tk B E => IsiPair.str_bool (OutX.same q E B)
theorem iiI (q : Q (.bool true) u) : RU c A (call (.builtin "isinstance") [.int n t, .type "int"]) u Q := fun h tk B E => IsiPair.int_int (OutX.same q E B)
theorem isI (q : Q (.bool false) u) : RU c A (call (.builtin "isinstance") [.str x t, .type "int"]) u Q := fun h tk B E => IsiPair.str_int (OutX.same q E B)
theorem isS (q : Q (.bool true) u) : RU c A (call (.builtin "isinstance") [.str x t, .type "str"]) u Q := fun h tk B E => IsiPair.str_str (OutX.same q E B)
/-! more numbers -/
theorem fdivI {a m : Int} {t' : Tok} (h0 : m ≠ 0) (hm : m.natAbs < 1073741824) (q : ∀ t, Q (.int (a.fdiv m) t) u) : RU c A (binaryOp .FloorDiv (.int a t) (.int m t')) u Q := fun h tk B E => floordiv_int h0 (OutX.same (q _) E B) (.inl (PyProof.noPylong_small hm))
theorem minI {a m : Int} {t' : Tok} (hh : A.handled = none) (q : ∀ t, Q (.int (if m < a then m else a) t) u) : RU c A (call (.builtin "min") [.int a t, .int m t']) u Q := fun h tk B E =>
  min_two_ints hh fun h' tk' hk => by
    have e : (if m < a then Value.int m t' else Value.int a t) = .int (if m < a then m else a) (if m < a then t' else t) := by split <;> rfl
    rw [e]; exact still_out B E hk (q _)
/-! is -/
theorem isO {a b' : Addr} {oa ob : Obj} (hne : a ≠ b') (ha : u a = some oa) (hb : u b' = some ob) (ht : oa.cls ≠ .type "tuple") (q : Q (.bool false) u) : RU c A (compareOp .Is (.ref a) (.ref b')) u Q := fun h tk B E => wpAny_is_ref_other hne (E _ _ ha) (E _ _ hb) ht (OutX.same q E B)
/-! compare by the library's judgements -/
theorem eqBy {v w : Value} {r : Bool} (e : ∀ h tk, Emb u h → RcAt A (sh c h tk) v w r) (q : Q (.bool r) u) : RU c A (compareOp .Eq v w) u Q := fun h tk B E => e h tk E _ _ _ _ (OutX.same q E B)
theorem neBy {v w : Value} {r : Bool} (e : ∀ h tk, Emb u h → RcNeAt A (sh c h tk) v w r) (q : Q (.bool r) u) : RU c A (compareOp .NotEq v w) u Q := fun h tk B E => e h tk E _ _ _ _ (OutX.same q E B)
theorem inTup {v : Value} {l : Addr} {xs : List Value} (e : Value → Bool) (L : Tup u l xs) (he : ∀ h tk, Emb u h → ∀ y ∈ xs, EqAt A.in1 (sh c h tk) y v (e y)) (q : Q (.bool (xs.any e)) u) : RU c A (compareOp .In v (.ref l)) u Q := fun h tk B E =>
  in_tupleAt e (L.isTuple E) (fun y hy => he h tk E y (by simpa using hy)) (by simpa using OutX.same q E B)
theorem ninTup {v : Value} {l : Addr} {xs : List Value} (e : Value → Bool) (L : Tup u l xs) (he : ∀ h tk, Emb u h → ∀ y ∈ xs, EqAt A.in1 (sh c h tk) y v (e y)) (q : Q (.bool (!xs.any e)) u) : RU c A (compareOp .NotIn v (.ref l)) u Q := fun h tk B E =>
  notIn_tupleAt e (L.isTuple E) (fun y hy => he h tk E y (by simpa using hy)) (by simpa using OutX.same q E B)
theorem ninLst {v : Value} {l : Addr} {xs : List Value} (e : Value → Bool) (L : Lst u l xs) (he : ∀ h tk, Emb u h → ∀ y ∈ xs, EqAt A.in1 (sh c h tk) y v (e y)) (q : Q (.bool (!xs.any e)) u) : RU c A (compareOp .NotIn v (.ref l)) u Q := fun h tk B E =>
  notIn_listAt e (L.isList E) (fun y hy => he h tk E y (by simpa using hy)) (by simpa using OutX.same q E B)
/-! lists out of other things -/
theorem lstR {r : Addr} {o : Obj} {k : Nat} (hh : A.handled = none) (e : u r = some o) (L : RngO o k) (hk : k < 1000000) (q : ∀ a o xs, u a = none → c.h0.get? a = none → LstO o xs → xs.length = k → (∀ (i : Nat) (v : Value), xs[i]? = some v → ∃ t, v = Value.int i t) → Q (.ref a) (upd u a o)) : RU c A (call (.type "list") [.ref r]) u Q := fun h tk B E => by
  obtain ⟨t1, t2, t3, rfl⟩ := L
  have hsz : Builtin.Range.rangeSize 0 (k : Int) 1 = k := by unfold Builtin.Range.rangeSize; simp; omega
  refine call_list_range (s := sh c h tk) (a := 0) (b := k) (c := 1) (n := k) hh (E _ _ e) ?_ hsz (by omega) fun h' tk' acc c' hk' ha hi => ?_
  · unfold Builtin.Range.small
    rw [hsz, fits (i := 0) (by omega) (by omega), fits (i := (k : Int)) (by omega) (by omega), fits (i := 1) (by omega) (by omega), if_pos (by decide), fits (i := (k : Int) + (1 - 1)) (by omega) (by omega)]
    simp
  · exact grow_out B E hk' (size_none _) ha fun q1 q2 => q _ _ acc.toList q1 q2 ⟨c', rfl⟩ (by rw [Array.length_toList]; exact hi.1) fun i v z => by
      obtain ⟨t, rfl⟩ := hi.2 i v (by rw [← Array.getElem?_toList]; exact z)
      exact ⟨t, by simp⟩
theorem lstD {d : Addr} (hh : A.handled = none) (e : u d = some dictO) (hd : (d == sysModules) = false) (q : ∀ a o, u a = none → c.h0.get? a = none → LstO o [] → Q (.ref a) (upd u a o)) : RU c A (call (.type "list") [.ref d]) u Q := fun h tk B E => by
  have D : (sh c h tk).heap.DictAt (strKind pw c.w) d [] 0 := ⟨_, #[], E _ _ e, ⟨rfl, rfl, rfl⟩, rfl, fun _ he => by simp at he, Pairs.nil, List.nodup_nil⟩
  refine kdl_call (s := sh c h tk) (kdl_dict hd) hh D (Nat.zero_le _) fun h' tk' acc c' hk' ha hi => ?_
  have : acc = #[] := Array.eq_empty_of_size_eq_zero hi.1
  subst this
  exact grow_out B E hk' (size_none _) ha fun q1 q2 => q _ _ q1 q2 ⟨c', rfl⟩
theorem lstT' {l : Addr} {xs : List Value} (hl : Tup u l xs) (hs : xs.length ≤ sizeLine) (q : ∀ a o, u a = none → c.h0.get? a = none → LstO o xs → Q (.ref a) (upd u a o)) : RU c A (call (.type "list") [.ref l]) u Q := fun hp tk B E => by
  obtain ⟨o, e, hc, n, hd⟩ := hl
  refine call_list_seq l (.inr rfl) (E _ _ e) hc hd (fun h' c' hk hn => ?_) (by simpa using hs)
  exact grow_out B E hk (size_none _) hn fun q1 q2 => q _ _ q1 q2 ⟨c', rfl⟩
theorem sumL {l : Addr} {xs : List Value} {ns : List Int} (hh : A.handled = none) (hl : Lst u l xs) (hi : IntsAre xs ns) (q : ∀ n t, Q (.int n t) u) : RU c A (call (.builtin "sum") [.ref l]) u Q := fun h tk B E => by
  obtain ⟨ys, e⟩ := hi.allInts.items
  exact sum_intListG (s := sh c h tk) hh (e ▸ hl.isList E) fun h' tk' t' hk => still_out B E hk (q _ _)
theorem slcS {l b' : Addr} {o : Obj} {xs : List Value} {lo hi st : Value} {plo phi pst : Option Int} (hl : Lst u l xs) (hb : u b' = some o) (ho : o.cls = .type "slice" ∧ o.data = .fields #[lo, hi, st]) (p1 : IsPart lo plo) (p2 : IsPart hi phi) (p3 : IsPart st pst) (h0 : pst ≠ some 0) (hs : xs.length ≤ sizeLine)
    (q : ∀ a o, u a = none → c.h0.get? a = none → LstO o (slicePick xs.toArray plo phi pst).toList → Q (.ref a) (upd u a o)) : RU c A (getItem (.ref l) (.ref b')) u Q := fun hp tk B E =>
  wpAny_getItem_list_slice (hl.isList E) ⟨o, E _ _ hb, ho.1, ho.2⟩ p1 p2 p3 h0 (push_out B E rfl (q _ _ (emb_new E) (h0none B) ⟨0, by simp [lstOf]⟩)) (by simpa using hs)
/-! strs -/
theorem leS {y : Str} {t' : Tok} (q : Q (.bool (!(y.cps.toList < x.cps.toList))) u) : RU c A (compareOp .LtE (.str x t) (.str y t')) u Q := fun h tk B E => P.le_str (OutX.same q E B)
theorem mJoin {Q : Value × List Value → PM → Prop} {pl : Sem Bool} (q : Q (.builtin "str.join", [.str x t]) u) : RU c A (getMethod (.str x t) (so "join") pl) u Q := fun h tk B E => PySem.GM.join (OutX.same q E B)
theorem join1 {l : Addr} {y : Str} {t' : Tok} (hl : Lst u l [.str y t']) (hs : Builtin.Str.tooLong (y.length + x.length) = false) (q : ∀ t, Q (.str y t) u) : RU c A (call (.builtin "str.join") [.str x t, .ref l]) u Q := fun h tk B E => by
  refine call_meets (s := sh c h tk) PySem.F.slot_str_join (typeIs_str _ _ _) PySem.F.entry_str_join (PySem.F.args_str_join_2 _ _) (meets_str_join_list x t l [(y, t')] (by simpa using hs)) ⟨hl.isList E, ?_⟩
  exact OutX.same (q _) E B
/-! dicts of strs -/
theorem mGet {Q : Value × List Value → PM → Prop} {pl : Sem Bool} {d : Addr} {o : Obj} {kvs : List (Str × Value)} (e : u d = some o) (hd : o.IsDictOf (strKind pw c.w) kvs) (q : Q (.builtin "dict.get", [.ref d]) u) : RU c A (getMethod (.ref d) (so "get") pl) u Q := fun h tk B E => by
  have hD : (sh c h tk).heap.DictOf (strKind pw c.w) d kvs := Heap.dictOf_iff.mpr ⟨o, E _ _ e, hd⟩
  exact getMethod_builtin (s := sh c h tk) hD.typeIs PySem.F.plainAttrs_dict PySem.F.slot_dict_get PySem.F.type_dict_get hD.mapOf.noDict (OutX.same q E B)
theorem getD2 {d : Addr} {o : Obj} {kvs : List (Str × Value)} {dflt : Value} (e : u d = some o) (hd : o.IsDictOf (strKind pw c.w) kvs) (hs : (d == sysModules) = false) (q : Q ((valueAt kvs x).getD dflt) u) : RU c A (call (.builtin "dict.get") [.ref d, .str x t, dflt]) u Q := fun h tk B E => by
  have hD : (sh c h tk).heap.DictOf (strKind pw c.w) d kvs := Heap.dictOf_iff.mpr ⟨o, E _ _ e, hd⟩
  exact call_meetsIn PySem.F.slot_dict_get hD.typeIs PySem.F.entry_dict_get (PySem.F.args_dict_get_3 _ _ _) (meets_dict_get_default (strKind pw c.w) d (strKind_is _ _ _ _) hs dflt) ⟨_, hD.mapOf, OutX.same q E B⟩
theorem getDi {d : Addr} {o : Obj} {kvs : List (Str × Value)} {v : Value} (e : u d = some o) (hd : o.IsDictOf (strKind pw c.w) kvs) (hl : valueAt kvs x = some v) (q : Q v u) : RU c A (getItem (.ref d) (.str x t)) u Q := fun h tk B E => by
  have hD : (sh c h tk).heap.DictOf (strKind pw c.w) d kvs := Heap.dictOf_iff.mpr ⟨o, E _ _ e, hd⟩
  exact wpAny_getItem_of (strKind_is _ _ _ _) hD.mapOf hl (OutX.same q E B)
theorem inPyD {Q : Bool → PM → Prop} {d : Addr} {o : Obj} {kvs : List (Str × Value)} (e : u d = some o) (hd : o.IsDictOf (strKind pw c.w) kvs) (q : Q false u) : RU c A (getitemInPython (.ref d)) u Q := fun h tk B E => by
  have hD : (sh c h tk).heap.DictOf (strKind pw c.w) d kvs := Heap.dictOf_iff.mpr ⟨o, E _ _ e, hd⟩
  unfold getitemInPython
  exact wpAny_bind (wpAny_specialOf hD.typeIs slot_dict_getitem.lookup (wpAny_pure (OutX.same q E B)))
/-! repr -/
theorem reprD {a : Addr} {d : PyData} {k : Nat} (R : Room A k) (hr : ∀ h, Emb u h → ∃ as, Reads h (.ref a) d as) (hs : d.showable = true) (hd : d.hasDict = false) (hdep : d.depth ≤ 5000) (hz : d.shown.length ≤ sizeLine) (q : ∀ t, Q (.str d.shown t) u) : RU c A (call (.builtin "repr") [.ref a]) u Q := fun h tk B E => by
  obtain ⟨as, r⟩ := hr h E
  exact repr_of_reads' (s := sh c h tk) r hs (PyData.noDict_hsm hd) R.g (lt_cLine R (by omega)) (fun _ _ e => e) (fun h' t' tk' hk => still_out B E hk (q _)) hz
end
end Mine
end
section
open PySem PySem.W PySem.Calls PyProof.Rows Builtin Builtin.ObjectAttr PySem.SeqAt
set_option Elab.async false
set_option maxRecDepth 100000
set_option linter.unusedVariables false
namespace Mine
noncomputable def nRef : List Str := [so "value", so "holders", so "types"]
noncomputable def nAbs : List Str := [so "was_unset"]
noncomputable def nObj : List Str := [so "cls", so "handle", so "props", so "data", so "guards", so "is_busy", so "is_destructed"]
noncomputable def nArr : List Str := [so "is_packed", so "keys", so "vals", so "heads", so "nexts", so "size", so "count", so "next", so "at", so "is_shared", so "walks"]
noncomputable def nFrm : List Str := [so "func", so "this", so "cls", so "static", so "vars", so "args"]
noncomputable def nHost : List Str := [so "tools", so "evals", so "execs", so "top", so "frame", so "notes", so "silent", so "parts", so "buffers", so "depth", so "limit", so "spent", so "fuel", so "handles", so "classes", so "functions", so "constants", so "autoload_order", so "made", so "is_strict"]
noncomputable def nKls : List Str := [so "name", so "key", so "sort", so "flags", so "parent", so "interfaces", so "consts", so "props", so "order", so "statics", so "static_slots", so "methods", so "backing", so "cases", so "uses", so "maker", so "cloner", so "is_linked"]
theorem kRef : Cls 125 nRef := ⟨fun P => by kernel_rfl, fun P => by kernel_rfl, fun P => by kernel_rfl, fun P => by kernel_rfl, fun P => by kernel_rfl, fun P => by kernel_rfl, fun P => by kernel_rfl, by decide⟩
theorem kAbs : Cls 147 nAbs := ⟨fun P => by kernel_rfl, fun P => by kernel_rfl, fun P => by kernel_rfl, fun P => by kernel_rfl, fun P => by kernel_rfl, fun P => by kernel_rfl, fun P => by kernel_rfl, by decide⟩
theorem kObj : Cls 168 nObj := ⟨fun P => by kernel_rfl, fun P => by kernel_rfl, fun P => by kernel_rfl, fun P => by kernel_rfl, fun P => by kernel_rfl, fun P => by kernel_rfl, fun P => by kernel_rfl, by decide⟩
theorem kArr : Cls 253 nArr := ⟨fun P => by kernel_rfl, fun P => by kernel_rfl, fun P => by kernel_rfl, fun P => by kernel_rfl, fun P => by kernel_rfl, fun P => by kernel_rfl, fun P => by kernel_rfl, by decide⟩
theorem kFrm : Cls 451 nFrm := ⟨fun P => by kernel_rfl, fun P => by kernel_rfl, fun P => by kernel_rfl, fun P => by kernel_rfl, fun P => by kernel_rfl, fun P => by kernel_rfl, fun P => by kernel_rfl, by decide⟩
theorem kHost : Cls 550 nHost := ⟨fun P => by kernel_rfl, fun P => by kernel_rfl, fun P => by kernel_rfl, fun P => by kernel_rfl, fun P => by kernel_rfl, fun P => by kernel_rfl, fun P => by kernel_rfl, by decide⟩
theorem kKls : Cls 571 nKls := ⟨fun P => by kernel_rfl, fun P => by kernel_rfl, fun P => by kernel_rfl, fun P => by kernel_rfl, fun P => by kernel_rfl, fun P => by kernel_rfl, fun P => by kernel_rfl, by decide⟩
/-- a class whose calls run its own __init__ -/
structure Mk (D fI : Addr) : Prop where
  makes : ∀ P, makesIn (KK P) D = true
  init : ∀ P, findIn (KK P) (.ref D) "__init__" = some (some (.ref fI))
  fn : ∀ P, typeIn (KK P) (.ref fI) = some (.type "function")
theorem mRef : Mk 125 122 := ⟨fun P => by kernel_rfl, fun P => by kernel_rfl, fun P => by kernel_rfl⟩
theorem mAbs : Mk 147 144 := ⟨fun P => by kernel_rfl, fun P => by kernel_rfl, fun P => by kernel_rfl⟩
theorem mObj : Mk 168 165 := ⟨fun P => by kernel_rfl, fun P => by kernel_rfl, fun P => by kernel_rfl⟩
theorem mArr : Mk 253 194 := ⟨fun P => by kernel_rfl, fun P => by kernel_rfl, fun P => by kernel_rfl⟩
theorem mFrm : Mk 451 448 := ⟨fun P => by kernel_rfl, fun P => by kernel_rfl, fun P => by kernel_rfl⟩
theorem mHost : Mk 550 470 := ⟨fun P => by kernel_rfl, fun P => by kernel_rfl, fun P => by kernel_rfl⟩
theorem mKls : Mk 571 568 := ⟨fun P => by kernel_rfl, fun P => by kernel_rfl, fun P => by kernel_rfl⟩
theorem slot_none_rep {ns : List Str} {k : Nat} : slot ns (List.replicate k none) = fun _ => none := funext fun x => slot_rep
section
variable {c : Cx} {A : Around} {u : PM} {Q : Value → PM → Prop} {D fI : Addr} {ns : List Str} {args : List Value}
theorem room_under {k : Nat} {l : List Value} (R : Room A (k + 1)) : Room (A.under (.builtin "type.__call__" ⟨.ref D :: l, []⟩)) k := by
  have hd := R.d
  have hu := R.u
  refine ⟨R.h, ?_, ?_, ?_⟩
  · have : (A.under (.builtin "type.__call__" ⟨.ref D :: l, []⟩)).depth = A.depth + 1 := rfl
    omega
  · have hg : (Code.builtin "type.__call__" ⟨.ref D :: l, []⟩).guards = [] := rfl
    unfold Around.under
    dsimp only
    rw [hg, R.g]; rfl
  · have : (A.under (.builtin "type.__call__" ⟨.ref D :: l, []⟩)).units = A.units + 1 := rfl
    omega
theorem newC {k : Nat} (R : Room A (k + 1)) (M : Mk D fI)
    (q : ∀ x dx A', Room A' k → u x = none → u dx = none → c.h0.get? x = none → Ins c (upd (upd u dx emptyDict) x (instObj D dx)) x dx D ns (List.replicate ns.length none) → RUc c A' (.ref fI) (.ref x :: args) (upd (upd u dx emptyDict) x (instObj D dx)) (fun v u3 => v = .none ∧ Q (.ref x) u3)) :
    RU c A (call (.ref D) args) u Q := fun h tk B E => by
  refine wpAny_call (make_core (h := h) (makes_of (c.kin B) (M.makes _)) (looks_findIn (c.kin B) (M.init _)) (fun self => bind_fn (c.kin B) self (M.fn _)) (.inl rfl) ?_)
  have k1 : ∀ b o, h.get? b = some o → ((h.push emptyDict).push (instObj D h.objs.size)).get? b = some o := fun b o e => Heap.get?_push_of_some _ (Heap.get?_push_of_some _ e)
  have fresh : ∀ j, u (h.objs.size + j) = none ∧ c.h0.get? (h.objs.size + j) = none := fun j => by
    refine ⟨?_, ?_⟩
    · cases e : u (h.objs.size + j) with
      | none => rfl
      | some o => exact absurd (emb_lt E e) (Nat.not_lt.mpr (Nat.le_add_right _ _))
    · cases e : c.h0.get? (h.objs.size + j) with
      | none => rfl
      | some o => exact absurd (Heap.lt_size (B.keep _ _ e)) (Nat.not_lt.mpr (Nat.le_add_right _ _))
  have gd : ((h.push emptyDict).push (instObj D h.objs.size)).get? h.objs.size = some emptyDict := Heap.get?_push_of_some _ (Heap.get?_push_size _ rfl)
  have gx : ((h.push emptyDict).push (instObj D h.objs.size)).get? (h.objs.size + 1) = some (instObj D h.objs.size) := by heap_get
  have ne : h.objs.size ≠ h.objs.size + 1 := Nat.ne_of_lt (Nat.lt_succ_self _)
  have I : Ins c (upd (upd u h.objs.size emptyDict) (h.objs.size + 1) (instObj D h.objs.size)) (h.objs.size + 1) h.objs.size D ns (List.replicate ns.length none) := by
    refine ⟨upd_self, ⟨emptyDict, (upd_ne ne).trans upd_self, #[], 0, rfl, fun e he => by simp at he, List.Pairwise.nil, fun x => ?_⟩, by simp, (fresh 0).2⟩
    rw [slot_none_rep]; rfl
  refine q (h.objs.size + 1) h.objs.size _ (room_under R) (fresh 1).1 (fresh 0).1 (fresh 1).2 I _ _ _ ⟨fun b o e => k1 _ _ (B.keep _ _ e)⟩ (emb_upd (emb_upd (fun b o e => k1 _ _ (E b o e)) gd) gx) fun v s' z => ?_
  obtain ⟨h2, tk2, u2, rfl, ⟨rfl, q2⟩, E2, B2, K2⟩ := z
  refine ⟨rfl, h2, tk2, u2, rfl, q2, E2, B2, fun b o e1 e2 => K2 b o ?_ (k1 _ _ e2)⟩
  have hlt := Heap.lt_size e2
  rw [upd_ne (Nat.ne_of_lt (Nat.lt_succ_of_lt hlt)), upd_ne (Nat.ne_of_lt hlt)]; exact e1
end
end Mine
end
section
open PySem PySem.W PySem.Calls PyProof.Rows
set_option Elab.async false
set_option maxRecDepth 100000
set_option linter.unusedVariables false
namespace Mine
theorem callDef' {c : Cx} {A : Around} {u : PM} {fa cd : Addr} {d : DefRec} {qual : Str} {dV pm : Value} {ns : List Str} {np : Nat} {vals vals' : List Value} {Q : Value → PM → Prop} {T : ST} {vs : List (Option Value)}
    (hK : ∀ P, (KK P).lookup fa = some (fno d qual dV pm cd)) (hC : (cd, qual) ∈ codes) (hok : defOk d ns np = true) (hroom : A.depth < recursionLimit)
    (hb : ∀ s : Shared, (KK c.w.params).In s.heap → BindsTo s (fnOf d.name qual d.params d.body d.scope dV .none .none pm none (.ref cd) .none) ⟨vals, []⟩ ((ns.take np).zip vals')) (hl : vals'.length = np)
    (sim : SimSs' d.scope ns d.body T) (hv : vs0 vals' (ns.length - np) = vs) (q : ∀ A', Deeper A A' → T c A' vs u (fun f _ u' => Q (retOf f) u')) : RUc c A (.ref fa) vals u Q :=
  callDef hK hC hok hroom hb hl sim fun A' D => hv ▸ q A' D
section
variable {c : Cx} {A : Around} {u : PM} {Q : Value → PM → Prop} {a1 a2 a3 a4 a5 : Value}
theorem F_least (hr : A.depth < recursionLimit) (q : ∀ A', Deeper A A' → T_least c A' [] u (fun f _ u' => Q (retOf f) u')) : RUc c A (.ref 100) [] u Q :=
  callDef' (d := d_least) (qual := so "least") (dV := .none) (pm := (.str (so "phpcore.faults") 194)) (cd := 99) (ns := N_least) (np := 0) (vals' := []) (T := T_least) (fun P => by kernel_rfl) (by decide) (by kernel_rfl) hr (fun s X => BindsTo.of_eq (by kernel_rfl)) rfl @S_least rfl q
theorem F_greatest (hr : A.depth < recursionLimit) (q : ∀ A', Deeper A A' → T_greatest c A' [] u (fun f _ u' => Q (retOf f) u')) : RUc c A (.ref 107) [] u Q :=
  callDef' (d := d_greatest) (qual := so "greatest") (dV := .none) (pm := (.str (so "phpcore.faults") 194)) (cd := 106) (ns := N_greatest) (np := 0) (vals' := []) (T := T_greatest) (fun P => by kernel_rfl) (by decide) (by kernel_rfl) hr (fun s X => BindsTo.of_eq (by kernel_rfl)) rfl @S_greatest rfl q
theorem F_Ref_init_1 (hr : A.depth < recursionLimit) (q : ∀ A', Deeper A A' → T_Ref_init c A' [some a1, some (.none : Value)] u (fun f _ u' => Q (retOf f) u')) : RUc c A (.ref 122) [a1] u Q :=
  callDef' (d := d_Ref_init) (qual := so "Ref.__init__") (dV := .ref 115) (pm := (.str (so "phpcore.slots") 313)) (cd := 121) (ns := N_Ref_init) (np := 2) (vals' := [a1, (.none : Value)]) (T := T_Ref_init) (fun P => by kernel_rfl) (by decide) (by kernel_rfl) hr (fun s X => PySem.W.kp_binds X fun S => by kernel_rfl) rfl @S_Ref_init rfl q
theorem F_Ref_init (hr : A.depth < recursionLimit) (q : ∀ A', Deeper A A' → T_Ref_init c A' [some a1, some a2] u (fun f _ u' => Q (retOf f) u')) : RUc c A (.ref 122) [a1, a2] u Q :=
  callDef' (d := d_Ref_init) (qual := so "Ref.__init__") (dV := .ref 115) (pm := (.str (so "phpcore.slots") 313)) (cd := 121) (ns := N_Ref_init) (np := 2) (vals' := [a1, a2]) (T := T_Ref_init) (fun P => by kernel_rfl) (by decide) (by kernel_rfl) hr (fun s X => PySem.W.kp_binds X fun S => by kernel_rfl) rfl @S_Ref_init rfl q
theorem F_Absent_init (hr : A.depth < recursionLimit) (q : ∀ A', Deeper A A' → T_Absent_init c A' [some a1, some (.bool false : Value)] u (fun f _ u' => Q (retOf f) u')) : RUc c A (.ref 144) [a1] u Q :=
  callDef' (d := d_Absent_init) (qual := so "Absent.__init__") (dV := .ref 137) (pm := (.str (so "phpcore.slots") 313)) (cd := 143) (ns := N_Absent_init) (np := 2) (vals' := [a1, (.bool false : Value)]) (T := T_Absent_init) (fun P => by kernel_rfl) (by decide) (by kernel_rfl) hr (fun s X => PySem.W.kp_binds X fun S => by kernel_rfl) rfl @S_Absent_init rfl q
theorem F_Obj_init (hr : A.depth < recursionLimit) (q : ∀ A', Deeper A A' → T_Obj_init c A' [some a1, some a2, some a3] u (fun f _ u' => Q (retOf f) u')) : RUc c A (.ref 165) [a1, a2, a3] u Q :=
  callDef' (d := d_Obj_init) (qual := so "Obj.__init__") (dV := .none) (pm := (.str (so "phpcore.slots") 313)) (cd := 164) (ns := N_Obj_init) (np := 3) (vals' := [a1, a2, a3]) (T := T_Obj_init) (fun P => by kernel_rfl) (by decide) (by kernel_rfl) hr (fun s X => BindsTo.of_eq (by kernel_rfl)) rfl @S_Obj_init rfl q
theorem F_deref (hr : A.depth < recursionLimit) (q : ∀ A', Deeper A A' → T_deref c A' [some a1] u (fun f _ u' => Q (retOf f) u')) : RUc c A (.ref 179) [a1] u Q :=
  callDef' (d := d_deref) (qual := so "deref") (dV := .none) (pm := (.str (so "phpcore.slots") 313)) (cd := 178) (ns := N_deref) (np := 1) (vals' := [a1]) (T := T_deref) (fun P => by kernel_rfl) (by decide) (by kernel_rfl) hr (fun s X => BindsTo.of_eq (by kernel_rfl)) rfl @S_deref rfl q
theorem F_Arr_init (hr : A.depth < recursionLimit) (q : ∀ A', Deeper A A' → T_Arr_init c A' [some a1, some (.int 8 432 : Value)] u (fun f _ u' => Q (retOf f) u')) : RUc c A (.ref 194) [a1] u Q :=
  callDef' (d := d_Arr_init) (qual := so "Arr.__init__") (dV := .ref 187) (pm := (.str (so "phpcore.table") 418)) (cd := 193) (ns := N_Arr_init) (np := 2) (vals' := [a1, (.int 8 432 : Value)]) (T := T_Arr_init) (fun P => by kernel_rfl) (by decide) (by kernel_rfl) hr (fun s X => PySem.W.kp_binds X fun S => by kernel_rfl) rfl @S_Arr_init rfl q
theorem F_Arr_find (hr : A.depth < recursionLimit) (q : ∀ A', Deeper A A' → T_Arr_find c A' [some a1, some a2, none] u (fun f _ u' => Q (retOf f) u')) : RUc c A (.ref 201) [a1, a2] u Q :=
  callDef' (d := d_Arr_find) (qual := so "Arr.find") (dV := .none) (pm := (.str (so "phpcore.table") 418)) (cd := 200) (ns := N_Arr_find) (np := 2) (vals' := [a1, a2]) (T := T_Arr_find) (fun P => by kernel_rfl) (by decide) (by kernel_rfl) hr (fun s X => BindsTo.of_eq (by kernel_rfl)) rfl @S_Arr_find rfl q
theorem F_Arr_has (hr : A.depth < recursionLimit) (q : ∀ A', Deeper A A' → T_Arr_has c A' [some a1, some a2] u (fun f _ u' => Q (retOf f) u')) : RUc c A (.ref 208) [a1, a2] u Q :=
  callDef' (d := d_Arr_has) (qual := so "Arr.has") (dV := .none) (pm := (.str (so "phpcore.table") 418)) (cd := 207) (ns := N_Arr_has) (np := 2) (vals' := [a1, a2]) (T := T_Arr_has) (fun P => by kernel_rfl) (by decide) (by kernel_rfl) hr (fun s X => BindsTo.of_eq (by kernel_rfl)) rfl @S_Arr_has rfl q
theorem F_Arr_slot (hr : A.depth < recursionLimit) (q : ∀ A', Deeper A A' → T_Arr_slot c A' [some a1, some a2, none] u (fun f _ u' => Q (retOf f) u')) : RUc c A (.ref 215) [a1, a2] u Q :=
  callDef' (d := d_Arr_slot) (qual := so "Arr.slot") (dV := .none) (pm := (.str (so "phpcore.table") 418)) (cd := 214) (ns := N_Arr_slot) (np := 2) (vals' := [a1, a2]) (T := T_Arr_slot) (fun P => by kernel_rfl) (by decide) (by kernel_rfl) hr (fun s X => BindsTo.of_eq (by kernel_rfl)) rfl @S_Arr_slot rfl q
theorem F_Arr_put (hr : A.depth < recursionLimit) (q : ∀ A', Deeper A A' → T_Arr_put c A' [some a1, some a2, some a3, none] u (fun f _ u' => Q (retOf f) u')) : RUc c A (.ref 229) [a1, a2, a3] u Q :=
  callDef' (d := d_Arr_put) (qual := so "Arr.put") (dV := .none) (pm := (.str (so "phpcore.table") 418)) (cd := 228) (ns := N_Arr_put) (np := 3) (vals' := [a1, a2, a3]) (T := T_Arr_put) (fun P => by kernel_rfl) (by decide) (by kernel_rfl) hr (fun s X => BindsTo.of_eq (by kernel_rfl)) rfl @S_Arr_put rfl q
theorem F_Arr_key_at (hr : A.depth < recursionLimit) (q : ∀ A', Deeper A A' → T_Arr_key_at c A' [some a1, some a2] u (fun f _ u' => Q (retOf f) u')) : RUc c A (.ref 250) [a1, a2] u Q :=
  callDef' (d := d_Arr_key_at) (qual := so "Arr.key_at") (dV := .none) (pm := (.str (so "phpcore.table") 418)) (cd := 249) (ns := N_Arr_key_at) (np := 2) (vals' := [a1, a2]) (T := T_Arr_key_at) (fun P => by kernel_rfl) (by decide) (by kernel_rfl) hr (fun s X => BindsTo.of_eq (by kernel_rfl)) rfl @S_Arr_key_at rfl q
theorem F_is_living (hr : A.depth < recursionLimit) (q : ∀ A', Deeper A A' → T_is_living c A' [some a1, some a2] u (fun f _ u' => Q (retOf f) u')) : RUc c A (.ref 264) [a1, a2] u Q :=
  callDef' (d := d_is_living) (qual := so "is_living") (dV := .none) (pm := (.str (so "phpcore.table") 418)) (cd := 263) (ns := N_is_living) (np := 2) (vals' := [a1, a2]) (T := T_is_living) (fun P => by kernel_rfl) (by decide) (by kernel_rfl) hr (fun s X => BindsTo.of_eq (by kernel_rfl)) rfl @S_is_living rfl q
theorem F_hash_of (hr : A.depth < recursionLimit) (q : ∀ A', Deeper A A' → T_hash_of c A' [some a1, none, none] u (fun f _ u' => Q (retOf f) u')) : RUc c A (.ref 271) [a1] u Q :=
  callDef' (d := d_hash_of) (qual := so "hash_of") (dV := .none) (pm := (.str (so "phpcore.table") 418)) (cd := 270) (ns := N_hash_of) (np := 1) (vals' := [a1]) (T := T_hash_of) (fun P => by kernel_rfl) (by decide) (by kernel_rfl) hr (fun s X => BindsTo.of_eq (by kernel_rfl)) rfl @S_hash_of rfl q
theorem F_link (hr : A.depth < recursionLimit) (q : ∀ A', Deeper A A' → T_link c A' [some a1, some a2, none] u (fun f _ u' => Q (retOf f) u')) : RUc c A (.ref 278) [a1, a2] u Q :=
  callDef' (d := d_link) (qual := so "link") (dV := .none) (pm := (.str (so "phpcore.table") 418)) (cd := 277) (ns := N_link) (np := 2) (vals' := [a1, a2]) (T := T_link) (fun P => by kernel_rfl) (by decide) (by kernel_rfl) hr (fun s X => BindsTo.of_eq (by kernel_rfl)) rfl @S_link rfl q
theorem F_chains (hr : A.depth < recursionLimit) (q : ∀ A', Deeper A A' → T_chains c A' [some a1, none] u (fun f _ u' => Q (retOf f) u')) : RUc c A (.ref 285) [a1] u Q :=
  callDef' (d := d_chains) (qual := so "chains") (dV := .none) (pm := (.str (so "phpcore.table") 418)) (cd := 284) (ns := N_chains) (np := 1) (vals' := [a1]) (T := T_chains) (fun P => by kernel_rfl) (by decide) (by kernel_rfl) hr (fun s X => BindsTo.of_eq (by kernel_rfl)) rfl @S_chains rfl q
theorem F_many_ahead (hr : A.depth < recursionLimit) (q : ∀ A', Deeper A A' → T_many_ahead c A' [some a1, some a2] u (fun f _ u' => Q (retOf f) u')) : RUc c A (.ref 290) [a1, a2] u Q :=
  callDef' (d := d_many_ahead) (qual := so "many_ahead") (dV := .none) (pm := (.str (so "phpcore.table") 418)) (cd := 289) (ns := N_many_ahead) (np := 2) (vals' := [a1, a2]) (T := T_many_ahead) (fun P => by kernel_rfl) (by decide) (by kernel_rfl) hr (fun s X => BindsTo.of_eq (by kernel_rfl)) rfl @S_many_ahead rfl q
theorem F_rehash (hr : A.depth < recursionLimit) (q : ∀ A', Deeper A A' → T_rehash c A' [some a1, none, none] u (fun f _ u' => Q (retOf f) u')) : RUc c A (.ref 295) [a1] u Q :=
  callDef' (d := d_rehash) (qual := so "rehash") (dV := .none) (pm := (.str (so "phpcore.table") 418)) (cd := 294) (ns := N_rehash) (np := 1) (vals' := [a1]) (T := T_rehash) (fun P => by kernel_rfl) (by decide) (by kernel_rfl) hr (fun s X => BindsTo.of_eq (by kernel_rfl)) rfl @S_rehash rfl q
theorem F_to_hash (hr : A.depth < recursionLimit) (q : ∀ A', Deeper A A' → T_to_hash c A' [some a1] u (fun f _ u' => Q (retOf f) u')) : RUc c A (.ref 302) [a1] u Q :=
  callDef' (d := d_to_hash) (qual := so "to_hash") (dV := .none) (pm := (.str (so "phpcore.table") 418)) (cd := 301) (ns := N_to_hash) (np := 1) (vals' := [a1]) (T := T_to_hash) (fun P => by kernel_rfl) (by decide) (by kernel_rfl) hr (fun s X => BindsTo.of_eq (by kernel_rfl)) rfl @S_to_hash rfl q
theorem F_takes_packed (hr : A.depth < recursionLimit) (q : ∀ A', Deeper A A' → T_takes_packed c A' [some a1, some a2] u (fun f _ u' => Q (retOf f) u')) : RUc c A (.ref 309) [a1, a2] u Q :=
  callDef' (d := d_takes_packed) (qual := so "takes_packed") (dV := .none) (pm := (.str (so "phpcore.table") 418)) (cd := 308) (ns := N_takes_packed) (np := 2) (vals' := [a1, a2]) (T := T_takes_packed) (fun P => by kernel_rfl) (by decide) (by kernel_rfl) hr (fun s X => BindsTo.of_eq (by kernel_rfl)) rfl @S_takes_packed rfl q
theorem F_add_packed (hr : A.depth < recursionLimit) (q : ∀ A', Deeper A A' → T_add_packed c A' [some a1, some a2, some a3] u (fun f _ u' => Q (retOf f) u')) : RUc c A (.ref 316) [a1, a2, a3] u Q :=
  callDef' (d := d_add_packed) (qual := so "add_packed") (dV := .none) (pm := (.str (so "phpcore.table") 418)) (cd := 315) (ns := N_add_packed) (np := 3) (vals' := [a1, a2, a3]) (T := T_add_packed) (fun P => by kernel_rfl) (by decide) (by kernel_rfl) hr (fun s X => BindsTo.of_eq (by kernel_rfl)) rfl @S_add_packed rfl q
theorem F_add_hashed (hr : A.depth < recursionLimit) (q : ∀ A', Deeper A A' → T_add_hashed c A' [some a1, some a2, some a3, none] u (fun f _ u' => Q (retOf f) u')) : RUc c A (.ref 323) [a1, a2, a3] u Q :=
  callDef' (d := d_add_hashed) (qual := so "add_hashed") (dV := .none) (pm := (.str (so "phpcore.table") 418)) (cd := 322) (ns := N_add_hashed) (np := 3) (vals' := [a1, a2, a3]) (T := T_add_hashed) (fun P => by kernel_rfl) (by decide) (by kernel_rfl) hr (fun s X => BindsTo.of_eq (by kernel_rfl)) rfl @S_add_hashed rfl q
theorem F_add (hr : A.depth < recursionLimit) (q : ∀ A', Deeper A A' → T_add c A' [some a1, some a2, some a3] u (fun f _ u' => Q (retOf f) u')) : RUc c A (.ref 330) [a1, a2, a3] u Q :=
  callDef' (d := d_add) (qual := so "add") (dV := .none) (pm := (.str (so "phpcore.table") 418)) (cd := 329) (ns := N_add) (np := 3) (vals' := [a1, a2, a3]) (T := T_add) (fun P => by kernel_rfl) (by decide) (by kernel_rfl) hr (fun s X => BindsTo.of_eq (by kernel_rfl)) rfl @S_add rfl q
theorem F_slots_of (hr : A.depth < recursionLimit) (q : ∀ A', Deeper A A' → T_slots_of c A' [some a1] u (fun f _ u' => Q (retOf f) u')) : RUc c A (.ref 342) [a1] u Q :=
  callDef' (d := d_slots_of) (qual := so "slots_of") (dV := .none) (pm := (.str (so "phpcore.table") 418)) (cd := 341) (ns := N_slots_of) (np := 1) (vals' := [a1]) (T := T_slots_of) (fun P => by kernel_rfl) (by decide) (by kernel_rfl) hr (fun s X => BindsTo.of_eq (by kernel_rfl)) rfl @S_slots_of rfl q
theorem F_from_pairs (hr : A.depth < recursionLimit) (q : ∀ A', Deeper A A' → T_from_pairs c A' [some a1, none, none, none] u (fun f _ u' => Q (retOf f) u')) : RUc c A (.ref 349) [a1] u Q :=
  callDef' (d := d_from_pairs) (qual := so "from_pairs") (dV := .none) (pm := (.str (so "phpcore.table") 418)) (cd := 348) (ns := N_from_pairs) (np := 1) (vals' := [a1]) (T := T_from_pairs) (fun P => by kernel_rfl) (by decide) (by kernel_rfl) hr (fun s X => BindsTo.of_eq (by kernel_rfl)) rfl @S_from_pairs rfl q
theorem F_kind (hr : A.depth < recursionLimit) (q : ∀ A', Deeper A A' → T_kind c A' [some a1] u (fun f _ u' => Q (retOf f) u')) : RUc c A (.ref 356) [a1] u Q :=
  callDef' (d := d_kind) (qual := so "kind") (dV := .none) (pm := (.str (so "phpcore.values") 641)) (cd := 355) (ns := N_kind) (np := 1) (vals' := [a1]) (T := T_kind) (fun P => by kernel_rfl) (by decide) (by kernel_rfl) hr (fun s X => BindsTo.of_eq (by kernel_rfl)) rfl @S_kind rfl q
theorem F_given (hr : A.depth < recursionLimit) (q : ∀ A', Deeper A A' → T_given c A' [some a1] u (fun f _ u' => Q (retOf f) u')) : RUc c A (.ref 363) [a1] u Q :=
  callDef' (d := d_given) (qual := so "given") (dV := .none) (pm := (.str (so "phpcore.values") 641)) (cd := 362) (ns := N_given) (np := 1) (vals' := [a1]) (T := T_given) (fun P => by kernel_rfl) (by decide) (by kernel_rfl) hr (fun s X => BindsTo.of_eq (by kernel_rfl)) rfl @S_given rfl q
theorem F_type_word (hr : A.depth < recursionLimit) (q : ∀ A', Deeper A A' → T_type_word c A' [some a1, none] u (fun f _ u' => Q (retOf f) u')) : RUc c A (.ref 370) [a1] u Q :=
  callDef' (d := d_type_word) (qual := so "type_word") (dV := .none) (pm := (.str (so "phpcore.values") 641)) (cd := 369) (ns := N_type_word) (np := 1) (vals' := [a1]) (T := T_type_word) (fun P => by kernel_rfl) (by decide) (by kernel_rfl) hr (fun s X => BindsTo.of_eq (by kernel_rfl)) rfl @S_type_word rfl q
theorem F_same (hr : A.depth < recursionLimit) (q : ∀ A', Deeper A A' → T_same c A' [some a1, some a2] u (fun f _ u' => Q (retOf f) u')) : RUc c A (.ref 377) [a1, a2] u Q :=
  callDef' (d := d_same) (qual := so "same") (dV := .none) (pm := (.str (so "phpcore.values") 641)) (cd := 376) (ns := N_same) (np := 2) (vals' := [a1, a2]) (T := T_same) (fun P => by kernel_rfl) (by decide) (by kernel_rfl) hr (fun s X => BindsTo.of_eq (by kernel_rfl)) rfl @S_same rfl q
theorem F_same_at (hr : A.depth < recursionLimit) (q : ∀ A', Deeper A A' → T_same_at c A' [some a1, some a2, some a3, none] u (fun f _ u' => Q (retOf f) u')) : RUc c A (.ref 384) [a1, a2, a3] u Q :=
  callDef' (d := d_same_at) (qual := so "same_at") (dV := .none) (pm := (.str (so "phpcore.values") 641)) (cd := 383) (ns := N_same_at) (np := 3) (vals' := [a1, a2, a3]) (T := T_same_at) (fun P => by kernel_rfl) (by decide) (by kernel_rfl) hr (fun s X => BindsTo.of_eq (by kernel_rfl)) rfl @S_same_at rfl q
theorem F_same_arrays (hr : A.depth < recursionLimit) (q : ∀ A', Deeper A A' → T_same_arrays c A' [some a1, some a2, some a3, none, none, none, none, none, none] u (fun f _ u' => Q (retOf f) u')) : RUc c A (.ref 391) [a1, a2, a3] u Q :=
  callDef' (d := d_same_arrays) (qual := so "same_arrays") (dV := .none) (pm := (.str (so "phpcore.values") 641)) (cd := 390) (ns := N_same_arrays) (np := 3) (vals' := [a1, a2, a3]) (T := T_same_arrays) (fun P => by kernel_rfl) (by decide) (by kernel_rfl) hr (fun s X => BindsTo.of_eq (by kernel_rfl)) rfl @S_same_arrays rfl q
theorem F_plain (hr : A.depth < recursionLimit) (q : ∀ A', Deeper A A' → T_plain c A' [some a1] u (fun f _ u' => Q (retOf f) u')) : RUc c A (.ref 405) [a1] u Q :=
  callDef' (d := d_plain) (qual := so "plain") (dV := .none) (pm := (.str (so "phpcore.values") 641)) (cd := 404) (ns := N_plain) (np := 1) (vals' := [a1]) (T := T_plain) (fun P => by kernel_rfl) (by decide) (by kernel_rfl) hr (fun s X => BindsTo.of_eq (by kernel_rfl)) rfl @S_plain rfl q
theorem F_plain_at (hr : A.depth < recursionLimit) (q : ∀ A', Deeper A A' → T_plain_at c A' [some a1, some a2, none, none, none, none] u (fun f _ u' => Q (retOf f) u')) : RUc c A (.ref 412) [a1, a2] u Q :=
  callDef' (d := d_plain_at) (qual := so "plain_at") (dV := .none) (pm := (.str (so "phpcore.values") 641)) (cd := 411) (ns := N_plain_at) (np := 2) (vals' := [a1, a2]) (T := T_plain_at) (fun P => by kernel_rfl) (by decide) (by kernel_rfl) hr (fun s X => BindsTo.of_eq (by kernel_rfl)) rfl @S_plain_at rfl q
theorem F_lower (hr : A.depth < recursionLimit) (q : ∀ A', Deeper A A' → T_lower c A' [some a1, none, none] u (fun f _ u' => Q (retOf f) u')) : RUc c A (.ref 419) [a1] u Q :=
  callDef' (d := d_lower) (qual := so "lower") (dV := .none) (pm := (.str (so "phpcore.values") 641)) (cd := 418) (ns := N_lower) (np := 1) (vals' := [a1]) (T := T_lower) (fun P => by kernel_rfl) (by decide) (by kernel_rfl) hr (fun s X => BindsTo.of_eq (by kernel_rfl)) rfl @S_lower rfl q
theorem F_Frame_init (hr : A.depth < recursionLimit) (q : ∀ A', Deeper A A' → T_Frame_init c A' [some a1, some (.none : Value), some (.none : Value), some (.none : Value), some (.none : Value)] u (fun f _ u' => Q (retOf f) u')) : RUc c A (.ref 448) [a1] u Q :=
  callDef' (d := d_Frame_init) (qual := so "Frame.__init__") (dV := .ref 441) (pm := (.str (so "phpcore.frames") 752)) (cd := 447) (ns := N_Frame_init) (np := 5) (vals' := [a1, (.none : Value), (.none : Value), (.none : Value), (.none : Value)]) (T := T_Frame_init) (fun P => by kernel_rfl) (by decide) (by kernel_rfl) hr (fun s X => PySem.W.kp_binds X fun S => by kernel_rfl) rfl @S_Frame_init rfl q
theorem F_Host_init (hr : A.depth < recursionLimit) (q : ∀ A', Deeper A A' → T_Host_init c A' [some a1, some (.int 12 805 : Value), some (.none : Value)] u (fun f _ u' => Q (retOf f) u')) : RUc c A (.ref 470) [a1] u Q :=
  callDef' (d := d_Host_init) (qual := so "Host.__init__") (dV := .ref 463) (pm := (.str (so "phpcore.host") 791)) (cd := 469) (ns := N_Host_init) (np := 3) (vals' := [a1, (.int 12 805 : Value), (.none : Value)]) (T := T_Host_init) (fun P => by kernel_rfl) (by decide) (by kernel_rfl) hr (fun s X => PySem.W.kp_binds X fun S => by kernel_rfl) rfl @S_Host_init rfl q
theorem F_Klass_init (hr : A.depth < recursionLimit) (q : ∀ A', Deeper A A' → T_Klass_init c A' [some a1, some a2, some a3] u (fun f _ u' => Q (retOf f) u')) : RUc c A (.ref 568) [a1, a2, a3] u Q :=
  callDef' (d := d_Klass_init) (qual := so "Klass.__init__") (dV := .none) (pm := (.str (so "phpcore.klass") 931)) (cd := 567) (ns := N_Klass_init) (np := 3) (vals' := [a1, a2, a3]) (T := T_Klass_init) (fun P => by kernel_rfl) (by decide) (by kernel_rfl) hr (fun s X => BindsTo.of_eq (by kernel_rfl)) rfl @S_Klass_init rfl q
theorem F_to_bool (hr : A.depth < recursionLimit) (q : ∀ A', Deeper A A' → T_to_bool c A' [some a1, none] u (fun f _ u' => Q (retOf f) u')) : RUc c A (.ref 638) [a1] u Q :=
  callDef' (d := d_to_bool) (qual := so "to_bool") (dV := .none) (pm := (.str (so "phpcore.convert") 1056)) (cd := 637) (ns := N_to_bool) (np := 1) (vals' := [a1]) (T := T_to_bool) (fun P => by kernel_rfl) (by decide) (by kernel_rfl) hr (fun s X => BindsTo.of_eq (by kernel_rfl)) rfl @S_to_bool rfl q
theorem F_sign_of (hr : A.depth < recursionLimit) (q : ∀ A', Deeper A A' → T_sign_of c A' [some a1, some a2] u (fun f _ u' => Q (retOf f) u')) : RUc c A (.ref 680) [a1, a2] u Q :=
  callDef' (d := d_sign_of) (qual := so "sign_of") (dV := .none) (pm := (.str (so "phpcore.likeness") 1106)) (cd := 679) (ns := N_sign_of) (np := 2) (vals' := [a1, a2]) (T := T_sign_of) (fun P => by kernel_rfl) (by decide) (by kernel_rfl) hr (fun s X => BindsTo.of_eq (by kernel_rfl)) rfl @S_sign_of rfl q
theorem F_check_depth (hr : A.depth < recursionLimit) (q : ∀ A', Deeper A A' → T_check_depth c A' [some a1] u (fun f _ u' => Q (retOf f) u')) : RUc c A (.ref 701) [a1] u Q :=
  callDef' (d := d_check_depth) (qual := so "check_depth") (dV := .none) (pm := (.str (so "phpcore.likeness") 1106)) (cd := 700) (ns := N_check_depth) (np := 1) (vals' := [a1]) (T := T_check_depth) (fun P => by kernel_rfl) (by decide) (by kernel_rfl) hr (fun s X => BindsTo.of_eq (by kernel_rfl)) rfl @S_check_depth rfl q
theorem F_compare_objects (hr : A.depth < recursionLimit) (q : ∀ A', Deeper A A' → T_compare_objects c A' [some a1, some a2, some a3, some a4, none, none, none, none] u (fun f _ u' => Q (retOf f) u')) : RUc c A (.ref 715) [a1, a2, a3, a4] u Q :=
  callDef' (d := d_compare_objects) (qual := so "compare_objects") (dV := .none) (pm := (.str (so "phpcore.likeness") 1106)) (cd := 714) (ns := N_compare_objects) (np := 4) (vals' := [a1, a2, a3, a4]) (T := T_compare_objects) (fun P => by kernel_rfl) (by decide) (by kernel_rfl) hr (fun s X => BindsTo.of_eq (by kernel_rfl)) rfl @S_compare_objects rfl q
theorem F_compare (hr : A.depth < recursionLimit) (q : ∀ A', Deeper A A' → T_compare c A' [some a1, some a2, some a3, some a4, none, none] u (fun f _ u' => Q (retOf f) u')) : RUc c A (.ref 744) [a1, a2, a3, a4] u Q :=
  callDef' (d := d_compare) (qual := so "compare") (dV := .ref 737) (pm := (.str (so "phpcore.likeness") 1106)) (cd := 743) (ns := N_compare) (np := 4) (vals' := [a1, a2, a3, a4]) (T := T_compare) (fun P => by kernel_rfl) (by decide) (by kernel_rfl) hr (fun s X => PySem.W.kp_binds X fun S => by kernel_rfl) rfl @S_compare rfl q
theorem F_equal_arrays (hr : A.depth < recursionLimit) (q : ∀ A', Deeper A A' → T_equal_arrays c A' [some a1, some a2, some a3, some a4, none, none] u (fun f _ u' => Q (retOf f) u')) : RUc c A (.ref 751) [a1, a2, a3, a4] u Q :=
  callDef' (d := d_equal_arrays) (qual := so "equal_arrays") (dV := .none) (pm := (.str (so "phpcore.likeness") 1106)) (cd := 750) (ns := N_equal_arrays) (np := 4) (vals' := [a1, a2, a3, a4]) (T := T_equal_arrays) (fun P => by kernel_rfl) (by decide) (by kernel_rfl) hr (fun s X => BindsTo.of_eq (by kernel_rfl)) rfl @S_equal_arrays rfl q
theorem F_loose_equal_3 (hr : A.depth < recursionLimit) (q : ∀ A', Deeper A A' → T_loose_equal c A' [some a1, some a2, some a3, some (.int 0 1218 : Value), none, none] u (fun f _ u' => Q (retOf f) u')) : RUc c A (.ref 759) [a1, a2, a3] u Q :=
  callDef' (d := d_loose_equal) (qual := so "loose_equal") (dV := .ref 752) (pm := (.str (so "phpcore.likeness") 1106)) (cd := 758) (ns := N_loose_equal) (np := 4) (vals' := [a1, a2, a3, (.int 0 1218 : Value)]) (T := T_loose_equal) (fun P => by kernel_rfl) (by decide) (by kernel_rfl) hr (fun s X => PySem.W.kp_binds X fun S => by kernel_rfl) rfl @S_loose_equal rfl q
theorem F_loose_equal (hr : A.depth < recursionLimit) (q : ∀ A', Deeper A A' → T_loose_equal c A' [some a1, some a2, some a3, some a4, none, none] u (fun f _ u' => Q (retOf f) u')) : RUc c A (.ref 759) [a1, a2, a3, a4] u Q :=
  callDef' (d := d_loose_equal) (qual := so "loose_equal") (dV := .ref 752) (pm := (.str (so "phpcore.likeness") 1106)) (cd := 758) (ns := N_loose_equal) (np := 4) (vals' := [a1, a2, a3, a4]) (T := T_loose_equal) (fun P => by kernel_rfl) (by decide) (by kernel_rfl) hr (fun s X => PySem.W.kp_binds X fun S => by kernel_rfl) rfl @S_loose_equal rfl q
theorem F__law_digit (hr : A.depth < recursionLimit) (q : ∀ A', Deeper A A' → T__law_digit c A' [some a1, some a2, none] u (fun f _ u' => Q (retOf f) u')) : RUc c A (.ref 766) [a1, a2] u Q :=
  callDef' (d := d__law_digit) (qual := so "_law_digit") (dV := .none) (pm := (.str (so "law_pq0864_01") 1231)) (cd := 765) (ns := N__law_digit) (np := 2) (vals' := [a1, a2]) (T := T__law_digit) (fun P => by kernel_rfl) (by decide) (by kernel_rfl) hr (fun s X => BindsTo.of_eq (by kernel_rfl)) rfl @S__law_digit rfl q
theorem F__law_first (hr : A.depth < recursionLimit) (q : ∀ A', Deeper A A' → T__law_first c A' [none, none] u (fun f _ u' => Q (retOf f) u')) : RUc c A (.ref 773) [] u Q :=
  callDef' (d := d__law_first) (qual := so "_law_first") (dV := .none) (pm := (.str (so "law_pq0864_01") 1231)) (cd := 772) (ns := N__law_first) (np := 0) (vals' := []) (T := T__law_first) (fun P => by kernel_rfl) (by decide) (by kernel_rfl) hr (fun s X => BindsTo.of_eq (by kernel_rfl)) rfl @S__law_first rfl q
theorem F__law_word (hr : A.depth < recursionLimit) (q : ∀ A', Deeper A A' → T__law_word c A' [some a1] u (fun f _ u' => Q (retOf f) u')) : RUc c A (.ref 780) [a1] u Q :=
  callDef' (d := d__law_word) (qual := so "_law_word") (dV := .none) (pm := (.str (so "law_pq0864_01") 1231)) (cd := 779) (ns := N__law_word) (np := 1) (vals' := [a1]) (T := T__law_word) (fun P => by kernel_rfl) (by decide) (by kernel_rfl) hr (fun s X => BindsTo.of_eq (by kernel_rfl)) rfl @S__law_word rfl q
theorem F__law_leaf (hr : A.depth < recursionLimit) (q : ∀ A', Deeper A A' → T__law_leaf c A' [some a1, some a2, none, none] u (fun f _ u' => Q (retOf f) u')) : RUc c A (.ref 787) [a1, a2] u Q :=
  callDef' (d := d__law_leaf) (qual := so "_law_leaf") (dV := .none) (pm := (.str (so "law_pq0864_01") 1231)) (cd := 786) (ns := N__law_leaf) (np := 2) (vals' := [a1, a2]) (T := T__law_leaf) (fun P => by kernel_rfl) (by decide) (by kernel_rfl) hr (fun s X => BindsTo.of_eq (by kernel_rfl)) rfl @S__law_leaf rfl q
theorem F__law_turned (hr : A.depth < recursionLimit) (q : ∀ A', Deeper A A' → T__law_turned c A' [some a1, some a2, some a3, none, none, none, none, none, none, none] u (fun f _ u' => Q (retOf f) u')) : RUc c A (.ref 792) [a1, a2, a3] u Q :=
  callDef' (d := d__law_turned) (qual := so "_law_turned") (dV := .none) (pm := (.str (so "law_pq0864_01") 1231)) (cd := 791) (ns := N__law_turned) (np := 3) (vals' := [a1, a2, a3]) (T := T__law_turned) (fun P => by kernel_rfl) (by decide) (by kernel_rfl) hr (fun s X => BindsTo.of_eq (by kernel_rfl)) rfl @S__law_turned rfl q
theorem F__law_made (hr : A.depth < recursionLimit) (q : ∀ A', Deeper A A' → T__law_made c A' [some a1, some a2, none, none, none, none, none] u (fun f _ u' => Q (retOf f) u')) : RUc c A (.ref 799) [a1, a2] u Q :=
  callDef' (d := d__law_made) (qual := so "_law_made") (dV := .none) (pm := (.str (so "law_pq0864_01") 1231)) (cd := 798) (ns := N__law_made) (np := 2) (vals' := [a1, a2]) (T := T__law_made) (fun P => by kernel_rfl) (by decide) (by kernel_rfl) hr (fun s X => BindsTo.of_eq (by kernel_rfl)) rfl @S__law_made rfl q
theorem F__law_shape (hr : A.depth < recursionLimit) (q : ∀ A', Deeper A A' → T__law_shape c A' [some a1] u (fun f _ u' => Q (retOf f) u')) : RUc c A (.ref 804) [a1] u Q :=
  callDef' (d := d__law_shape) (qual := so "_law_shape") (dV := .none) (pm := (.str (so "law_pq0864_01") 1231)) (cd := 803) (ns := N__law_shape) (np := 1) (vals' := [a1]) (T := T__law_shape) (fun P => by kernel_rfl) (by decide) (by kernel_rfl) hr (fun s X => BindsTo.of_eq (by kernel_rfl)) rfl @S__law_shape rfl q
theorem F__law_words_right (hr : A.depth < recursionLimit) (q : ∀ A', Deeper A A' → T__law_words_right c A' [some a1, some a2, none] u (fun f _ u' => Q (retOf f) u')) : RUc c A (.ref 811) [a1, a2] u Q :=
  callDef' (d := d__law_words_right) (qual := so "_law_words_right") (dV := .none) (pm := (.str (so "law_pq0864_01") 1231)) (cd := 810) (ns := N__law_words_right) (np := 2) (vals' := [a1, a2]) (T := T__law_words_right) (fun P => by kernel_rfl) (by decide) (by kernel_rfl) hr (fun s X => BindsTo.of_eq (by kernel_rfl)) rfl @S__law_words_right rfl q
theorem F__law_is_equivalence (hr : A.depth < recursionLimit) (q : ∀ A', Deeper A A' → T__law_is_equivalence c A' [some a1, none, none, none] u (fun f _ u' => Q (retOf f) u')) : RUc c A (.ref 818) [a1] u Q :=
  callDef' (d := d__law_is_equivalence) (qual := so "_law_is_equivalence") (dV := .none) (pm := (.str (so "law_pq0864_01") 1231)) (cd := 817) (ns := N__law_is_equivalence) (np := 1) (vals' := [a1]) (T := T__law_is_equivalence) (fun P => by kernel_rfl) (by decide) (by kernel_rfl) hr (fun s X => BindsTo.of_eq (by kernel_rfl)) rfl @S__law_is_equivalence rfl q
theorem F__law_are_right (hr : A.depth < recursionLimit) (q : ∀ A', Deeper A A' → T__law_are_right c A' [some a1, some a2, none, none, none, none, none, none, none] u (fun f _ u' => Q (retOf f) u')) : RUc c A (.ref 823) [a1, a2] u Q :=
  callDef' (d := d__law_are_right) (qual := so "_law_are_right") (dV := .none) (pm := (.str (so "law_pq0864_01") 1231)) (cd := 822) (ns := N__law_are_right) (np := 2) (vals' := [a1, a2]) (T := T__law_are_right) (fun P => by kernel_rfl) (by decide) (by kernel_rfl) hr (fun s X => BindsTo.of_eq (by kernel_rfl)) rfl @S__law_are_right rfl q
theorem F__law_ring_right (hr : A.depth < recursionLimit) (q : ∀ A', Deeper A A' → T__law_ring_right c A' [some a1, none, none, none, none, none] u (fun f _ u' => Q (retOf f) u')) : RUc c A (.ref 828) [a1] u Q :=
  callDef' (d := d__law_ring_right) (qual := so "_law_ring_right") (dV := .none) (pm := (.str (so "law_pq0864_01") 1231)) (cd := 827) (ns := N__law_ring_right) (np := 1) (vals' := [a1]) (T := T__law_ring_right) (fun P => by kernel_rfl) (by decide) (by kernel_rfl) hr (fun s X => BindsTo.of_eq (by kernel_rfl)) rfl @S__law_ring_right rfl q
theorem F_law (hr : A.depth < recursionLimit) (q : ∀ A', Deeper A A' → T_law c A' [some a1, none, none, none, none, none, none, none] u (fun f _ u' => Q (retOf f) u')) : RUc c A (.ref 833) [a1] u Q :=
  callDef' (d := d_law) (qual := so "law") (dV := .none) (pm := (.str (so "law_pq0864_01") 1231)) (cd := 832) (ns := N_law) (np := 1) (vals' := [a1]) (T := T_law) (fun P => by kernel_rfl) (by decide) (by kernel_rfl) hr (fun s X => BindsTo.of_eq (by kernel_rfl)) rfl @S_law rfl q
end
end Mine
end
section
open PySem PySem.W PySem.Calls PyProof.Rows Builtin Builtin.ObjectAttr PySem.SeqAt
set_option Elab.async false
set_option maxRecDepth 100000
set_option linter.unusedVariables false
namespace Mine
/-- the kinds of values that the run asks isinstance of -/
inductive VK | leaf (T : String) | ref | abs | obj | arr
noncomputable def IsK (c : Cx) (u : PM) (v : Value) : VK → Prop
  | .leaf T => LeafV v T
  | .ref => ∃ x dx vs, v = .ref x ∧ Ins c u x dx 125 nRef vs
  | .abs => ∃ x dx vs, v = .ref x ∧ Ins c u x dx 147 nAbs vs
  | .obj => ∃ x dx vs, v = .ref x ∧ Ins c u x dx 168 nObj vs
  | .arr => ∃ x dx vs, v = .ref x ∧ Ins c u x dx 253 nArr vs
noncomputable def VK.isI : VK → Addr → Bool
  | .leaf _, _ => false
  | .ref, a => a == 125
  | .abs, a => a == 147
  | .obj, a => a == 168
  | .arr, a => a == 253
theorem IsK.le {c : Cx} {u u' : PM} {v : Value} {k : VK} (h : IsK c u v k) (l : Le u u') : IsK c u' v k := by
  cases k
  · exact h
  all_goals (obtain ⟨x, dx, vs, e, I⟩ := h; exact ⟨x, dx, vs, e, I.le l⟩)
noncomputable def cls4 : List Addr := [125, 147, 168, 253]
theorem notIn4 (P : Params) : ["NoneType", "bool", "int", "str"].all (fun T => cls4.all fun C => isNotIn (KK P) T C) = true := by kernel_rfl
theorem kinNot4 (P : Params) : cls4.all (fun D => cls4.all fun C => D == C || kin_not (KK P) D C) = true := by kernel_rfl
theorem kinNotT (P : Params) : [168, 253].all (fun D => ["bool", "int", "str"].all fun T => kin_notT (KK P) D T) = true := by kernel_rfl
section
variable {c : Cx} {A : Around} {u : PM} {v w : Value} {Q : Value → PM → Prop} {C : Addr} {k : VK} {b : Bool}
theorem isiK (hk : IsK c u v k) (hC : C ∈ cls4) (hb : k.isI C = b) (q : Q (.bool b) u) : RU c A (call (.builtin "isinstance") [v, .ref C]) u Q := by
  subst hb
  have two : ∀ {D x dx vs} {ns : List Str}, Cls D ns → D ∈ cls4 → Ins c u x dx D ns vs → Q (.bool (C == D)) u → RU c A (call (.builtin "isinstance") [.ref x, .ref C]) u Q := fun {D x dx vs ns} K hD I q => by
    by_cases e : C = D
    · subst e
      rw [beq_self_eq_true] at q
      exact isiY I q
    · rw [beq_eq_false_iff_ne.mpr e] at q
      refine isiN K I (fun P => ?_) q
      have := List.all_eq_true.mp (List.all_eq_true.mp (kinNot4 P) D hD) C hC
      rw [beq_eq_false_iff_ne.mpr (Ne.symm e), Bool.false_or] at this
      exact this
  cases k with
  | leaf T =>
    refine isiL hk (fun P => ?_) q
    have hT : T ∈ ["NoneType", "bool", "int", "str"] := by cases hk <;> decide
    exact List.all_eq_true.mp (List.all_eq_true.mp (notIn4 P) T hT) C hC
  | ref => obtain ⟨x, dx, vs, rfl, I⟩ := hk; exact two kRef (by decide) I q
  | abs => obtain ⟨x, dx, vs, rfl, I⟩ := hk; exact two kAbs (by decide) I q
  | obj => obtain ⟨x, dx, vs, rfl, I⟩ := hk; exact two kObj (by decide) I q
  | arr => obtain ⟨x, dx, vs, rfl, I⟩ := hk; exact two kArr (by decide) I q
theorem c_deref (R : Room A 1) (hk : IsK c u v k) (h1 : k.isI 125 = false) (h2 : k.isI 147 = false) (q : Q v u) : RUc c A (.ref 179) [v] u Q :=
  F_deref R.lt fun A' D => ⟨kprB, isiK hk (by decide) h1 (trB ⟨kprB, isiK hk (by decide) h2 (trB q)⟩)⟩
theorem c_derefR {r dr : Addr} {vs : List (Option Value)} (R : Room A 1) (I : Ins c u r dr 125 nRef (some w :: vs)) (hk : IsK c u w k) (h2 : k.isI 147 = false) (hw : handedIn w = true) (q : Q w u) : RUc c A (.ref 179) [.ref r] u Q :=
  F_deref R.lt fun A' D => ⟨kprB, isiK (k := .ref) ⟨_, _, _, rfl, I⟩ (by decide) rfl (trB (getA kRef I (i := 0) (by kernel_rfl) rfl hw ⟨kprB, isiK hk (by decide) h2 (trB q)⟩))⟩
end
end Mine
end
section
open PySem PySem.W PySem.Calls PyProof.Rows Builtin Builtin.ObjectAttr PySem.SeqAt
set_option Elab.async false
set_option maxRecDepth 100000
set_option linter.unusedVariables false
namespace Mine
theorem Le.up {u0 u : PM} {a : Addr} {o : Obj} (l : Le u0 u) (h : u0 a = Option.none) : Le u0 (upd u a o) := fun b x e => by
  have : b ≠ a := fun z => by rw [z, h] at e; cases e
  rw [upd_ne this]; exact l b x e
theorem Le.upn {u0 u : PM} {a : Addr} {o : Obj} (l : Le u0 u) (h : u a = Option.none) : Le u0 (upd u a o) := l.up (l.none h)
/-- one in the making -/
structure Ini (c : Cx) (u0 u : PM) (x dx D : Addr) (ns : List Str) (vs : List (Option Value)) : Prop where
  le : Le u0 u
  ins : Ins c u x dx D ns vs
  f : u0 dx = none
section
variable {c : Cx} {A : Around} {u0 u u' : PM} {x dx D a : Addr} {o : Obj} {ns : List Str} {vs : List (Option Value)} {name : Str} {i : Nat} {v w : Value}
theorem Ini.up (I : Ini c u0 u x dx D ns vs) (h : u a = none) : Ini c u0 (upd u a o) x dx D ns vs :=
  ⟨I.le.upn h, I.ins.other (fun z => by have := I.ins.at_; rw [z, h] at this; cases this) (fun z => by obtain ⟨_, e, _⟩ := I.ins.dct; rw [z, h] at e; cases e), I.f⟩
theorem Ini.grow (I : Ini c u0 u x dx D ns vs) (l : Le u u') : Ini c u0 u' x dx D ns vs := ⟨I.le.trans l, I.ins.le l, I.f⟩
theorem setI {Q : Unit → PM → Prop} (K : Cls D ns) (I : Ini c u0 u x dx D ns vs) (hi : idx ns name = some i) (q : ∀ u', (∀ b ob, b ≠ dx → u b = some ob → u' b = some ob) → Ini c u0 u' x dx D ns (setN vs i v) → Q () u') : RU c A (setAttr (.ref x) name v) u Q :=
  setA K I.ins hi fun o I' => q _ (fun b ob hb e => (upd_ne hb).trans e) ⟨I.le.up I.f, I', I.f⟩
theorem newI {Q : Value → PM → Prop} {fI : Addr} {args : List Value} {k : Nat} (R : Room A (k + 1)) (M : Mk D fI)
    (q : ∀ x dx u1 A', Room A' k → u x = none → Ini c u u1 x dx D ns (List.replicate ns.length none) → RUc c A' (.ref fI) (.ref x :: args) u1 (fun v u3 => v = .none ∧ Q (.ref x) u3)) : RU c A (call (.ref D) args) u Q :=
  newC R M fun x dx A' R' hx hdx _ I => q x dx _ A' R' hx ⟨((Le.refl u).up hdx).up hx, I, hdx⟩
theorem keepL {l : Addr} {xs : List Value} (I : Ins c u x dx D ns vs) (g : ∀ b ob, b ≠ dx → u b = some ob → u' b = some ob) (L : Lst u l xs) : Lst u' l xs := let ⟨o, e, r⟩ := L; ⟨o, g _ _ (I.dxL L).symm e, r⟩
/-! small ones -/
theorem c_least {Q : Value → PM → Prop} (R : Room A 1) (q : ∀ t, Q (.int (-9223372036854775808) t) u) : RUc c A (.ref 100) [] u Q :=
  F_least R.lt fun A' D t1 t2 => powI (by decide) (by decide) (by decide) fun t => negI fun t => q t
theorem c_greatest {Q : Value → PM → Prop} (R : Room A 1) (q : ∀ t, Q (.int 9223372036854775807 t) u) : RUc c A (.ref 107) [] u Q :=
  F_greatest R.lt fun A' D t1 t2 => powI (by decide) (by decide) (by decide) fun t t3 => subI fun t => q t
theorem sz0 {l : List Value} (h : Nat.ble l.length 100 = true := by rfl) : l.length ≤ sizeLine := by have := Nat.le_of_ble_eq_true h; rw [sizeLine_eq]; omega
/-- Ref(w) -/
theorem c_Ref {Q : Value → PM → Prop} (R : Room A 2) (q : ∀ x dx u' vs, Le u u' → u x = none → u dx = none → Ins c u' x dx 125 nRef (some w :: vs) → Q (.ref x) u') : RU c A (call (.ref 125) [w]) u Q :=
  newI (ns := nRef) R mRef fun x dx u1 A' R' hx I => F_Ref_init R'.lt fun A'' D =>
    setI kRef I (i := 0) (by kernel_rfl) fun u2 _ I => fun t => setI kRef I (i := 1) (by kernel_rfl) fun u3 _ I => lstN sz0 fun a o ha _ L => setI kRef (I.up ha) (i := 2) (by kernel_rfl) fun u4 _ I => ⟨rfl, q _ _ _ _ I.le hx I.f I.ins⟩
theorem c_Ref0 {Q : Value → PM → Prop} (R : Room A 2) (q : ∀ x dx u' vs, Le u u' → u x = none → u dx = none → Ins c u' x dx 125 nRef (some .none :: vs) → Q (.ref x) u') : RU c A (call (.ref 125) []) u Q :=
  newI (ns := nRef) R mRef fun x dx u1 A' R' hx I => F_Ref_init_1 R'.lt fun A'' D =>
    setI kRef I (i := 0) (by kernel_rfl) fun u2 _ I => fun t => setI kRef I (i := 1) (by kernel_rfl) fun u3 _ I => lstN sz0 fun a o ha _ L => setI kRef (I.up ha) (i := 2) (by kernel_rfl) fun u4 _ I => ⟨rfl, q _ _ _ _ I.le hx I.f I.ins⟩
theorem c_Absent {Q : Value → PM → Prop} (R : Room A 2) (q : ∀ x dx u' vs, Le u u' → u x = none → u dx = none → Ins c u' x dx 147 nAbs vs → Q (.ref x) u') : RU c A (call (.ref 147) []) u Q :=
  newI (ns := nAbs) R mAbs fun x dx u1 A' R' hx I => F_Absent_init R'.lt fun A'' D => setI kAbs I (i := 0) (by kernel_rfl) fun u2 _ I => ⟨rfl, q _ _ _ _ I.le hx I.f I.ins⟩
theorem c_Obj {Q : Value → PM → Prop} (R : Room A 2) (q : ∀ x dx u' vs, Le u u' → u x = none → u dx = none → Ins c u' x dx 168 nObj (some v :: some w :: vs) → Q (.ref x) u') : RU c A (call (.ref 168) [v, w]) u Q :=
  newI (ns := nObj) R mObj fun x dx u1 A' R' hx I => F_Obj_init R'.lt fun A'' D =>
    setI kObj I (i := 0) (by kernel_rfl) fun u2 _ I => setI kObj I (i := 1) (by kernel_rfl) fun u3 _ I => fun d hd _ _ => setI kObj (I.up hd) (i := 2) (by kernel_rfl) fun u4 _ I => setI kObj I (i := 3) (by kernel_rfl) fun u5 _ I => fun d hd _ _ =>
      setI kObj (I.up hd) (i := 4) (by kernel_rfl) fun u4 _ I => setI kObj I (i := 5) (by kernel_rfl) fun u5 _ I => setI kObj I (i := 6) (by kernel_rfl) fun u5 _ I => ⟨rfl, q _ _ _ _ I.le hx I.f I.ins⟩
theorem c_Frame {Q : Value → PM → Prop} (R : Room A 2) (q : ∀ x u', Le u u' → u x = none → Q (.ref x) u') : RU c A (call (.ref 451) []) u Q :=
  newI (ns := nFrm) R mFrm fun x dx u1 A' R' hx I => F_Frame_init R'.lt fun A'' D =>
    setI kFrm I (i := 0) (by kernel_rfl) fun u2 _ I => setI kFrm I (i := 1) (by kernel_rfl) fun u3 _ I => setI kFrm I (i := 2) (by kernel_rfl) fun u3 _ I => setI kFrm I (i := 3) (by kernel_rfl) fun u3 _ I => fun d hd _ _ => setI kFrm (I.up hd) (i := 4) (by kernel_rfl) fun u4 _ I =>
      lstN sz0 fun a o ha _ L => setI kFrm (I.up ha) (i := 5) (by kernel_rfl) fun u4 _ I => ⟨rfl, q _ _ I.le hx⟩
theorem nth_ne : ∀ (vs : List (Option Value)) (i j : Nat) (v : Value), j ≠ i → nth (setN vs i v) j = nth vs j
  | [], i, j, v, h => by cases i <;> rfl
  | x :: r, 0, 0, v, h => absurd rfl h
  | x :: r, 0, j + 1, v, h => rfl
  | x :: r, i + 1, 0, v, h => rfl
  | x :: r, i + 1, j + 1, v, h => nth_ne r i j v fun e => h (by rw [e])
theorem nth_eq : ∀ (vs : List (Option Value)) (i : Nat) (v : Value), i < vs.length → nth (setN vs i v) i = some v
  | [], i, v, h => absurd h (Nat.not_lt_zero _)
  | x :: r, 0, v, h => rfl
  | x :: r, i + 1, v, h => nth_eq r i v (Nat.lt_of_succ_lt_succ h)
/-- a store of which little is kept in mind -/
theorem setO {Q : Unit → PM → Prop} (K : Cls D ns) (I : Ini c u0 u x dx D ns vs) (hi : idx ns name = some i) (q : ∀ u' vs', (∀ b ob, b ≠ dx → u b = some ob → u' b = some ob) → (∀ j w, j ≠ i → nth vs j = w → nth vs' j = w) → nth vs' i = some v → Ini c u0 u' x dx D ns vs' → Q () u') : RU c A (setAttr (.ref x) name v) u Q :=
  setI K I hi fun u' g I' => q u' _ g (fun j w hj e => (nth_ne _ _ _ _ hj).trans e) (nth_eq _ _ _ (I.ins.len ▸ idx_lt hi)) I'
/-- Host() -/
theorem c_Host {Q : Value → PM → Prop} (R : Room A 4) (q : ∀ x dx u' vs l, Le u u' → Ins c u' x dx 550 nHost vs → nth vs 5 = some (.ref l) → Lst u' l [] → Q (.ref x) u') : RU c A (call (.ref 550) []) u Q :=
  newI (ns := nHost) R mHost fun x dx u1 A' R' hx I => F_Host_init R'.lt fun A'' D =>
    fun d hd _ _ => setO kHost (I.up hd) (i := 0) (by kernel_rfl) fun u2 _ _ _ _ I => fun d hd _ _ => setO kHost (I.up hd) (i := 1) (by kernel_rfl) fun u2 _ _ _ _ I => fun d hd _ _ => setO kHost (I.up hd) (i := 2) (by kernel_rfl) fun u2 _ _ _ _ I =>
      ⟨kp (by decide), c_Frame ((R'.step D)) fun f u3 le _ => setO kHost (I.grow le) (i := 3) (by kernel_rfl) fun u4 _ _ _ h3 I => getA kHost I.ins (i := 3) (by kernel_rfl) h3 rfl (setO kHost I (i := 4) (by kernel_rfl) fun u5 _ _ _ _ I =>
      lstN sz0 fun l o hl _ L => setO kHost (I.up hl) (i := 5) (by kernel_rfl) fun u5 _ g _ h5 I' =>
      have L5 : Lst u5 l [] := keepL (I.up hl).ins g ⟨o, upd_self, L⟩
      fun t => setO kHost I' (i := 6) (by kernel_rfl) fun u6 _ g e _ I => have h5 := e 5 _ (by decide) h5; have L6 := keepL I'.ins g L5; lstN sz0 fun a o ha _ _ => setO kHost (I.up ha) (i := 7) (by kernel_rfl) fun u7 _ g e _ I' => have h5 := e 5 _ (by decide) h5; have L7 := keepL (I.up ha).ins g (L6.le (upd_le ha));
      lstN sz0 fun a o ha _ _ => setO kHost (I'.up ha) (i := 8) (by kernel_rfl) fun u8 _ g e _ I => have h5 := e 5 _ (by decide) h5; have L8 := keepL (I'.up ha).ins g (L7.le (upd_le ha)); fun t => setO kHost I (i := 9) (by kernel_rfl) fun u9 _ g e _ I' => have h5 := e 5 _ (by decide) h5; have L9 := keepL I.ins g L8;
      setO kHost I' (i := 10) (by kernel_rfl) fun u10 _ g e _ I => have h5 := e 5 _ (by decide) h5; have L10 := keepL I'.ins g L9; fun t => setO kHost I (i := 11) (by kernel_rfl) fun u11 _ g e _ I' => have h5 := e 5 _ (by decide) h5; have L11 := keepL I.ins g L10; setO kHost I' (i := 12) (by kernel_rfl) fun u12 _ g e _ I => have h5 := e 5 _ (by decide) h5; have L12 := keepL I'.ins g L11;
      fun t => setO kHost I (i := 13) (by kernel_rfl) fun u13 _ g e _ I' => have h5 := e 5 _ (by decide) h5; have L13 := keepL I.ins g L12; fun d hd _ _ => setO kHost (I'.up hd) (i := 14) (by kernel_rfl) fun u14 _ g e _ I => have h5 := e 5 _ (by decide) h5; have L14 := keepL (I'.up hd).ins g (L13.le (upd_le hd));
      fun d hd _ _ => setO kHost (I.up hd) (i := 15) (by kernel_rfl) fun u15 _ g e _ I' => have h5 := e 5 _ (by decide) h5; have L15 := keepL (I.up hd).ins g (L14.le (upd_le hd)); fun d hd _ _ => setO kHost (I'.up hd) (i := 16) (by kernel_rfl) fun u16 _ g e _ I => have h5 := e 5 _ (by decide) h5; have L16 := keepL (I'.up hd).ins g (L15.le (upd_le hd));
      lstN sz0 fun a o ha _ _ => setO kHost (I.up ha) (i := 17) (by kernel_rfl) fun u17 _ g e _ I' => have h5 := e 5 _ (by decide) h5; have L17 := keepL (I.up ha).ins g (L16.le (upd_le ha)); lstN sz0 fun a o ha _ _ => setO kHost (I'.up ha) (i := 18) (by kernel_rfl) fun u18 _ g e _ I => have h5 := e 5 _ (by decide) h5; have L18 := keepL (I'.up ha).ins g (L17.le (upd_le ha));
      setO kHost I (i := 19) (by kernel_rfl) fun u19 _ g e _ I' => ⟨rfl, q _ _ _ _ l I'.le I'.ins (e 5 _ (by decide) h5) (keepL I.ins g L18)⟩)⟩
end
end Mine
end
section
open PySem PySem.W PySem.Calls PyProof.Rows Builtin Builtin.ObjectAttr PySem.SeqAt
set_option Elab.async false
set_option maxRecDepth 100000
set_option linter.unusedVariables false
namespace Mine
section
variable {c : Cx} {A : Around} {u : PM} {Q : Value → PM → Prop} {a b : Int} {t t' : Tok} {x y : Str} {p q r : Bool}
theorem eqI' (e : (a == b) = r) (h : Q (.bool r) u) : RU c A (compareOp .Eq (.int a t) (.int b t')) u Q := eqI (e ▸ h)
theorem neI' (e : (a != b) = r) (h : Q (.bool r) u) : RU c A (compareOp .NotEq (.int a t) (.int b t')) u Q := neI (e ▸ h)
theorem ltI' (e : decide (a < b) = r) (h : Q (.bool r) u) : RU c A (compareOp .Lt (.int a t) (.int b t')) u Q := ltI (e ▸ h)
theorem gtI' (e : decide (b < a) = r) (h : Q (.bool r) u) : RU c A (compareOp .Gt (.int a t) (.int b t')) u Q := gtI (e ▸ h)
theorem leI' (e : decide (a ≤ b) = r) (h : Q (.bool r) u) : RU c A (compareOp .LtE (.int a t) (.int b t')) u Q := leI (e ▸ h)
theorem geI' (e : decide (b ≤ a) = r) (h : Q (.bool r) u) : RU c A (compareOp .GtE (.int a t) (.int b t')) u Q := geI (e ▸ h)
theorem eqS' (e : (x == y) = r) (h : Q (.bool r) u) : RU c A (compareOp .Eq (.str x t) (.str y t')) u Q := eqS (e ▸ h)
theorem neS' (e : (x != y) = r) (h : Q (.bool r) u) : RU c A (compareOp .NotEq (.str x t) (.str y t')) u Q := neS (e ▸ h)
theorem leS' (e : (!(y.cps.toList < x.cps.toList)) = r) (h : Q (.bool r) u) : RU c A (compareOp .LtE (.str x t) (.str y t')) u Q := leS (e ▸ h)
theorem isN' {v : Value} (e : (v == .none) = r) (h : Q (.bool r) u) : RU c A (compareOp .Is v .none) u Q := isN (e ▸ h)
noncomputable def VK.word : VK → Str
  | .leaf "NoneType" => so "null"
  | .leaf "bool" => so "bool"
  | .leaf "int" => so "int"
  | .leaf _ => so "string"
  | .arr => so "array"
  | _ => so "object"
theorem k_isT {D : Addr} {T : String} (hD : D ∈ ([168, 253] : List Addr)) (hT : T ∈ ["bool", "int", "str"]) (P : Params) : kin_notT (KK P) D T = true := List.all_eq_true.mp (List.all_eq_true.mp (kinNotT P) D hD) T hT
theorem tB : typeOf (.type "bool") = pure (.type "type") := F.isi_meta_bool
theorem tI : typeOf (.type "int") = pure (.type "type") := F.isi_meta_int
theorem tS : typeOf (.type "str") = pure (.type "type") := F.isi_meta_str
/-- kind(value) -/
theorem c_kind {v : Value} {k : VK} (R : Room A 1) (hk : IsK c u v k) (h1 : k.isI 125 = false) (h2 : k.isI 147 = false) (h : ∀ t, Q (.str k.word t) u) : RUc c A (.ref 356) [v] u Q := F_kind R.lt fun A' D => by
  cases k with
  | leaf T =>
    cases hk with
    | none => exact isN' rfl (trB fun t => h t)
    | bool b => exact isN' rfl (trB ⟨kprB, ibB (trB fun t => h t)⟩)
    | int n t => exact isN' rfl (trB ⟨kprB, iiB (trB ⟨kprB, iiI (trB fun t => h t)⟩)⟩)
    | str s t => exact isN' rfl (trB ⟨kprB, isB (trB ⟨kprB, isI (trB ⟨kprB, isS (trB fun t => h t)⟩)⟩)⟩)
  | ref => cases h1
  | abs => cases h2
  | obj =>
    obtain ⟨x, dx, vs, rfl, I⟩ := hk
    exact isN' rfl (trB ⟨kprB, isiT kObj I (k_isT (by decide) (by decide)) tB (trB ⟨kprB, isiT kObj I (k_isT (by decide) (by decide)) tI (trB ⟨kprB, isiT kObj I (k_isT (by decide) (by decide)) tS (trB
      ⟨kprB, isiK (k := .obj) ⟨_, _, _, rfl, I⟩ (by decide) rfl (trB ⟨kprB, isiK (k := .obj) ⟨_, _, _, rfl, I⟩ (by decide) rfl (trB fun t => h t)⟩)⟩)⟩)⟩)⟩)
  | arr =>
    obtain ⟨x, dx, vs, rfl, I⟩ := hk
    exact isN' rfl (trB ⟨kprB, isiT kArr I (k_isT (by decide) (by decide)) tB (trB ⟨kprB, isiT kArr I (k_isT (by decide) (by decide)) tI (trB ⟨kprB, isiT kArr I (k_isT (by decide) (by decide)) tS (trB
      ⟨kprB, isiK (k := .arr) ⟨_, _, _, rfl, I⟩ (by decide) rfl (trB fun t => h t)⟩)⟩)⟩)⟩)
/-- what given answers: the class's name, or the kind -/
theorem c_given {v : Value} {k : VK} (R : Room A 2) (hk : IsK c u v k) (h0 : k ≠ .obj) (h1 : k.isI 125 = false) (h2 : k.isI 147 = false) (h : ∀ t, Q (.str k.word t) u) : RUc c A (.ref 363) [v] u Q := F_given R.lt fun A' D =>
  ⟨kprB, isiK hk (by decide) (b := false) (by cases k <;> first | rfl | exact absurd rfl h0) (trB ⟨kp (by decide), (c_kind (R.step D) hk h1 h2 h).ru⟩)⟩
theorem c_givenO {x dx kx kdx : Addr} {vs kvs : List (Option Value)} (R : Room A 2) (I : Ins c u x dx 168 nObj (some (.ref kx) :: vs)) (K : Ins c u kx kdx 571 nKls kvs) (hn : nth kvs 0 = some (.str y t)) (h : Q (.str y t) u) : RUc c A (.ref 363) [.ref x] u Q := F_given R.lt fun A' D =>
  ⟨kprB, isiK (k := .obj) ⟨_, _, _, rfl, I⟩ (by decide) rfl (trB (getA kObj I (i := 0) (by kernel_rfl) rfl rfl (getA kKls K (i := 0) (by kernel_rfl) hn rfl h)))⟩
noncomputable def VK.tword (k : VK) : Str := if k.word = so "null" then so "NULL" else if k.word = so "bool" then so "boolean" else if k.word = so "int" then so "integer" else k.word
theorem c_tword {v : Value} {k : VK} (R : Room A 2) (hk : IsK c u v k) (h1 : k.isI 125 = false) (h2 : k.isI 147 = false) (h : ∀ t, Q (.str k.tword t) u) : RUc c A (.ref 370) [v] u Q := F_type_word R.lt fun A' D =>
  ⟨kp (by decide), (c_kind (R.step D) hk h1 h2 fun t => by
    unfold VK.tword at h
    by_cases e1 : k.word = so "null"
    · rw [if_pos e1] at h
      exact fun t => eqS' (beq_iff_eq.mpr e1) (trB fun t => h t)
    · rw [if_neg e1] at h
      refine fun t => eqS' (beq_eq_false_iff_ne.mpr e1) (trB ?_)
      by_cases e2 : k.word = so "bool"
      · rw [if_pos e2] at h
        exact fun t => eqS' (beq_iff_eq.mpr e2) (trB fun t => h t)
      · rw [if_neg e2] at h
        refine fun t => eqS' (beq_eq_false_iff_ne.mpr e2) (trB ?_)
        by_cases e3 : k.word = so "int"
        · rw [if_pos e3] at h
          exact fun t => eqS' (beq_iff_eq.mpr e3) (trB fun t => h t)
        · rw [if_neg e3] at h
          exact fun t => eqS' (beq_eq_false_iff_ne.mpr e3) (trB (h _))).ru⟩
/-! lower('A'), Klass(..) -/
theorem c_lower {t0 : Tok} (R : Room A 2) (h : ∀ s t u', Le u u' → Q (.str s t) u') : RUc c A (.ref 419) [.str (so "A") t0] u Q := F_lower R.lt fun A' D =>
  lstN sz0 fun l o hl hl0 ⟨n, hn⟩ => by
    subst hn
    refine ⟨_, _, _, _, iterStr ((R.step D).h), fun i vs u1 => Le u u1 ∧ ∃ n xs sg, vs = [some (.str (so "A") t0), some (.ref l), sg] ∧ u1 l = some (lstOf xs n) ∧ (i = 0 → xs = []) ∧ (i = 1 → ∃ t, xs = [.str (so "a") t]), ⟨upd_le hl, n, [], none, rfl, upd_self, fun _ => rfl, fun z => by cases z⟩, ?_, ?_⟩
    · rintro i v vs1 u2 u3 hi ⟨le, n, xs, sg, rfl, e, h0, h1⟩ - l23 ⟨k, t, hk, rfl⟩
      have hi0 : i = 0 := Nat.lt_one_iff.mp hi
      subst hi0
      have hk' : k = 65 := by
        have : (so "A").cps[0]? = some 65 := by kernel_rfl
        rw [this] at hk; exact (Option.some.inj hk).symm
      subst hk'
      have e0 := h0 rfl
      subst e0
      have e3 := l23 _ _ e
      refine fun pl => mApd ⟨_, e3, _, rfl⟩ ⟨kprB, fun t1 => leS' (r := true) (by decide +kernel) (trB fun t2 => leS' (r := true) (by decide +kernel) (trB ⟨kprB, ⟨kprB, ordC fun t4 => fun t5 => addI fun t6 => chrI (by decide) fun t7 => apdL e3 hl0 (Nat.zero_le _) fun n' => ?_⟩⟩))⟩
      exact ⟨trivial, fun b ob z => (upd_ne (fun y => by rw [y, hl] at z; cases z)).trans (l23 _ _ (le _ _ z)), n', _, _, rfl, upd_self, (fun z => nomatch z), fun _ => ⟨t7, by kernel_rfl⟩⟩
    · rintro vs1 u2 ⟨le, n, xs, sg, rfl, e, -, h1⟩ -
      obtain ⟨t, rfl⟩ := h1 rfl
      exact fun t1 pl => mJoin ⟨kprB, join1 ⟨_, e, _, rfl⟩ (by decide +kernel) fun t2 => h _ _ _ le⟩
theorem c_Klass {t0 : Tok} {w : Value} (R : Room A 4) (h : ∀ x dx u' vs, Le u u' → Ins c u' x dx 571 nKls vs → nth vs 0 = some (.str (so "A") t0) → Q (.ref x) u') : RU c A (call (.ref 571) [.str (so "A") t0, w]) u Q :=
  newI (ns := nKls) R mKls fun x dx u1 A' R' hx I => F_Klass_init R'.lt fun A'' D => setO kKls I (i := 0) (by kernel_rfl) fun u2 _ g _ h0 I => ⟨kp (by decide), (c_lower (R'.step D) fun s t u3 le =>
    setO kKls (I.grow le) (i := 1) (by kernel_rfl) fun u4 _ _ e _ I => have h0 := e 0 _ (by decide) h0; setO kKls I (i := 2) (by kernel_rfl) fun u4 _ _ e _ I => have h0 := e 0 _ (by decide) h0; tupN sz0 fun d o hd _ => setO kKls (I.up hd) (i := 3) (by kernel_rfl) fun u4 _ _ e _ I => have h0 := e 0 _ (by decide) h0;
    setO kKls I (i := 4) (by kernel_rfl) fun u4 _ _ e _ I => have h0 := e 0 _ (by decide) h0; lstN sz0 fun d o hd _ _ => setO kKls (I.up hd) (i := 5) (by kernel_rfl) fun u4 _ _ e _ I => have h0 := e 0 _ (by decide) h0; fun d hd _ _ => setO kKls (I.up hd) (i := 6) (by kernel_rfl) fun u4 _ _ e _ I => have h0 := e 0 _ (by decide) h0;
    fun d hd _ _ => setO kKls (I.up hd) (i := 7) (by kernel_rfl) fun u4 _ _ e _ I => have h0 := e 0 _ (by decide) h0; lstN sz0 fun d o hd _ _ => setO kKls (I.up hd) (i := 8) (by kernel_rfl) fun u4 _ _ e _ I => have h0 := e 0 _ (by decide) h0; fun d hd _ _ => setO kKls (I.up hd) (i := 9) (by kernel_rfl) fun u4 _ _ e _ I => have h0 := e 0 _ (by decide) h0;
    fun d hd _ _ => setO kKls (I.up hd) (i := 10) (by kernel_rfl) fun u4 _ _ e _ I => have h0 := e 0 _ (by decide) h0; fun d hd _ _ => setO kKls (I.up hd) (i := 11) (by kernel_rfl) fun u4 _ _ e _ I => have h0 := e 0 _ (by decide) h0; setO kKls I (i := 12) (by kernel_rfl) fun u4 _ _ e _ I => have h0 := e 0 _ (by decide) h0;
    lstN sz0 fun d o hd _ _ => setO kKls (I.up hd) (i := 13) (by kernel_rfl) fun u4 _ _ e _ I => have h0 := e 0 _ (by decide) h0; lstN sz0 fun d o hd _ _ => setO kKls (I.up hd) (i := 14) (by kernel_rfl) fun u4 _ _ e _ I => have h0 := e 0 _ (by decide) h0;
    setO kKls I (i := 15) (by kernel_rfl) fun u4 _ _ e _ I => have h0 := e 0 _ (by decide) h0; setO kKls I (i := 16) (by kernel_rfl) fun u4 _ _ e _ I => have h0 := e 0 _ (by decide) h0; setO kKls I (i := 17) (by kernel_rfl) fun u4 _ _ e _ I => ⟨rfl, h _ _ _ _ I.le I.ins (e 0 _ (by decide) h0)⟩).ru⟩
end
end Mine
end
section
open PySem PySem.W PySem.Calls PyProof.Rows Builtin Builtin.ObjectAttr PySem.SeqAt
set_option Elab.async false
set_option maxRecDepth 100000
set_option linter.unusedVariables false
namespace Mine
/-! what is not one's own -/
noncomputable def rst (u : PM) (o : List Addr) : PM := fun b => if b ∈ o then none else u b
theorem rst_le {u : PM} {o : List Addr} : Le (rst u o) u := fun b x e => by
  unfold rst at e
  split at e
  · cases e
  · exact e
theorem rst_some {u : PM} {o : List Addr} {b : Addr} {x : Obj} (h : b ∉ o) (e : u b = some x) : rst u o b = some x := by
  unfold rst; rw [if_neg h]; exact e
theorem of_rst {u : PM} {o : List Addr} {b : Addr} {x : Obj} (e : rst u o b = some x) : b ∉ o ∧ u b = some x := by
  unfold rst at e
  split at e
  · cases e
  · rename_i h; exact ⟨h, e⟩
theorem rstS {u u' : PM} {o o' : List Addr} (h : ∀ b x, b ∉ o → u b = some x → u' b = some x ∧ b ∉ o') : Le (rst u o) (rst u' o') := fun b x e => by
  obtain ⟨e1, e2⟩ := of_rst e
  obtain ⟨h1, h2⟩ := h b x e1 e2
  exact rst_some h2 h1
theorem rst_nil {u u' : PM} {o : List Addr} (l : Le (rst u []) (rst u' o)) : Le u u' := fun b x e => rst_le _ _ (l b x (rst_some (by simp) e))
theorem rst_of {u u' : PM} {o : List Addr} (l : Le u u') (h : ∀ b ∈ o, u b = Option.none) : Le u (rst u' o) := fun b x e => rst_some (fun hb => by rw [h b hb] at e; cases e) (l b x e)
/-- a list of one's own -/
structure ML (c : Cx) (u : PM) (l : Addr) (xs : List Value) : Prop where
  e : ∃ n, u l = some (lstOf xs n)
  h : c.h0.get? l = none
theorem ML.lst {c : Cx} {u : PM} {l : Addr} {xs : List Value} (m : ML c u l xs) : Lst u l xs := let ⟨n, e⟩ := m.e; ⟨_, e, n, rfl⟩
theorem ML.new {c : Cx} {u : PM} {l : Addr} {o : Obj} {xs : List Value} (h : c.h0.get? l = none) (L : LstO o xs) : ML c (upd u l o) l xs := let ⟨n, e⟩ := L; ⟨⟨n, by rw [upd_self, e]⟩, h⟩
theorem ML.ne {c : Cx} {u : PM} {l b : Addr} {ob : Obj} {xs : List Value} (m : ML c u l xs) (h : l ≠ b) : ML c (upd u b ob) l xs := ⟨let ⟨n, e⟩ := m.e; ⟨n, (upd_ne h).trans e⟩, m.h⟩
theorem ML.le {c : Cx} {u u' : PM} {l : Addr} {xs : List Value} (m : ML c u l xs) (h : Le u u') : ML c u' l xs := ⟨let ⟨n, e⟩ := m.e; ⟨n, h _ _ e⟩, m.h⟩
theorem ML.lt {c : Cx} {u : PM} {l : Addr} {xs : List Value} (m : ML c u l xs) {b : Addr} (h : u b = none) : l ≠ b := fun z => by obtain ⟨n, e⟩ := m.e; rw [z, h] at e; cases e
/-- the fields of an array -/
structure AF where
  (pk : Bool) (k v hd nx : Addr) (size : Int) (ts : Tok) (count : Int) (tc : Tok) (next : Int) (tn : Tok) (at_ : Int) (ta : Tok) (w : Addr)
noncomputable abbrev AF.fs (F : AF) : List (Option Value) := [some (.bool F.pk), some (.ref F.k), some (.ref F.v), some (.ref F.hd), some (.ref F.nx), some (.int F.size F.ts), some (.int F.count F.tc), some (.int F.next F.tn), some (.int F.at_ F.ta), some (.bool false), some (.ref F.w)]
noncomputable abbrev AF.own (F : AF) (dx : Addr) : List Addr := [dx, F.k, F.v, F.hd, F.nx]
structure ArrS (c : Cx) (u : PM) (a dx : Addr) (F : AF) (ks vs hs ns : List Value) : Prop where
  ins : Ins c u a dx 253 nArr F.fs
  wd : u F.w = some dictO
  ws : (F.w == sysModules) = false
  K : ML c u F.k ks
  V : ML c u F.v vs
  H : ML c u F.hd hs
  N : ML c u F.nx ns
  nd : F.k ≠ F.v ∧ F.k ≠ F.hd ∧ F.k ≠ F.nx ∧ F.v ≠ F.hd ∧ F.v ≠ F.nx ∧ F.hd ≠ F.nx
  wdx : F.w ≠ dx
noncomputable abbrev Own (dx : Addr) (F : AF) (u u' : PM) (F' : AF) : Prop := Le (rst u (F.own dx)) (rst u' (F'.own dx))
section
variable {c : Cx} {A : Around} {u : PM} {a dx l : Addr} {F F' : AF} {ks vs hs ns xs : List Value} {Q : Unit → PM → Prop} {name : Str} {i : Nat} {v : Value}
theorem wL {x : Addr} {zs : List Value} (m : ML c u x zs) (e : u F.w = some dictO) : F.w ≠ x := fun z => by obtain ⟨n, e'⟩ := m.e; rw [z, e'] at e; have := congrArg Obj.data (Option.some.inj e); cases this
theorem ArrS.grow {u' : PM} (S : ArrS c u a dx F ks vs hs ns) (h : Le u u') : ArrS c u' a dx F ks vs hs ns := ⟨S.ins.le h, h _ _ S.wd, S.ws, S.K.le h, S.V.le h, S.H.le h, S.N.le h, S.nd, S.wdx⟩
theorem Own.grow {u' : PM} (S : ArrS c u a dx F ks vs hs ns) (h : Le u u') : Own dx F u u' F := rstS fun b x hb e => ⟨h _ _ e, hb⟩
/-- a plain field -/
theorem aSet (S : ArrS c u a dx F ks vs hs ns) (hi : idx nArr name = some i) (hf : setN F.fs i v = F'.fs) (hp : F'.k = F.k ∧ F'.v = F.v ∧ F'.hd = F.hd ∧ F'.nx = F.nx ∧ F'.w = F.w) (q : ∀ u', ArrS c u' a dx F' ks vs hs ns → Own dx F u u' F' → Q () u') : RU c A (setAttr (.ref a) name v) u Q :=
  setA kArr S.ins hi fun o I => by
    obtain ⟨p1, p2, p3, p4, p5⟩ := hp
    refine q _ ⟨hf ▸ I, ?_, p5 ▸ S.ws, p1 ▸ S.K.ne (S.ins.dxL S.K.lst).symm, p2 ▸ S.V.ne (S.ins.dxL S.V.lst).symm, p3 ▸ S.H.ne (S.ins.dxL S.H.lst).symm, p4 ▸ S.N.ne (S.ins.dxL S.N.lst).symm, ?_, p5 ▸ S.wdx⟩ ?_
    · rw [p5]; exact (upd_ne S.wdx).trans S.wd
    · rw [p1, p2, p3, p4]; exact S.nd
    · refine rstS fun b x hb e => ⟨(upd_ne fun z => hb (by simp [z])).trans e, ?_⟩
      show b ∉ [dx, F'.k, F'.v, F'.hd, F'.nx]
      rw [p1, p2, p3, p4]; exact hb
/-- a fresh list takes a list's place -/
theorem aK {u0 : PM} (S : ArrS c u a dx F ks vs hs ns) (l0 : Le u0 u) (m : ML c u l xs) (hl : u0 l = none) (S0 : ArrS c u0 a dx F ks vs hs ns) (q : ∀ u', ArrS c u' a dx { F with k := l } xs vs hs ns → Own dx F u0 u' { F with k := l } → Q () u') : RU c A (setAttr (.ref a) (so "keys") (.ref l)) u Q :=
  setA kArr S.ins (i := 1) (by kernel_rfl) fun o I => by
    refine q _ ⟨I, (upd_ne S.wdx).trans S.wd, S.ws, m.ne (S.ins.dxL m.lst).symm, S.V.ne (S.ins.dxL S.V.lst).symm, S.H.ne (S.ins.dxL S.H.lst).symm, S.N.ne (S.ins.dxL S.N.lst).symm, ?_, S.wdx⟩ (rstS fun b x hb e => ⟨(upd_ne fun z => hb (by simp [z])).trans (l0 _ _ e), fun hb' => ?_⟩)
    · obtain ⟨n1, n2, n3, n4, n5, n6⟩ := S.nd
      exact ⟨(S0.V.lt hl).symm, (S0.H.lt hl).symm, (S0.N.lt hl).symm, n4, n5, n6⟩
    · have : b ≠ l := fun z => by rw [z, hl] at e; cases e
      simp [this] at hb' hb
      obtain ⟨b1, b2, b3, b4, b5⟩ := hb
      rcases hb' with z | z | z | z <;> contradiction
theorem aV {u0 : PM} (S : ArrS c u a dx F ks vs hs ns) (l0 : Le u0 u) (m : ML c u l xs) (hl : u0 l = none) (S0 : ArrS c u0 a dx F ks vs hs ns) (q : ∀ u', ArrS c u' a dx { F with v := l } ks xs hs ns → Own dx F u0 u' { F with v := l } → Q () u') : RU c A (setAttr (.ref a) (so "vals") (.ref l)) u Q :=
  setA kArr S.ins (i := 2) (by kernel_rfl) fun o I => by
    refine q _ ⟨I, (upd_ne S.wdx).trans S.wd, S.ws, S.K.ne (S.ins.dxL S.K.lst).symm, m.ne (S.ins.dxL m.lst).symm, S.H.ne (S.ins.dxL S.H.lst).symm, S.N.ne (S.ins.dxL S.N.lst).symm, ?_, S.wdx⟩ (rstS fun b x hb e => ⟨(upd_ne fun z => hb (by simp [z])).trans (l0 _ _ e), fun hb' => ?_⟩)
    · obtain ⟨n1, n2, n3, n4, n5, n6⟩ := S.nd
      exact ⟨S0.K.lt hl, n2, n3, (S0.H.lt hl).symm, (S0.N.lt hl).symm, n6⟩
    · have : b ≠ l := fun z => by rw [z, hl] at e; cases e
      simp [this] at hb' hb
      obtain ⟨b1, b2, b3, b4, b5⟩ := hb
      rcases hb' with z | z | z | z <;> contradiction
theorem aH {u0 : PM} (S : ArrS c u a dx F ks vs hs ns) (l0 : Le u0 u) (m : ML c u l xs) (hl : u0 l = none) (S0 : ArrS c u0 a dx F ks vs hs ns) (q : ∀ u', ArrS c u' a dx { F with hd := l } ks vs xs ns → Own dx F u0 u' { F with hd := l } → Q () u') : RU c A (setAttr (.ref a) (so "heads") (.ref l)) u Q :=
  setA kArr S.ins (i := 3) (by kernel_rfl) fun o I => by
    refine q _ ⟨I, (upd_ne S.wdx).trans S.wd, S.ws, S.K.ne (S.ins.dxL S.K.lst).symm, S.V.ne (S.ins.dxL S.V.lst).symm, m.ne (S.ins.dxL m.lst).symm, S.N.ne (S.ins.dxL S.N.lst).symm, ?_, S.wdx⟩ (rstS fun b x hb e => ⟨(upd_ne fun z => hb (by simp [z])).trans (l0 _ _ e), fun hb' => ?_⟩)
    · obtain ⟨n1, n2, n3, n4, n5, n6⟩ := S.nd
      exact ⟨n1, S0.K.lt hl, n3, S0.V.lt hl, n5, (S0.N.lt hl).symm⟩
    · have : b ≠ l := fun z => by rw [z, hl] at e; cases e
      simp [this] at hb' hb
      obtain ⟨b1, b2, b3, b4, b5⟩ := hb
      rcases hb' with z | z | z | z <;> contradiction
theorem aN {u0 : PM} (S : ArrS c u a dx F ks vs hs ns) (l0 : Le u0 u) (m : ML c u l xs) (hl : u0 l = none) (S0 : ArrS c u0 a dx F ks vs hs ns) (q : ∀ u', ArrS c u' a dx { F with nx := l } ks vs hs xs → Own dx F u0 u' { F with nx := l } → Q () u') : RU c A (setAttr (.ref a) (so "nexts") (.ref l)) u Q :=
  setA kArr S.ins (i := 4) (by kernel_rfl) fun o I => by
    refine q _ ⟨I, (upd_ne S.wdx).trans S.wd, S.ws, S.K.ne (S.ins.dxL S.K.lst).symm, S.V.ne (S.ins.dxL S.V.lst).symm, S.H.ne (S.ins.dxL S.H.lst).symm, m.ne (S.ins.dxL m.lst).symm, ?_, S.wdx⟩ (rstS fun b x hb e => ⟨(upd_ne fun z => hb (by simp [z])).trans (l0 _ _ e), fun hb' => ?_⟩)
    · obtain ⟨n1, n2, n3, n4, n5, n6⟩ := S.nd
      exact ⟨n1, n2, S0.K.lt hl, n4, S0.V.lt hl, S0.H.lt hl⟩
    · have : b ≠ l := fun z => by rw [z, hl] at e; cases e
      simp [this] at hb' hb
      obtain ⟨b1, b2, b3, b4, b5⟩ := hb
      rcases hb' with z | z | z | z <;> contradiction
/-! a list of the array turns -/
theorem own_upd {o : Obj} (h : l ∈ F.own dx) : Own dx F u (upd u l o) F := rstS fun b x hb e => ⟨(upd_ne fun z => hb (by rw [z]; exact h)).trans e, hb⟩
theorem ArrS.turnK {n : Nat} (S : ArrS c u a dx F ks vs hs ns) : ArrS c (upd u F.k (lstOf xs n)) a dx F xs vs hs ns :=
  ⟨S.ins.other (S.ins.xL S.K.lst) (S.ins.dxL S.K.lst), (upd_ne (wL S.K S.wd)).trans S.wd, S.ws, ⟨⟨n, upd_self⟩, S.K.h⟩, S.V.ne S.nd.1.symm, S.H.ne S.nd.2.1.symm, S.N.ne S.nd.2.2.1.symm, S.nd, S.wdx⟩
theorem ArrS.turnV {n : Nat} (S : ArrS c u a dx F ks vs hs ns) : ArrS c (upd u F.v (lstOf xs n)) a dx F ks xs hs ns :=
  ⟨S.ins.other (S.ins.xL S.V.lst) (S.ins.dxL S.V.lst), (upd_ne (wL S.V S.wd)).trans S.wd, S.ws, S.K.ne S.nd.1, ⟨⟨n, upd_self⟩, S.V.h⟩, S.H.ne S.nd.2.2.2.1.symm, S.N.ne S.nd.2.2.2.2.1.symm, S.nd, S.wdx⟩
theorem ArrS.turnH {n : Nat} (S : ArrS c u a dx F ks vs hs ns) : ArrS c (upd u F.hd (lstOf xs n)) a dx F ks vs xs ns :=
  ⟨S.ins.other (S.ins.xL S.H.lst) (S.ins.dxL S.H.lst), (upd_ne (wL S.H S.wd)).trans S.wd, S.ws, S.K.ne S.nd.2.1, S.V.ne S.nd.2.2.2.1, ⟨⟨n, upd_self⟩, S.H.h⟩, S.N.ne S.nd.2.2.2.2.2.symm, S.nd, S.wdx⟩
theorem ArrS.turnN {n : Nat} (S : ArrS c u a dx F ks vs hs ns) : ArrS c (upd u F.nx (lstOf xs n)) a dx F ks vs hs xs :=
  ⟨S.ins.other (S.ins.xL S.N.lst) (S.ins.dxL S.N.lst), (upd_ne (wL S.N S.wd)).trans S.wd, S.ws, S.K.ne S.nd.2.2.1, S.V.ne S.nd.2.2.2.2.1, S.H.ne S.nd.2.2.2.2.2, ⟨⟨n, upd_self⟩, S.N.h⟩, S.nd, S.wdx⟩
theorem apdK {Q : Value → PM → Prop} (S : ArrS c u a dx F ks vs hs ns) (hz : ks.length ≤ sizeLine) (q : ∀ u', ArrS c u' a dx F (ks ++ [v]) vs hs ns → Own dx F u u' F → Q .none u') : RU c A (call (.builtin "list.append") [.ref F.k, v]) u Q :=
  let ⟨n, e⟩ := S.K.e; apdL e S.K.h hz fun n' => q _ S.turnK (own_upd (by simp))
theorem apdV {Q : Value → PM → Prop} (S : ArrS c u a dx F ks vs hs ns) (hz : vs.length ≤ sizeLine) (q : ∀ u', ArrS c u' a dx F ks (vs ++ [v]) hs ns → Own dx F u u' F → Q .none u') : RU c A (call (.builtin "list.append") [.ref F.v, v]) u Q :=
  let ⟨n, e⟩ := S.V.e; apdL e S.V.h hz fun n' => q _ S.turnV (own_upd (by simp))
theorem apdN {Q : Value → PM → Prop} (S : ArrS c u a dx F ks vs hs ns) (hz : ns.length ≤ sizeLine) (q : ∀ u', ArrS c u' a dx F ks vs hs (ns ++ [v]) → Own dx F u u' F → Q .none u') : RU c A (call (.builtin "list.append") [.ref F.nx, v]) u Q :=
  let ⟨n, e⟩ := S.N.e; apdL e S.N.h hz fun n' => q _ S.turnN (own_upd (by simp))
theorem storeH {k : Int} {t : Tok} (S : ArrS c u a dx F ks vs hs ns) (h0 : 0 ≤ k) (hf : k < 2 ^ 63) (hx : k < hs.length) (q : ∀ u', ArrS c u' a dx F ks vs (hs.set k.toNat v) ns → Own dx F u u' F → Q () u') : RU c A (setItem (.ref F.hd) (.int k t) v) u Q :=
  let ⟨n, e⟩ := S.H.e; setL e S.H.h h0 hf hx fun n' => q _ S.turnH (own_upd (by simp))
theorem storeN {k : Int} {t : Tok} (S : ArrS c u a dx F ks vs hs ns) (h0 : 0 ≤ k) (hf : k < 2 ^ 63) (hx : k < ns.length) (q : ∀ u', ArrS c u' a dx F ks vs hs (ns.set k.toNat v) → Own dx F u u' F → Q () u') : RU c A (setItem (.ref F.nx) (.int k t) v) u Q :=
  let ⟨n, e⟩ := S.N.e; setL e S.N.h h0 hf hx fun n' => q _ S.turnN (own_upd (by simp))
end
end Mine
end
section
open PySem PySem.W PySem.Calls PyProof.Rows Builtin Builtin.ObjectAttr PySem.SeqAt
set_option Elab.async false
set_option maxRecDepth 100000
set_option linter.unusedVariables false
namespace Mine
inductive Key | i (n : Int) | s (x : Str) deriving DecidableEq
noncomputable def KeyV : Key → Value → Prop
  | .i n, v => ∃ t, v = .int n t
  | .s x, v => ∃ t, v = .str x t
noncomputable def hs : List Nat → Int → Int
  | [], f => f
  | k :: r, f => hs r ((f * 33 + (k : Int)).fmod ((2 : Int) ^ (64 : Int).toNat))
noncomputable def hashK : Key → Int
  | .i n => n.fmod ((2 : Int) ^ (64 : Int).toNat)
  | .s x => Builtin.bitOr (hs x.cps.toList 5381) ((2 : Int) ^ (63 : Int).toNat)
noncomputable def chn (k : Key) (sz : Nat) : Nat := ((hashK k).fmod (sz : Int)).toNat
theorem chn_is {k : Key} {sz : Nat} (h : 0 < sz) : (hashK k).fmod (sz : Int) = (chn k sz : Int) ∧ chn k sz < sz := by
  have h1 := Int.fmod_nonneg_of_pos (hashK k) (show (0 : Int) < sz by omega)
  have h2 := Int.fmod_lt_of_pos (hashK k) (show (0 : Int) < sz by omega)
  unfold chn
  omega
section
variable {c : Cx} {A : Around} {u : PM} {Q : Value → PM → Prop} {k k' : Key} {kv kv' : Value}
theorem c_hash (R : Room A 1) (hk : KeyV k kv) (q : ∀ t u', Le u u' → Q (.int (hashK k) t) u') : RUc c A (.ref 271) [kv] u Q := F_hash_of R.lt fun A' D => by
  cases k with
  | i n =>
    obtain ⟨t, rfl⟩ := hk
    exact ⟨kprB, iiI (trB fun t1 t2 => powI (by decide) (by decide) (by decide) fun t3 => modI (by decide) fun t4 => q t4 u (Le.refl u))⟩
  | s x =>
    obtain ⟨t, rfl⟩ := hk
    refine ⟨kprB, isI (trB fun t1 => ⟨_, _, _, _, iterStr (R.step D).h, fun i vs u1 => Le u u1 ∧ ∃ f t2 sg, vs = [some (.str x t), some (.int f t2), sg] ∧ hs (x.cps.toList.drop i) f = hs x.cps.toList 5381, ⟨Le.refl u, 5381, t1, none, rfl, rfl⟩, ?_, ?_⟩)⟩
    · rintro i v vs1 u2 u3 hi ⟨l, f, t2, sg, rfl, e⟩ - l23 ⟨ch, t3, hc, rfl⟩
      refine fun t4 => mulI (.of_right (by decide +kernel)) fun t5 => ⟨kprB, ordC fun t6 => addI fun t7 t8 t9 => powI (by decide) (by decide) (by decide) fun t10 => modI (by decide) fun t11 => ?_⟩
      refine ⟨trivial, l.trans l23, _, t11, _, rfl, ?_⟩
      have hc' : x.cps.toList[i]? = some ch := by simpa using hc
      obtain ⟨hlt, hg⟩ := List.getElem?_eq_some_iff.mp hc'
      rw [List.drop_eq_getElem_cons hlt, hg] at e
      exact e
    · rintro vs1 u2 ⟨l, f, t2, sg, rfl, e⟩ -
      have e' : f = hs x.cps.toList 5381 := by
        have : x.cps.toList.drop x.cps.size = [] := by simp
        rw [this] at e; exact e
      subst e'
      exact fun t1 t2 => powI (by decide) (by decide) (by decide) fun t3 => orI fun t4 => q t4 _ l
theorem neKey {r : Bool} (h1 : KeyV k kv) (h2 : KeyV k' kv') (e : decide (k ≠ k') = r) (q : Q (.bool r) u) : RU c A (compareOp .NotEq kv kv') u Q := by
  subst e
  cases k <;> cases k' <;> obtain ⟨t, rfl⟩ := h1 <;> obtain ⟨t', rfl⟩ := h2
  · rename_i n m; exact neI' (by by_cases e : n = m <;> simp [bne, e]) q
  · exact neBy (fun h tk _ => RcNeAt.int_str _ _ _ _) (by simpa using q)
  · exact neBy (fun h tk _ => RcNeAt.str_int _ _ _ _) (by simpa using q)
  · rename_i n m; exact neS' (by by_cases e : n = m <;> simp [bne, e]) q
end
/-! the chains -/
noncomputable def lb (h : Nat → Nat) : Nat → Nat → Int
  | 0, _ => -1
  | n + 1, b => if h n = b then (n : Int) else lb h n b
theorem lb_spec (h : Nat → Nat) : ∀ (n b : Nat), (lb h n b = -1 ∧ ∀ q, q < n → h q ≠ b) ∨ ∃ q : Nat, lb h n b = q ∧ q < n ∧ h q = b ∧ ∀ j, q < j → j < n → h j ≠ b
  | 0, b => .inl ⟨rfl, fun q hq => absurd hq (Nat.not_lt_zero _)⟩
  | n + 1, b => by
    unfold lb
    by_cases e : h n = b
    · rw [if_pos e]
      exact .inr ⟨n, rfl, Nat.lt_succ_self _, e, fun j h1 h2 => absurd h2 (by omega)⟩
    · rw [if_neg e]
      rcases lb_spec h n b with ⟨h1, h2⟩ | ⟨q, h1, h2, h3, h4⟩
      · refine .inl ⟨h1, fun q hq => ?_⟩
        rcases Nat.lt_or_ge q n with z | z
        · exact h2 q z
        · have : q = n := by omega
          rw [this]; exact e
      · refine .inr ⟨q, h1, by omega, h3, fun j j1 j2 => ?_⟩
        rcases Nat.lt_or_ge j n with z | z
        · exact h4 j j1 z
        · have : j = n := by omega
          rw [this]; exact e
/-- ints by a function -/
noncomputable def IntFn (xs : List Value) (n : Nat) (f : Nat → Int) : Prop := xs.length = n ∧ ∀ i, i < n → ∃ t, xs[i]? = some (.int (f i) t)
theorem IntFn.set {xs : List Value} {n : Nat} {f : Nat → Int} (x : IntFn xs n f) (k : Nat) (m : Int) (t : Tok) : IntFn (xs.set k (.int m t)) n (fun i => if i = k then m else f i) := by
  refine ⟨by simp [x.1], fun i hi => ?_⟩
  rw [List.getElem?_set]
  by_cases e : k = i
  · subst e
    rw [if_pos rfl, if_pos (x.1 ▸ hi)]; exact ⟨t, by dsimp only; rw [if_pos rfl]⟩
  · rw [if_neg e]
    obtain ⟨t', h⟩ := x.2 i hi
    exact ⟨t', by dsimp only; rw [h, if_neg (Ne.symm e)]⟩
theorem IntFn.congr {xs : List Value} {n : Nat} {f g : Nat → Int} (x : IntFn xs n f) (h : ∀ i, i < n → f i = g i) : IntFn xs n g := ⟨x.1, fun i hi => by obtain ⟨t, e⟩ := x.2 i hi; exact ⟨t, by rw [← h i hi]; exact e⟩⟩
theorem IntFn.app {xs : List Value} {n : Nat} {f : Nat → Int} (x : IntFn xs n f) (m : Int) (t : Tok) : IntFn (xs ++ [.int m t]) (n + 1) (fun i => if i = n then m else f i) := by
  refine ⟨by simp [x.1], fun i hi => ?_⟩
  by_cases e : i = n
  · subst e
    exact ⟨t, by dsimp only; rw [if_pos rfl, List.getElem?_append_right (by rw [x.1]; exact Nat.le_refl _), x.1]; simp⟩
  · have : i < n := by omega
    obtain ⟨t', h⟩ := x.2 i this
    exact ⟨t', by dsimp only; rw [if_neg e, List.getElem?_append_left (by rw [x.1]; exact this)]; exact h⟩
theorem IntFn.rep (n : Nat) (m : Int) (t : Tok) : IntFn (List.replicate n (.int m t)) n (fun _ => m) := ⟨by simp, fun i hi => ⟨t, by simp [hi]⟩⟩
/-- keys -/
noncomputable def KeysV (ks : List Value) (kk : List Key) : Prop := ks.length = kk.length ∧ ∀ (i : Nat) (k : Key), kk[i]? = some k → ∃ v : Value, ks[i]? = some v ∧ KeyV k v
theorem KeysV.app {ks : List Value} {kk : List Key} {k : Key} {v : Value} (x : KeysV ks kk) (h : KeyV k v) : KeysV (ks ++ [v]) (kk ++ [k]) := by
  refine ⟨by simp [x.1], fun i k' e => ?_⟩
  rcases Nat.lt_or_ge i kk.length with z | z
  · rw [List.getElem?_append_left z] at e
    obtain ⟨v', e1, e2⟩ := x.2 i k' e
    exact ⟨v', by rw [List.getElem?_append_left (x.1.symm ▸ z)]; exact e1, e2⟩
  · rw [List.getElem?_append_right z] at e
    have hi : i = kk.length := by
      have := (List.getElem?_eq_some_iff.mp e).1
      simp at this; omega
    subst hi
    simp at e
    subst e
    exact ⟨v, by rw [← x.1]; simp, h⟩
end Mine
end
section
open PySem PySem.W PySem.Calls PyProof.Rows Builtin Builtin.ObjectAttr PySem.SeqAt
set_option Elab.async false
set_option maxRecDepth 100000
set_option linter.unusedVariables false
namespace Mine
/-- a place of vals: living or not -/
noncomputable def Lv (c : Cx) (u : PM) (v : Value) (b : Bool) : Prop := ∃ k, IsK c u v k ∧ (!k.isI 147) = b
theorem Lv.le {c : Cx} {u u' : PM} {v : Value} {b : Bool} (x : Lv c u v b) (l : Le u u') : Lv c u' v b := let ⟨k, h, e⟩ := x; ⟨k, h.le l, e⟩
noncomputable def LvL (c : Cx) (u : PM) (vs : List Value) (lv : List Bool) : Prop := vs.length = lv.length ∧ ∀ (i : Nat) (b : Bool), lv[i]? = some b → ∃ v : Value, vs[i]? = some v ∧ Lv c u v b
theorem LvL.le {c : Cx} {u u' : PM} {vs : List Value} {lv : List Bool} (x : LvL c u vs lv) (l : Le u u') : LvL c u' vs lv := ⟨x.1, fun i b e => let ⟨v, h1, h2⟩ := x.2 i b e; ⟨v, h1, h2.le l⟩⟩
theorem LvL.app {c : Cx} {u : PM} {vs : List Value} {lv : List Bool} {v : Value} {b : Bool} (x : LvL c u vs lv) (h : Lv c u v b) : LvL c u (vs ++ [v]) (lv ++ [b]) := by
  refine ⟨by simp [x.1], fun i k' e => ?_⟩
  rcases Nat.lt_or_ge i lv.length with z | z
  · rw [List.getElem?_append_left z] at e
    obtain ⟨v', e1, e2⟩ := x.2 i k' e
    exact ⟨v', by rw [List.getElem?_append_left (x.1.symm ▸ z)]; exact e1, e2⟩
  · rw [List.getElem?_append_right z] at e
    have hi : i = lv.length := by
      have := (List.getElem?_eq_some_iff.mp e).1
      simp at this; omega
    subst hi
    simp at e
    subst e
    exact ⟨v, by rw [← x.1]; simp, h⟩
theorem big {n : Nat} (h : n ≤ 1000) : ((n : Nat) : Int) < 2 ^ 63 := by
  have e : (2 : Int) ^ 63 = 9223372036854775808 := rfl
  rw [e]; omega
theorem lenSz {l : List Value} (h : l.length ≤ 1000) : l.length ≤ sizeLine := by rw [sizeLine_eq]; omega
section
variable {c : Cx} {A : Around} {u : PM} {a dx l : Addr} {F F' : AF} {ks vs hs' ns xs : List Value} {Q : Value → PM → Prop} {v kv : Value} {t : Tok}
theorem aGet {name : Str} {i : Nat} {ex : Bool} (S : ArrS c u a dx F ks vs hs' ns) (hi : idx nArr name = some i) (hv : nth F.fs i = some v) (hh : handedIn v = true) (q : Q v u) : RU c A (getAttr (.ref a) name ex) u Q := getA kArr S.ins hi hv hh q
/-- is_living(arr, place) -/
theorem c_isl {p : Int} {b : Bool} (R : Room A 1) (S : ArrS c u a dx F ks vs hs' ns) (hz : vs.length ≤ 1000) (h : (0 ≤ p ∧ p < vs.length ∧ ∃ v, vs[p.toNat]? = some v ∧ Lv c u v b) ∨ ((p < 0 ∨ vs.length ≤ p) ∧ b = false)) (q : Q (.bool b) u) : RUc c A (.ref 264) [.ref a, .int p t] u Q := F_is_living R.lt fun A' D => by
  intro t0
  by_cases h0 : 0 ≤ p
  · refine leI' (r := true) (decide_eq_true h0) (trB ⟨kprB, aGet S (i := 2) (by kernel_rfl) rfl rfl (lenL S.V.lst (big hz) fun t1 => ?_)⟩)
    by_cases h1 : p < vs.length
    · rcases h with ⟨-, -, v, hv, k, hk, hb⟩ | ⟨h, -⟩
      · refine ltI' (r := true) (decide_eq_true h1) (trB ⟨kprB, aGet S (i := 2) (by kernel_rfl) rfl rfl (inPyL S.V.lst ⟨rfl, getL S.V.lst h0 (by have := big hz; omega) hv (isiK hk (by decide) rfl (notB ?_))⟩)⟩)
        rw [hb]; exact q
      · omega
    · rcases h with h | ⟨-, rfl⟩
      · exact absurd h.2.1 h1
      · exact ltI' (r := false) (decide_eq_false h1) (trB q)
  · rcases h with h | ⟨-, rfl⟩
    · exact absurd h.1 h0
    · exact leI' (r := false) (decide_eq_false h0) (trB (trB q))
/-- link(arr, place) -/
theorem c_link {p sz m : Nat} {k : Key} {f g : Nat → Int} (R : Room A 2) (S : ArrS c u a dx F ks vs hs' ns) (hp : ks[p]? = some kv) (hk : KeyV k kv) (hsz : F.size = sz) (h0 : 0 < sz) (hb : sz ≤ 1000) (hm : m ≤ 1000) (hH : IntFn hs' sz f) (hN : IntFn ns m g) (hpm : p < m)
    (q : ∀ u' hs2 ns2, ArrS c u' a dx F ks vs hs2 ns2 → Own dx F u u' F → IntFn hs2 sz (fun i => if i = chn k sz then (p : Int) else f i) → IntFn ns2 m (fun i => if i = p then f (chn k sz) else g i) → Q .none u') : RUc c A (.ref 278) [.ref a, .int p t] u Q := F_link R.lt fun A' D => by
  have hpl : p < ks.length := (List.getElem?_eq_some_iff.mp hp).1
  have hp3 : (p : Int) < 2 ^ 63 := big (by omega)
  obtain ⟨hc1, hc2⟩ := chn_is (k := k) h0
  have hc3 : (chn k sz : Int) < 2 ^ 63 := big (by omega)
  obtain ⟨tf, hf⟩ := hH.2 _ hc2
  refine ⟨kp (by decide), aGet S (i := 1) (by kernel_rfl) rfl rfl (inPyL S.K.lst ⟨rfl, getL S.K.lst (by omega) hp3 (by simpa using hp) ((c_hash (R.step D) hk fun t1 u1 l1 => aGet (S.grow l1) (i := 5) (by kernel_rfl) rfl rfl (modI (by rw [hsz]; omega) fun t2 => ?_)).ru)⟩)⟩
  rw [hsz, hc1]
  have S1 := S.grow l1
  refine aGet S1 (i := 3) (by kernel_rfl) rfl rfl (inPyL S1.H.lst ⟨rfl, getL S1.H.lst (by omega) hc3 (by simpa using hf) (aGet S1 (i := 4) (by kernel_rfl) rfl rfl (storeN S1 (by omega) hp3 (by rw [hN.1]; omega) fun u2 S2 O2 => ?_))⟩)
  refine aGet S2 (i := 3) (by kernel_rfl) rfl rfl (storeH S2 (by omega) hc3 (by rw [hH.1]; omega) fun u3 S3 O3 => ?_)
  exact q u3 _ _ S3 (((Own.grow S l1).trans O2).trans O3) (by simpa using hH.set (chn k sz) p t) (by simpa using hN.set p (f (chn k sz)) tf)
end
end Mine
end
section
open PySem PySem.W PySem.Calls PyProof.Rows Builtin Builtin.ObjectAttr PySem.SeqAt
set_option Elab.async false
set_option maxRecDepth 100000
set_option linter.unusedVariables false
namespace Mine
noncomputable def hof (kk : List Key) (sz p : Nat) : Nat := chn (kk.getD p (.i 0)) sz
section
variable {c : Cx} {A : Around} {u : PM} {a dx l : Addr} {F F' : AF} {ks vs hs' ns xs : List Value} {Q : Value → PM → Prop} {v kv : Value} {t : Tok} {kk : List Key} {sz : Nat}
theorem allLv {u1 : PM} {n i : Nat} (x : LvL c u1 vs (List.replicate n true)) (h : i < n) : ∃ v, vs[i]? = some v ∧ Lv c u1 v true := x.2 i true (by simp [h])
/-- chains(arr), where all is living -/
theorem c_chains (R : Room A 3) (S : ArrS c u a dx F ks vs hs' ns) (hk : KeysV ks kk) (hv : LvL c (rst u (F.own dx)) vs (List.replicate kk.length true)) (hsz : F.size = sz) (h0 : 0 < sz) (hb : sz ≤ 1000) (hn : kk.length ≤ 1000)
    (q : ∀ u' hd nx hs2 ns2, ArrS c u' a dx { F with hd := hd, nx := nx } ks vs hs2 ns2 → Own dx F u u' { F with hd := hd, nx := nx } → IntFn hs2 sz (lb (hof kk sz) kk.length) → IntFn ns2 kk.length (fun p => lb (hof kk sz) p (hof kk sz p)) → Q .none u') : RUc c A (.ref 285) [.ref a] u Q := F_chains R.lt fun A' D => by
  have R' := R.step D
  have hvl : vs.length = kk.length := by rw [hv.1]; simp
  intro t0
  refine negI fun t1 => lstN sz0 fun l1 o1 hl1 h0l1 ⟨n1, e1⟩ => ?_
  subst e1
  have Sa := S.grow (upd_le hl1 (o := lstOf [.int (-1) t1] n1))
  refine aGet Sa (i := 5) (by kernel_rfl) rfl rfl (mulL upd_self (by rw [hsz]; omega) (by rw [hsz]; omega) fun l2 o2 hl2 h0l2 L2 => ?_)
  have l2u : Le u (upd (upd u l1 (lstOf [.int (-1) t1] n1)) l2 o2) := (upd_le hl1).trans (upd_le hl2)
  have hl2' : u l2 = none := (upd_le hl1).none hl2
  refine aH (S.grow l2u) l2u (ML.new h0l2 L2) hl2' S fun u3 S3 O3 => ?_
  have hH : IntFn (List.replicate F.size.toNat (.int (-1) t1)) sz (fun _ => -1) := by rw [hsz]; exact IntFn.rep _ _ _
  intro t2
  refine negI fun t3 => lstN sz0 fun l4 o4 hl4 h0l4 ⟨n4, e4⟩ => ?_
  subst e4
  have Sb := S3.grow (upd_le hl4 (o := lstOf [.int (-1) t3] n4))
  refine ⟨kprB, aGet Sb (i := 2) (by kernel_rfl) rfl rfl (lenL Sb.V.lst (big (by omega)) fun t4 => mulL upd_self (by omega) (by omega) fun l5 o5 hl5 h0l5 L5 => ?_)⟩
  have l5u : Le u3 (upd (upd u3 l4 (lstOf [.int (-1) t3] n4)) l5 o5) := (upd_le hl4).trans (upd_le hl5)
  refine aN (S3.grow l5u) l5u (ML.new h0l5 L5) ((upd_le hl4).none hl5) S3 fun u6 S6 O6 => ?_
  have hN : IntFn (List.replicate (vs.length : Int).toNat (.int (-1) t3)) kk.length (fun _ => -1) := by rw [Int.toNat_natCast, hvl]; exact IntFn.rep _ _ _
  have O36 : Own dx F u u6 { F with hd := l2, nx := l5 } := O3.trans O6
  generalize List.replicate F.size.toNat (Value.int (-1) t1) = hs6 at S3 S6 hH
  generalize List.replicate (vs.length : Int).toNat (Value.int (-1) t3) = ns6 at S6 hN
  refine ⟨kprT, kprB, aGet S6 (i := 2) (by kernel_rfl) rfl rfl (lenL S6.V.lst (big (by omega)) fun t7 => rng1 fun r o7 hr Lr => ?_)⟩
  refine ⟨_, _, _, _, fun tgt _ => iterRange R'.h upd_self Lr (by omega), fun i vs1 u1 => ∃ pl hs2 ns2, vs1 = [some (.ref a), pl] ∧ ArrS c u1 a dx { F with hd := l2, nx := l5 } ks vs hs2 ns2 ∧ Own dx F u u1 { F with hd := l2, nx := l5 } ∧ IntFn hs2 sz (lb (hof kk sz) i) ∧ IntFn ns2 kk.length (fun p => if p < i then lb (hof kk sz) p (hof kk sz p) else -1),
    ⟨none, hs6, ns6, rfl, S6.grow (upd_le hr), O36.trans (Own.grow S6 (upd_le hr)), hH.congr fun i _ => rfl, hN.congr fun i _ => rfl⟩, ?_, ?_⟩
  · rintro i v vs1 u2 u3 hi ⟨pl, hs2, ns2, rfl, S2, O2, H2, N2⟩ - l23 ⟨t8, rfl⟩
    rw [hvl] at hi
    have S3 := S2.grow l23
    have O3 := O2.trans (Own.grow S2 l23)
    obtain ⟨v, hv1, hv2⟩ := allLv hv hi
    refine ⟨kp (by decide), (c_isl (R'.le (by omega)) S3 (by omega) (.inl ⟨by omega, by omega, v, by simpa using hv1, (hv2.le O3).le rst_le⟩) (trB ⟨kp (by decide), ?_⟩)).ru⟩
    obtain ⟨kv, hk1, hk2⟩ := hk.2 i kk[i] (by simp [hi])
    refine (c_link (R'.le (by omega)) S3 hk1 hk2 (by exact hsz) h0 hb hn H2 N2 hi fun u4 hs4 ns4 S4 O4 H4 N4 => ⟨trivial, _, hs4, ns4, rfl, S4, O3.trans O4, H4.congr fun b hb' => ?_, N4.congr fun p hp => ?_⟩).ru
    · show (if b = chn kk[i] sz then (i : Int) else lb (hof kk sz) i b) = if hof kk sz i = b then (i : Int) else lb (hof kk sz) i b
      have : hof kk sz i = chn kk[i] sz := by unfold hof; simp [hi]
      rw [this]
      by_cases e : b = chn kk[i] sz
      · rw [if_pos e, if_pos e.symm]
      · rw [if_neg e, if_neg (Ne.symm e)]
    · have : hof kk sz i = chn kk[i] sz := by unfold hof; simp [hi]
      by_cases e : p = i
      · subst e
        rw [if_pos rfl, if_pos (Nat.lt_succ_self _), this]
      · rw [if_neg e]
        by_cases e2 : p < i
        · rw [if_pos e2, if_pos (by omega)]
        · rw [if_neg e2, if_neg (by omega)]
  · rintro vs1 u2 ⟨pl, hs2, ns2, rfl, S2, O2, H2, N2⟩ -
    rw [hvl] at H2 N2
    exact q u2 l2 l5 hs2 ns2 S2 O2 H2 (N2.congr fun p hp => if_pos hp)
end
end Mine
end
section
open PySem PySem.W PySem.Calls PyProof.Rows Builtin Builtin.ObjectAttr PySem.SeqAt
set_option Elab.async false
set_option maxRecDepth 100000
set_option linter.unusedVariables false
namespace Mine
/-- the places that are living -/
noncomputable def idxs : List Bool → Nat → List Nat
  | [], _ => []
  | true :: r, n => n :: idxs r (n + 1)
  | false :: r, n => idxs r (n + 1)
theorem idxs_app : ∀ (l : List Bool) (b : Bool) (n : Nat), idxs (l ++ [b]) n = idxs l n ++ (if b = true then [n + l.length] else [])
  | [], b, n => by cases b <;> simp [idxs]
  | true :: r, b, n => by
    show n :: idxs (r ++ [b]) (n + 1) = n :: idxs r (n + 1) ++ _
    rw [idxs_app r b (n + 1), List.length_cons, show n + 1 + r.length = n + (r.length + 1) by omega]; rfl
  | false :: r, b, n => by
    show idxs (r ++ [b]) (n + 1) = idxs r (n + 1) ++ _
    rw [idxs_app r b (n + 1), List.length_cons, show n + 1 + r.length = n + (r.length + 1) by omega]
theorem idxs_take (l : List Bool) (i : Nat) (b : Bool) (h : l[i]? = some b) : idxs (l.take (i + 1)) 0 = idxs (l.take i) 0 ++ (if b = true then [i] else []) := by
  obtain ⟨hi, e⟩ := List.getElem?_eq_some_iff.mp h
  rw [List.take_add_one, h]
  show idxs (l.take i ++ [b]) 0 = _
  rw [idxs_app]
  simp [Nat.min_eq_left (Nat.le_of_lt hi)]
theorem idxs_len : ∀ (l : List Bool) (n : Nat), (idxs l n).length ≤ l.length
  | [], _ => Nat.le_refl _
  | true :: r, n => Nat.succ_le_succ (idxs_len r (n + 1))
  | false :: r, n => Nat.le_succ_of_le (idxs_len r (n + 1))
theorem idxs_mem : ∀ (l : List Bool) (n j : Nat), j ∈ idxs l n → n ≤ j ∧ l[j - n]? = some true
  | [], _, _, h => nomatch h
  | true :: r, n, j, h => by
    rcases List.mem_cons.mp h with e | e
    · subst e; simp
    · obtain ⟨h1, h2⟩ := idxs_mem r (n + 1) j e
      refine ⟨by omega, ?_⟩
      rw [show j - n = (j - (n + 1)) + 1 by omega]; exact h2
  | false :: r, n, j, h => by
    obtain ⟨h1, h2⟩ := idxs_mem r (n + 1) j h
    refine ⟨by omega, ?_⟩
    rw [show j - n = (j - (n + 1)) + 1 by omega]; exact h2
noncomputable def NatsV (xs : List Value) (L : List Nat) : Prop := xs.length = L.length ∧ ∀ (i n : Nat), L[i]? = some n → ∃ t, xs[i]? = some (Value.int n t)
theorem NatsV.app {xs : List Value} {L : List Nat} (x : NatsV xs L) (n : Nat) (t : Tok) : NatsV (xs ++ [.int n t]) (L ++ [n]) := by
  refine ⟨by simp [x.1], fun i m e => ?_⟩
  rcases Nat.lt_or_ge i L.length with z | z
  · rw [List.getElem?_append_left z] at e
    obtain ⟨t', e1⟩ := x.2 i m e
    exact ⟨t', by rw [List.getElem?_append_left (x.1.symm ▸ z)]; exact e1⟩
  · rw [List.getElem?_append_right z] at e
    have hi : i = L.length := by
      have := (List.getElem?_eq_some_iff.mp e).1
      simp at this; omega
    subst hi
    simp at e
    subst e
    exact ⟨t, by rw [← x.1]; simp⟩
noncomputable def pick (xs : List Value) (L : List Nat) : List Value := L.map fun i => xs.getD i .none
section
variable {c : Cx} {A : Around} {u : PM} {a dx l : Addr} {F F' : AF} {ks vs hs' ns xs : List Value} {Q : Value → PM → Prop} {v kv : Value} {t : Tok} {kk : List Key} {sz : Nat}
theorem ArrS.fresh (S : ArrS c u a dx F ks vs hs' ns) (h : u l = none) : l ∉ F.own dx := fun hm => by
  simp only [List.mem_cons, List.mem_nil_iff, or_false] at hm
  rcases hm with e | e | e | e | e
  · obtain ⟨o, e', _⟩ := S.ins.dct; rw [← e, h] at e'; cases e'
  · exact S.K.lt h e.symm
  · exact S.V.lt h e.symm
  · exact S.H.lt h e.symm
  · exact S.N.lt h e.symm
/-- many_ahead(living, place): some int -/
theorem c_many {p : Int} {L : List Nat} (R : Room A 1) (hl : Lst u l xs) (hx : NatsV xs L) (hz : L.length ≤ 1000) (q : ∀ n t u', Le u u' → Q (.int n t) u') : RUc c A (.ref 290) [.ref l, .int p t] u Q := F_many_ahead R.lt fun A' D => by
  obtain ⟨o, e, L0⟩ := hl
  have hxl := hx.1
  refine ⟨kprB, _, _, _, _, (fun tgt _ => iterList (R.step D).h e L0), lenSz (by omega), fun i acc vs1 u1 => Le u u1 ∧ acc.length ≤ i ∧ ∃ pl, vs1 = [pl, some (.int p t)], ⟨Le.refl u, Nat.le_refl _, none, rfl⟩, ?_, ?_⟩
  · rintro i acc v vs1 u2 u3 hi ⟨l2, hacc, pl, rfl⟩ hH l23 hP
    obtain ⟨n, hn⟩ : ∃ n, L[i]? = some n := ⟨L[i]'(by omega), by simp⟩
    obtain ⟨t2, ht⟩ := hx.2 i n hn
    rw [ht] at hP
    cases hP
    refine ltI' rfl (trB ?_)
    cases decide ((n : Int) < p) with
    | true => exact ⟨by intro p hp; exact l23 _ _ (hH p hp), l2.trans l23, by simp; omega, _, rfl⟩
    | false => exact ⟨by intro p hp; exact l23 _ _ (hH p hp), l2.trans l23, by omega, _, rfl⟩
  · rintro acc vs1 u2 D o ⟨l2, hacc, -⟩ hH hD h0 hL
    exact lenL (xs := acc) ⟨_, upd_self, hL⟩ (big (by omega)) fun t => q _ _ _ (l2.trans (upd_le hD))
theorem pick_app (xs : List Value) (L : List Nat) (n : Nat) (v : Value) (h : xs[n]? = some v) : pick xs (L ++ [n]) = pick xs L ++ [v] := by
  unfold pick
  rw [List.map_append]
  simp [List.getD_eq_getElem?_getD, h]
/-- rehash(arr): what is living moves together -/
theorem c_rehash {lv : List Bool} (R : Room A 4) (S : ArrS c u a dx F ks vs hs' ns) (hks : ks.length = vs.length) (hk : KeysV (pick ks (idxs lv 0)) kk) (hv : LvL c (rst u (F.own dx)) vs lv) (hsz : F.size = sz) (h0 : 0 < sz) (hb : sz ≤ 1000) (hn : lv.length ≤ 1000)
    (q : ∀ u' k v hd nx at_ ta hs2 ns2, let F' := { F with k := k, v := v, hd := hd, nx := nx, at_ := at_, ta := ta }; ArrS c u' a dx F' (pick ks (idxs lv 0)) (pick vs (idxs lv 0)) hs2 ns2 → Own dx F u u' F' → LvL c (rst u' (F'.own dx)) (pick vs (idxs lv 0)) (List.replicate kk.length true) →
      IntFn hs2 sz (lb (hof kk sz) kk.length) → IntFn ns2 kk.length (fun p => lb (hof kk sz) p (hof kk sz p)) → Q .none u') : RUc c A (.ref 295) [.ref a] u Q := F_rehash R.lt fun A' D => by
  have R' := R.step D
  have hvl : vs.length = lv.length := hv.1
  have hL : (idxs lv 0).length ≤ lv.length := idxs_len lv 0
  have hkl : (idxs lv 0).length = kk.length := by rw [← hk.1]; simp [pick]
  refine ⟨kprT, kprB, aGet S (i := 2) (by kernel_rfl) rfl rfl (lenL S.V.lst (big (by omega)) fun t1 => rng1 fun r o1 hr Lr => ?_)⟩
  refine ⟨_, _, _, _, (fun tgt _ => iterRange R'.h upd_self Lr (by omega)), lenSz (by omega), fun i acc vs1 u1 => ∃ pl, vs1 = [pl, some (.ref a)] ∧ Le u u1 ∧ NatsV acc (idxs (lv.take i) 0), ⟨none, rfl, upd_le hr, rfl, fun i n e => by cases e⟩, ?_, ?_⟩
  · rintro i acc v vs1 u2 u3 hi ⟨pl, rfl, l2, hA⟩ - l23 ⟨t2, rfl⟩
    rw [hvl] at hi
    have l3 := l2.trans l23
    have hlv : lv[i]? = some lv[i] := by simp [hi]
    obtain ⟨v, hv1, hv2⟩ := hv.2 i _ hlv
    refine ⟨kp (by decide), (c_isl (R'.le (by omega)) (S.grow l3) (by omega) (.inl ⟨by omega, by omega, v, by simpa using hv1, (hv2.le rst_le).le l3⟩) (trB ?_)).ru⟩
    have hT := idxs_take lv i _ hlv
    cases hb2 : lv[i] with
    | true =>
      rw [hb2, if_pos rfl] at hT
      exact ⟨trivial, _, rfl, l3, hT ▸ hA.app i t2⟩
    | false =>
      rw [hb2, if_neg (by decide), List.append_nil] at hT
      exact ⟨trivial, _, rfl, l3, hT ▸ hA⟩
  · rintro acc vs1 u2 Dl o2 ⟨pl, rfl, l2, hA⟩ - hD hD0 hDo
    rw [hvl, List.take_of_length_le (Nat.le_refl _)] at hA
    have l3 : Le u (upd u2 Dl o2) := l2.trans (upd_le hD)
    have hDu : u Dl = none := l2.none hD
    have LD : Lst (rst (upd u2 Dl o2) (F.own dx)) Dl acc := ⟨_, rst_some (S.fresh hDu) upd_self, hDo⟩
    generalize upd u2 Dl o2 = u3 at l3 LD
    have S3 := S.grow l3
    have O3 := Own.grow S l3
    refine ⟨kp (by decide), aGet S3 (i := 8) (by kernel_rfl) rfl rfl ((c_many (R'.le (by omega)) (LD.le rst_le) hA (by omega) fun n t u4 l4 => ?_).ru)⟩
    have S4 := S3.grow l4
    refine aSet S4 (i := 8) (F' := { F with at_ := n, ta := t }) (by kernel_rfl) rfl ⟨rfl, rfl, rfl, rfl, rfl⟩ fun u5 S5 O5 => ?_
    have O45 : Own dx F u3 u5 { F with at_ := n, ta := t } := (Own.grow S3 l4).trans O5
    have LD5 := LD.le O45
    have O5' := O3.trans O45
    refine ⟨kprT, aGet S5 (i := 10) (by kernel_rfl) rfl rfl (lstD R'.h S5.wd S5.ws fun e o6 he he0 Le0 => ?_)⟩
    have S6 := S5.grow (upd_le he (o := o6))
    have O6 := Own.grow S5 (upd_le he (o := o6))
    refine ⟨_, _, _, _, (fun tgt _ => iterList R'.h upd_self Le0), fun i vs1 u1 => i = 0 ∧ ∃ pl, vs1 = [some (.ref a), some (.ref Dl), pl] ∧ u1 = upd u5 e o6, ⟨rfl, none, rfl, rfl⟩, fun i v vs1 u2 u3 hi => absurd hi (Nat.not_lt_zero _), ?_⟩
    rintro vs1 _ ⟨-, pl, rfl, rfl⟩ -
    have O6' := O5'.trans O6
    have LD6 := LD5.le O6
    generalize upd u5 e o6 = u6 at S6 O6' LD6
    obtain ⟨oD, eD, LoD⟩ := LD6.le rst_le
    -- keys
    refine ⟨_, _, _, _, (fun tgt _ => iterList R'.h eD LoD), lenSz (by have := hA.1; omega), fun i acc2 vs2 u1 => ∃ pl, vs2 = [pl, some (.ref a)] ∧ Le u6 u1 ∧ acc2 = pick ks ((idxs lv 0).take i), ⟨none, rfl, Le.refl u6, rfl⟩, ?_, ?_⟩
    · rintro i acc2 v vs2 u7 u8 hi ⟨pl, rfl, l7, rfl⟩ hH l78 hP
      rw [hA.1] at hi
      obtain ⟨n2, hn2⟩ : ∃ n2, (idxs lv 0)[i]? = some n2 := ⟨(idxs lv 0)[i], by simp [hi]⟩
      obtain ⟨t2, ht⟩ := hA.2 i n2 hn2
      rw [ht] at hP
      cases hP
      have hm := (idxs_mem lv 0 n2 (List.mem_of_getElem? hn2)).2
      have hlt : n2 < lv.length := (List.getElem?_eq_some_iff.mp hm).1
      have S8 := S6.grow (l7.trans l78)
      obtain ⟨kv, hkv⟩ : ∃ kv, ks[n2]? = some kv := ⟨ks[n2]'(by omega), by simp⟩
      refine aGet S8 (i := 1) (by kernel_rfl) rfl rfl (inPyL S8.K.lst ⟨rfl, getL S8.K.lst (by omega) (big (by omega)) (by simpa using hkv) ⟨fun p hp => l78 _ _ (hH p hp), _, rfl, l7.trans l78, ?_⟩⟩)
      rw [List.take_add_one, hn2]
      exact (pick_app _ _ _ _ hkv).symm
    · rintro acc2 vs2 u7 Dk o7 ⟨pl, rfl, l7, rfl⟩ hH hDk hDk0 hDko
      rw [List.take_of_length_le (by rw [hA.1]; exact Nat.le_refl _)] at hDko
      have l7' : Le u6 (upd u7 Dk o7) := l7.trans (upd_le hDk)
      refine aK (S6.grow l7') l7' (ML.new hDk0 hDko) (l7.none hDk) S6 fun u9 S9 O9 => ?_
      have LD9 := LD6.le O9
      have O9' := O6'.trans O9
      obtain ⟨oD9, eD9, LoD9⟩ := LD9.le rst_le
      -- vals
      refine ⟨_, _, _, _, (fun tgt _ => iterList R'.h eD9 LoD9), lenSz (by have := hA.1; omega), fun i acc2 vs2 u1 => ∃ pl, vs2 = [pl, some (.ref a)] ∧ Le u9 u1 ∧ acc2 = pick vs ((idxs lv 0).take i), ⟨none, rfl, Le.refl u9, rfl⟩, ?_, ?_⟩
      · rintro i acc2 v vs2 u7 u8 hi ⟨pl, rfl, l7, rfl⟩ hH l78 hP
        rw [hA.1] at hi
        obtain ⟨n2, hn2⟩ : ∃ n2, (idxs lv 0)[i]? = some n2 := ⟨(idxs lv 0)[i], by simp [hi]⟩
        obtain ⟨t2, ht⟩ := hA.2 i n2 hn2
        rw [ht] at hP
        cases hP
        have hm := (idxs_mem lv 0 n2 (List.mem_of_getElem? hn2)).2
        have hlt : n2 < lv.length := (List.getElem?_eq_some_iff.mp hm).1
        have S8 := S9.grow (l7.trans l78)
        obtain ⟨kv, hkv⟩ : ∃ kv, vs[n2]? = some kv := ⟨vs[n2]'(by omega), by simp⟩
        refine aGet S8 (i := 2) (by kernel_rfl) rfl rfl (inPyL S8.V.lst ⟨rfl, getL S8.V.lst (by omega) (big (by omega)) (by simpa using hkv) ⟨fun p hp => l78 _ _ (hH p hp), _, rfl, l7.trans l78, ?_⟩⟩)
        rw [List.take_add_one, hn2]
        exact (pick_app _ _ _ _ hkv).symm
      · rintro acc2 vs2 u7 Dv o7 ⟨pl, rfl, l7, rfl⟩ hH hDv hDv0 hDvo
        rw [List.take_of_length_le (by rw [hA.1]; exact Nat.le_refl _)] at hDvo
        have l7' : Le u9 (upd u7 Dv o7) := l7.trans (upd_le hDv)
        refine aV (S9.grow l7') l7' (ML.new hDv0 hDvo) (l7.none hDv) S9 fun u10 S10 O10 => ?_
        have O10' := O9'.trans O10
        have hvp : LvL c (rst u10 (AF.own { F with at_ := n, ta := t, k := Dk, v := Dv } dx)) (pick vs (idxs lv 0)) (List.replicate kk.length true) := by
          refine ⟨by simp [pick, hkl], fun i b e => ?_⟩
          obtain ⟨hi, e⟩ := List.getElem?_eq_some_iff.mp e
          simp at hi e
          subst e
          have hi' : i < (idxs lv 0).length := by omega
          have hm := (idxs_mem lv 0 (idxs lv 0)[i] (List.getElem_mem hi')).2
          obtain ⟨v, hv1, hv2⟩ := hv.2 _ _ hm
          refine ⟨v, ?_, hv2.le O10'⟩
          unfold pick
          rw [List.getElem?_map, List.getElem?_eq_getElem hi']
          simp at hv1
          simp [List.getD_eq_getElem?_getD, hv1]
        refine ⟨kp (by decide), (c_chains (R'.le (by omega)) S10 hk hvp hsz h0 hb (by omega) fun u11 hd nx hs2 ns2 S11 O11 H11 N11 => ?_).ru⟩
        exact q u11 Dk Dv hd nx n t hs2 ns2 S11 (O10'.trans O11) (hvp.le O11) H11 N11
end
end Mine
end
section
open PySem PySem.W PySem.Calls PyProof.Rows Builtin Builtin.ObjectAttr PySem.SeqAt
set_option Elab.async false
set_option maxRecDepth 100000
set_option linter.unusedVariables false
namespace Mine
noncomputable abbrev Row := Key × Value
noncomputable def mapRows (kf : Nat → Key) (vs : List Value) (lv : List Bool) : List Row := (idxs lv 0).map fun i => (kf i, vs.getD i .none)
noncomputable def kfI : Nat → Key := fun i => .i (i : Int)
noncomputable def kfK (kk : List Key) : Nat → Key := fun i => kk.getD i (.i 0)
/-- an array's content by its fields -/
inductive Shp (c : Cx) (u : PM) (F : AF) (ks vs hs' ns : List Value) (rows : List Row) : Prop
  | pk (lv : List Bool) (h1 : F.pk = true) (h2 : F.size = 8) (h3 : vs.length ≤ 8) (h4 : LvL c u vs lv) (h5 : rows = mapRows kfI vs lv) : Shp c u F ks vs hs' ns rows
  | hs (kk : List Key) (sz : Nat) (h1 : F.pk = false) (h2 : F.size = sz) (h3 : 8 ≤ sz ∧ sz ≤ 16) (h4 : LvL c u vs (List.replicate kk.length true)) (h5 : rows = mapRows (kfK kk) vs (List.replicate kk.length true))
      (h7 : KeysV ks kk) (h8 : kk.length ≤ 8) (h9 : IntFn hs' sz (lb (hof kk sz) kk.length)) (h10 : IntFn ns kk.length (fun p => lb (hof kk sz) p (hof kk sz p))) : Shp c u F ks vs hs' ns rows
theorem Shp.le {c : Cx} {u u' : PM} {F : AF} {ks vs hs' ns : List Value} {rows : List Row} (P : Shp c u F ks vs hs' ns rows) (l : Le u u') : Shp c u' F ks vs hs' ns rows := by
  cases P with
  | pk lv h1 h2 h3 h4 h5 => exact .pk lv h1 h2 h3 (h4.le l) h5
  | hs kk sz h1 h2 h3 h4 h5 h7 h8 h9 h10 => exact .hs kk sz h1 h2 h3 (h4.le l) h5 h7 h8 h9 h10
/-- an array on the heap holds rows -/
noncomputable def ArrM (c : Cx) (u : PM) (a dx : Addr) (F : AF) (rows : List Row) : Prop := F.count = rows.length ∧ ∃ ks vs hs' ns, ArrS c u a dx F ks vs hs' ns ∧ Shp c (rst u (F.own dx)) F ks vs hs' ns rows
theorem idxs_rep : ∀ n m, idxs (List.replicate n true) m = (List.range n).map (· + m)
  | 0, m => rfl
  | n + 1, m => by
    rw [List.replicate_succ, List.range_succ_eq_map]
    show m :: idxs (List.replicate n true) (m + 1) = _
    rw [idxs_rep n (m + 1), List.map_cons, List.map_map]
    congr 1
    · omega
    · exact List.map_congr_left fun i _ => by simp; omega
theorem rows_app {kf kf' : Nat → Key} {vs : List Value} {lv : List Bool} (hl : vs.length = lv.length) (v : Value) (b : Bool) (hk : ∀ i, i < lv.length → kf' i = kf i) : mapRows kf' (vs ++ [v]) (lv ++ [b]) = mapRows kf vs lv ++ (if b = true then [(kf' lv.length, v)] else []) := by
  unfold mapRows
  rw [idxs_app, List.map_append]
  congr 1
  · refine List.map_congr_left fun i hi => ?_
    have hm := (idxs_mem lv 0 i hi).2
    have hlt : i < lv.length := by simpa using (List.getElem?_eq_some_iff.mp hm).1
    rw [hk i hlt]
    congr 1
    simp only [List.getD_eq_getElem?_getD]
    rw [List.getElem?_append_left (by omega)]
  · cases b with
    | false => rfl
    | true =>
      rw [if_pos rfl, if_pos rfl, Nat.zero_add]
      simp [List.getD_eq_getElem?_getD, ← hl]
theorem rows_len (kf : Nat → Key) (vs : List Value) (lv : List Bool) : (mapRows kf vs lv).length = (idxs lv 0).length := by simp [mapRows]
theorem mem_rows {kf : Nat → Key} {vs : List Value} {lv : List Bool} {r : Row} : r ∈ mapRows kf vs lv ↔ ∃ i, lv[i]? = some true ∧ r = (kf i, vs.getD i .none) := by
  unfold mapRows
  constructor
  · intro h
    obtain ⟨i, hi, rfl⟩ := List.mem_map.mp h
    exact ⟨i, by simpa using (idxs_mem lv 0 i hi).2, rfl⟩
  · rintro ⟨i, hi, rfl⟩
    refine List.mem_map.mpr ⟨i, ?_, rfl⟩
    have go : ∀ (l : List Bool) (n i : Nat), l[i]? = some true → n + i ∈ idxs l n := by
      intro l
      induction l with
      | nil => intro n i h; cases h
      | cons b r ih =>
        intro n i h
        cases i with
        | zero =>
          simp at h; subst h
          exact List.mem_cons_self ..
        | succ i =>
          have := ih (n + 1) i (by simpa using h)
          rw [show n + 1 + i = n + (i + 1) by omega] at this
          cases b with
          | true => exact List.mem_cons_of_mem _ this
          | false => exact this
    simpa using go lv 0 i hi
section
variable {c : Cx} {A : Around} {u : PM} {a dx l : Addr} {F F' : AF} {ks vs hs' ns xs : List Value} {Q : Value → PM → Prop} {v kv : Value} {t : Tok} {kk : List Key} {sz : Nat} {k : Key} {rows : List Row}
theorem Ins.rst {x dx' D : Addr} {o : List Addr} {nn : List Str} {vv : List (Option Value)} (I : Ins c u x dx' D nn vv) (h1 : x ∉ o) (h2 : dx' ∉ o) : Ins c (rst u o) x dx' D nn vv := ⟨rst_some h1 I.at_, let ⟨ob, e, d⟩ := I.dct; ⟨ob, rst_some h2 e, d⟩, I.len, I.h0⟩
/-- to_hash(arr) -/
theorem c_to_hash {lv : List Bool} (R : Room A 5) (S : ArrS c u a dx F ks vs hs' ns) (hv : LvL c (rst u (F.own dx)) vs lv) (hsz : F.size = sz) (h3 : 8 ≤ sz ∧ sz ≤ 16) (hn : lv.length ≤ 8)
    (q : ∀ u' F', (∃ ks' vs' hs2 ns2, ArrS c u' a dx F' ks' vs' hs2 ns2 ∧ Shp c (rst u' (F'.own dx)) F' ks' vs' hs2 ns2 (mapRows kfI vs lv)) → F'.pk = false ∧ F'.count = F.count → Own dx F u u' F' → Q .none u') : RUc c A (.ref 302) [.ref a] u Q := F_to_hash R.lt fun A' D => by
  have R' := R.step D
  have hvl : vs.length = lv.length := hv.1
  refine ⟨kprT, kprT, kprB, aGet S (i := 2) (by kernel_rfl) rfl rfl (lenL S.V.lst (big (by omega)) fun t1 => rng1 fun r o1 hr Lr => lstR R'.h upd_self Lr (by omega) fun b o2 xs hb hb0 Lb hxl hx => ?_)⟩
  have l2 : Le u (upd (upd u r o1) b o2) := (upd_le hr).trans (upd_le hb)
  refine aK (S.grow l2) l2 (ML.new hb0 Lb) ((upd_le hr).none hb) S fun u3 S3 O3 => ?_
  refine aSet S3 (i := 0) (F' := { F with k := b, pk := false }) (by kernel_rfl) rfl ⟨rfl, rfl, rfl, rfl, rfl⟩ fun u4 S4 O4 => ?_
  have O34 := O3.trans O4
  have hkv : KeysV (pick xs (idxs lv 0)) ((idxs lv 0).map kfI) := by
    refine ⟨by simp [pick], fun i k e => ?_⟩
    rw [List.getElem?_map] at e
    obtain ⟨j, hj, rfl⟩ := Option.map_eq_some_iff.mp e
    have hm := (idxs_mem lv 0 j (List.mem_of_getElem? hj)).2
    have hlt : j < lv.length := by simpa using (List.getElem?_eq_some_iff.mp hm).1
    obtain ⟨t, ht⟩ := hx j (xs[j]'(by omega)) (by simp)
    refine ⟨.int j t, ?_, t, rfl⟩
    unfold pick
    rw [List.getElem?_map, hj]
    simp [List.getD_eq_getElem?_getD, show j < xs.length by omega, ht]
  refine ⟨kp (by decide), (c_rehash (R'.le (by omega)) S4 (by omega) hkv (hv.le O34) hsz (by omega) (by omega) (by omega) fun u5 kA vA hd nx at_ ta hs2 ns2 S5 O5 V5 H5 N5 => ?_).ru⟩
  have hkl : ((idxs lv 0).map kfI).length ≤ 8 := by have := idxs_len lv 0; simp; omega
  have hrows : mapRows kfI vs lv = mapRows (kfK ((idxs lv 0).map kfI)) (pick vs (idxs lv 0)) (List.replicate ((idxs lv 0).map kfI).length true) := by
    unfold mapRows
    rw [idxs_rep]
    generalize idxs lv 0 = L
    refine List.ext_getElem (by simp) fun i h1 h2 => ?_
    simp at h1
    simp [kfI, kfK, pick, List.getD_eq_getElem?_getD, h1]
  exact q u5 _ ⟨_, _, hs2, ns2, S5, .hs _ sz rfl hsz h3 V5 hrows hkv hkl H5 N5⟩ ⟨rfl, rfl⟩ (O34.trans O5)
end
end Mine
end
section
open PySem PySem.W PySem.Calls PyProof.Rows Builtin Builtin.ObjectAttr PySem.SeqAt
set_option Elab.async false
set_option maxRecDepth 100000
set_option linter.unusedVariables false
namespace Mine
noncomputable def takes (n : Nat) : Key → Bool
  | .i m => decide ((n : Int) ≤ m ∧ m < 8)
  | .s _ => false
section
variable {c : Cx} {A : Around} {u : PM} {a dx l : Addr} {F F' : AF} {ks vs hs' ns xs : List Value} {Q : Value → PM → Prop} {v kv sv : Value} {t : Tok} {kk : List Key} {sz : Nat} {k : Key} {rows : List Row}
theorem isiKey {Q : Value → PM → Prop} {b : Bool} (hk : KeyV k kv) (hb : (match k with | .i _ => true | .s _ => false) = b) (q : Q (.bool b) u) : RU c A (call (.builtin "isinstance") [kv, .type "int"]) u Q := by
  cases k <;> obtain ⟨t, rfl⟩ := hk <;> subst hb
  · exact iiI q
  · exact isI q
/-- takes_packed(arr, key) where few are in it -/
theorem c_takes (R : Room A 1) (S : ArrS c u a dx F ks vs hs' ns) (hsz : F.size = 8) (hc : F.count ≤ 4) (hz : vs.length ≤ 8) (hk : KeyV k kv) (q : Q (.bool (takes vs.length k)) u) : RUc c A (.ref 309) [.ref a, kv] u Q := F_takes_packed R.lt fun A' D => by
  cases k with
  | s x => exact ⟨kprB, isiKey hk rfl (trB q)⟩
  | i n =>
    obtain ⟨t, rfl⟩ := hk
    refine ⟨kprB, iiI (trB ⟨kprB, aGet S (i := 2) (by kernel_rfl) rfl rfl (lenL S.V.lst (big (by omega)) fun t1 => ?_)⟩)⟩
    by_cases h1 : n < (vs.length : Int)
    · refine ltI' (r := true) (decide_eq_true h1) (trB ?_)
      have : takes vs.length (.i n) = false := decide_eq_false (by omega)
      rw [this] at q; exact q
    · refine ltI' (r := false) (decide_eq_false h1) (trB ?_)
      refine aGet S (i := 5) (by kernel_rfl) rfl rfl ?_
      by_cases h2 : (8 : Int) ≤ n
      · have hq : takes vs.length (.i n) = false := decide_eq_false (by omega)
        rw [hq] at q
        refine geI' (r := true) (decide_eq_true (by rw [hsz]; exact h2)) (trB fun t2 => shrI (by decide) fun t3 => aGet S (i := 5) (by kernel_rfl) rfl rfl ?_)
        have fin : RU c A' (compareOp .Lt (.int n t) (.int F.size F.ts)) u Q := ltI' (r := false) (decide_eq_false (by rw [hsz]; omega)) q
        refine ltI' rfl (trB ?_)
        cases decide (n.fdiv (2 ^ (1 : Int).toNat) < F.size) with
        | false => exact aGet S (i := 5) (by kernel_rfl) rfl rfl fin
        | true =>
          refine aGet S (i := 5) (by kernel_rfl) rfl rfl fun t4 => shrI (by decide) fun t5 => aGet S (i := 6) (by kernel_rfl) rfl rfl (ltI' (r := false) (decide_eq_false ?_) (trB (aGet S (i := 5) (by kernel_rfl) rfl rfl fin)))
          rw [hsz]
          have : (8 : Int).fdiv (2 ^ (1 : Int).toNat) = 4 := by decide
          omega
      · have hq : takes vs.length (.i n) = true := decide_eq_true (by omega)
        rw [hq] at q
        exact geI' (r := false) (decide_eq_false (by rw [hsz]; exact h2)) (trB (aGet S (i := 5) (by kernel_rfl) rfl rfl (ltI' (r := true) (decide_eq_true (by rw [hsz]; omega)) q)))
/-- add_packed(arr, key, slot) -/
theorem c_add_packed {n : Nat} {lv : List Bool} (R : Room A 3) (S : ArrS c u a dx F ks vs hs' ns) (hv : LvL c (rst u (F.own dx)) vs lv) (hn : vs.length ≤ n) (hn8 : n < 8) (hs : Lv c (rst u (F.own dx)) sv true)
    (q : ∀ u' vs' lv', ArrS c u' a dx F ks vs' hs' ns → LvL c (rst u' (F.own dx)) vs' lv' → vs'.length ≤ 8 → mapRows kfI vs' lv' = mapRows kfI vs lv ++ [(.i (n : Int), sv)] → Own dx F u u' F → Q .none u') : RUc c A (.ref 316) [.ref a, .int n t, sv] u Q := F_add_packed R.lt fun A' D => by
  have R' := R.step D
  refine ⟨fun m vs1 u1 => vs1 = [some (.ref a), some (.int n t), some sv] ∧ ∃ vs' lv', ArrS c u1 a dx F ks vs' hs' ns ∧ LvL c (rst u1 (F.own dx)) vs' lv' ∧ vs'.length ≤ n ∧ mapRows kfI vs' lv' = mapRows kfI vs lv ∧ Own dx F u u1 F ∧ m = n - vs'.length, n - vs.length, ⟨rfl, vs, lv, S, hv, hn, rfl, Le.refl _, rfl⟩, ?_⟩
  rintro m _ u1 ⟨rfl, vs1, lv1, S1, V1, n1, r1, O1, rfl⟩
  refine ⟨kprB, aGet S1 (i := 2) (by kernel_rfl) rfl rfl (lenL S1.V.lst (big (by omega)) fun t1 => ?_)⟩
  by_cases h : vs1.length < n
  · refine ltI' (r := true) (decide_eq_true (by omega)) (trB (aGet S1 (i := 2) (by kernel_rfl) rfl rfl fun pl => mApd S1.V.lst ⟨kprB, ⟨kp (by decide), c_Absent (R'.le (by omega)) fun x dx' u2 vv l2 hx hdx I => ?_⟩⟩))
    have S2 := S1.grow l2
    have O2 := Own.grow S1 l2
    have hab : Lv c (rst u2 (F.own dx)) (.ref x) false := ⟨.abs, ⟨x, dx', vv, rfl, I.rst (S1.fresh hx) (S1.fresh hdx)⟩, rfl⟩
    refine apdV S2 (lenSz (by omega)) fun u3 S3 O3 => ⟨n - (vs1 ++ [Value.ref x]).length, by simp; omega, rfl, _, _, S3, ((V1.le O2).app hab).le O3, by simp; omega, ?_, (O1.trans O2).trans O3, rfl⟩
    rw [rows_app V1.1 _ _ (fun i _ => rfl), if_neg (by decide), List.append_nil, r1]
  · refine ltI' (r := false) (decide_eq_false (by omega)) (trB (aGet S1 (i := 2) (by kernel_rfl) rfl rfl fun pl => mApd S1.V.lst ⟨kprB, apdV S1 (lenSz (by omega)) fun u3 S3 O3 => ?_⟩))
    refine q u3 _ _ S3 ((V1.app (hs.le O1)).le O3) (by simp; omega) ?_ (O1.trans O3)
    rw [rows_app V1.1 _ _ (fun i _ => rfl), if_pos rfl, r1]
    congr 2
    have : lv1.length = n := by rw [← V1.1]; omega
    simp [kfI, this]
theorem hof_app {p : Nat} (h : p < kk.length) : hof (kk ++ [k]) sz p = hof kk sz p := by
  unfold hof
  simp only [List.getD_eq_getElem?_getD]
  rw [List.getElem?_append_left h]
theorem lb_congr {h h' : Nat → Nat} {b : Nat} : ∀ {n : Nat}, (∀ p, p < n → h p = h' p) → lb h n b = lb h' n b
  | 0, _ => rfl
  | n + 1, e => by
    unfold lb
    rw [e n (Nat.lt_succ_self _), lb_congr fun p hp => e p (Nat.lt_succ_of_lt hp)]
/-- add_hashed(arr, key, slot) -/
theorem c_add_hashed (R : Room A 3) (S : ArrS c u a dx F ks vs hs' ns) (hk : KeyV k kv) (h2 : F.size = sz) (h3 : 8 ≤ sz ∧ sz ≤ 16) (h4 : LvL c (rst u (F.own dx)) vs (List.replicate kk.length true)) (h7 : KeysV ks kk) (h8 : kk.length < 8) (h9 : IntFn hs' sz (lb (hof kk sz) kk.length))
    (h10 : IntFn ns kk.length (fun p => lb (hof kk sz) p (hof kk sz p))) (hs : Lv c (rst u (F.own dx)) sv true)
    (q : ∀ u' ks' vs' hs2 ns2, ArrS c u' a dx F ks' vs' hs2 ns2 → LvL c (rst u' (F.own dx)) vs' (List.replicate (kk ++ [k]).length true) → KeysV ks' (kk ++ [k]) → IntFn hs2 sz (lb (hof (kk ++ [k]) sz) (kk ++ [k]).length) → IntFn ns2 (kk ++ [k]).length (fun p => lb (hof (kk ++ [k]) sz) p (hof (kk ++ [k]) sz p)) →
      mapRows (kfK (kk ++ [k])) vs' (List.replicate (kk ++ [k]).length true) = mapRows (kfK kk) vs (List.replicate kk.length true) ++ [(k, sv)] → Own dx F u u' F → Q .none u') : RUc c A (.ref 323) [.ref a, kv, sv] u Q := F_add_hashed R.lt fun A' D => by
  have R' := R.step D
  have hvl : vs.length = kk.length := by rw [h4.1]; simp
  have hrep : List.replicate (kk ++ [k]).length true = List.replicate kk.length true ++ [true] := by
    rw [List.length_append, List.length_singleton]; exact List.replicate_succ'
  refine ⟨kprB, aGet S (i := 2) (by kernel_rfl) rfl rfl (lenL S.V.lst (big (by omega)) fun t1 => aGet S (i := 5) (by kernel_rfl) rfl rfl (geI' (r := false) (decide_eq_false (by omega)) (trB ?_)))⟩
  refine aGet S (i := 1) (by kernel_rfl) rfl rfl fun pl => mApd S.K.lst ⟨kprB, apdK S (lenSz (by rw [h7.1]; omega)) fun u1 S1 O1 => ?_⟩
  refine aGet S1 (i := 2) (by kernel_rfl) rfl rfl fun pl => mApd S1.V.lst ⟨kprB, apdV S1 (lenSz (by omega)) fun u2 S2 O2 => ?_⟩
  refine aGet S2 (i := 4) (by kernel_rfl) rfl rfl fun pl => mApd S2.N.lst ⟨kprB, fun t2 => negI fun t3 => apdN S2 (lenSz (by rw [h10.1]; omega)) fun u3 S3 O3 => ?_⟩
  refine ⟨kp (by decide), kprB, aGet S3 (i := 2) (by kernel_rfl) rfl rfl (lenL S3.V.lst (big (by simp; omega)) fun t4 t5 => subI fun t6 => ?_)⟩
  have e1 : (((vs ++ [sv]).length : Nat) : Int) - 1 = (kk.length : Int) := by simp; omega
  rw [e1]
  have O123 := (O1.trans O2).trans O3
  refine (c_link (k := k) (kv := kv) (R'.le (by omega)) S3 (by rw [← h7.1]; simp) hk h2 (by omega) (by omega) (m := kk.length + 1) (by omega) h9 (h10.app (-1) t3) (by omega) fun u4 hs4 ns4 S4 O4 H4 N4 => ?_).ru
  have hh : hof (kk ++ [k]) sz kk.length = chn k sz := by unfold hof; simp
  refine q u4 _ _ hs4 ns4 S4 ?_ (h7.app hk) ?_ ?_ ?_ (O123.trans O4)
  · rw [hrep]; exact ((h4.le O123).app (hs.le O123)).le O4
  · rw [List.length_append, List.length_singleton]
    refine H4.congr fun b _ => ?_
    show (if b = chn k sz then (kk.length : Int) else lb (hof kk sz) kk.length b) = if hof (kk ++ [k]) sz kk.length = b then (kk.length : Int) else lb (hof (kk ++ [k]) sz) kk.length b
    rw [hh, lb_congr fun p hp => hof_app hp]
    by_cases e : b = chn k sz
    · rw [if_pos e, if_pos e.symm]
    · rw [if_neg e, if_neg (Ne.symm e)]
  · rw [List.length_append, List.length_singleton]
    refine N4.congr fun p hp => ?_
    by_cases e : p = kk.length
    · subst e
      rw [if_pos rfl, hh, lb_congr fun p hp => hof_app hp]
    · have hp' : p < kk.length := by omega
      rw [if_neg e, if_neg e, hof_app hp', lb_congr fun j hj => hof_app (by omega)]
  · rw [hrep, rows_app h4.1 _ _ (fun i hi => ?_), if_pos rfl]
    · congr 2
      simp [kfK]
    · simp at hi
      simp only [kfK, List.getD_eq_getElem?_getD]
      rw [List.getElem?_append_left hi]
end
end Mine
end
section
open PySem PySem.W PySem.Calls PyProof.Rows Builtin Builtin.ObjectAttr PySem.SeqAt
set_option Elab.async false
set_option maxRecDepth 100000
set_option linter.unusedVariables false
namespace Mine
noncomputable def T_add_tail : ST := (tSeq (tAugA .Add (tLoc 0) (so "count") (tInt 1)) (tSeq (tIf (bAnd (bVal (tCall (tVal (.builtin "isinstance")) (lCons (tLoc 1) (lCons (tVal (.type "int")) lNil)))) (bAnd (bCmp .GtE (tLoc 1) (tAtt (tLoc 0) (so "next"))) bTrue)) (tSeq (tAss (tCall (tVal (.builtin "min")) (lCons (tBin .Add (tLoc 1) (tInt 1)) (lCons (tCall (tVal (.ref 107)) lNil) lNil))) (gAtt (tLoc 0) (so "next"))) tNil) tNil) tNil))
noncomputable def FindR (rows : List Row) (vs : List Value) (k : Key) (p : Int) : Prop := (p = -1 ∧ ∀ r ∈ rows, r.1 ≠ k) ∨ ∃ i : Nat, p = i ∧ ∃ v, vs[i]? = some v ∧ (k, v) ∈ rows
section
variable {c : Cx} {A : Around} {u : PM} {a dx l : Addr} {F F' : AF} {ks vs hs' ns xs : List Value} {Q : Value → PM → Prop} {v kv sv : Value} {t : Tok} {kk : List Key} {sz : Nat} {k : Key} {rows rows' : List Row}
theorem Shp.with {F' : AF} (P : Shp c u F ks vs hs' ns rows) (h1 : F'.pk = F.pk) (h2 : F'.size = F.size) : Shp c u F' ks vs hs' ns rows := by
  cases P with
  | pk lv p1 p2 p3 p4 p5 => exact .pk lv (h1.trans p1) (h2.trans p2) p3 p4 p5
  | hs kk sz p1 p2 p3 p4 p5 p7 p8 p9 p10 => exact .hs kk sz (h1.trans p1) (h2.trans p2) p3 p4 p5 p7 p8 p9 p10
theorem add_tail (R : Room A 2) (S : ArrS c u a dx F ks vs hs' ns) (P : Shp c (rst u (F.own dx)) F ks vs hs' ns rows') (hc : F.count + 1 = rows'.length) (hk : KeyV k kv)
    (q : ∀ u' F', ArrM c u' a dx F' rows' → Own dx F u u' F' → Q .none u') : T_add_tail c A [some (.ref a), some kv, some sv] u (fun f _ u' => Q (retOf f) u') :=
  aGet S (i := 6) (by kernel_rfl) rfl rfl fun t1 => iaddI fun t2 => aSet S (i := 6) (F' := { F with count := F.count + 1, tc := t2 }) (by kernel_rfl) rfl ⟨rfl, rfl, rfl, rfl, rfl⟩ fun u1 S1 O1 => by
    have P1 : Shp c (rst u1 (F.own dx)) { F with count := F.count + 1, tc := t2 } ks vs hs' ns rows' := (P.le O1).with rfl rfl
    have fin : Q .none u1 := q u1 _ ⟨hc, _, _, _, _, S1, P1⟩ O1
    cases k with
    | s x => exact ⟨kprB, isiKey hk rfl (trB fin)⟩
    | i n =>
      obtain ⟨t, rfl⟩ := hk
      refine ⟨kprB, iiI (trB (aGet S1 (i := 7) (by kernel_rfl) rfl rfl (geI' rfl (trB ?_))))⟩
      cases decide (F.next ≤ n) with
      | false => exact fin
      | true =>
        refine ⟨kprB, fun t3 => addI fun t4 => ⟨kp (by decide), (c_greatest (R.le (by omega)) fun t5 => minI R.h fun t6 => ?_).ru⟩⟩
        exact aSet S1 (i := 7) (F' := { F with count := F.count + 1, tc := t2, next := _, tn := t6 }) (by kernel_rfl) rfl ⟨rfl, rfl, rfl, rfl, rfl⟩ fun u2 S2 O2 => q u2 _ ⟨hc, _, _, _, _, S2, (P1.le O2).with rfl rfl⟩ (O1.trans O2)
/-- add(arr, key, slot) where few are in it -/
theorem c_add (R : Room A 7) (M : ArrM c u a dx F rows) (hr : rows.length ≤ 3) (hk : KeyV k kv) (hs : Lv c (rst u (F.own dx)) sv true) (q : ∀ u' F', ArrM c u' a dx F' (rows ++ [(k, sv)]) → Own dx F u u' F' → Q .none u') : RUc c A (.ref 330) [.ref a, kv, sv] u Q := F_add R.lt fun A' D => by
  have R' := R.step D
  obtain ⟨hc, ks, vs, hs', ns, S, P⟩ := M
  have tail : ∀ u1 F1 ks1 vs1 hs1 ns1, ArrS c u1 a dx F1 ks1 vs1 hs1 ns1 → Shp c (rst u1 (F1.own dx)) F1 ks1 vs1 hs1 ns1 (rows ++ [(k, sv)]) → F1.count = F.count → Own dx F u u1 F1 → T_add_tail c A' [some (.ref a), some kv, some sv] u1 (fun f _ u' => Q (retOf f) u') := fun u1 F1 _ _ _ _ S1 P1 c1 O1 =>
    add_tail (R'.le (by omega)) S1 P1 (by rw [c1, hc]; simp) hk fun u2 F2 M2 O2 => q u2 F2 M2 (O1.trans O2)
  have hashed : ∀ u1 F1 ks1 vs1 hs1 ns1, ArrS c u1 a dx F1 ks1 vs1 hs1 ns1 → Shp c (rst u1 (F1.own dx)) F1 ks1 vs1 hs1 ns1 rows → F1.pk = false → F1.count = F.count → Own dx F u u1 F1 →
      RU c A' (call (.ref 323) [.ref a, kv, sv]) u1 (fun _ u2 => T_add_tail c A' [some (.ref a), some kv, some sv] u2 (fun f _ u' => Q (retOf f) u')) := fun u1 F1 ks1 vs1 hs1 ns1 S1 P1 p1 c1 O1 => by
    cases P1 with
    | pk lv h1 => rw [p1] at h1; cases h1
    | hs kk sz h1 h2 h3 h4 h5 h7 h8 h9 h10 =>
      have hkl : kk.length ≤ 3 := by
        have := congrArg List.length h5
        rw [rows_len, idxs_rep] at this
        simp at this; omega
      refine (c_add_hashed (R'.le (by omega)) S1 hk h2 h3 h4 h7 (by omega) h9 h10 (hs.le O1) fun u2 ks2 vs2 hs2 ns2 S2 V2 K2 H2 N2 r2 O2 => ?_).ru
      exact tail u2 F1 _ _ _ _ S2 (.hs _ sz h1 h2 h3 V2 (by rw [r2, h5]) K2 (by simp; omega) H2 N2) c1 (O1.trans O2)
  cases P with
  | hs kk sz h1 h2 h3 h4 h5 h7 h8 h9 h10 =>
    refine aGet S (i := 0) (v := .bool false) (by kernel_rfl) (by rw [← h1]; rfl) rfl (trB (aGet S (i := 0) (v := .bool false) (by kernel_rfl) (by rw [← h1]; rfl) rfl (trB ⟨kp (by decide), ?_⟩)))
    exact hashed u F ks vs hs' ns S (.hs kk sz h1 h2 h3 h4 h5 h7 h8 h9 h10) h1 rfl (Le.refl _)
  | pk lv h1 h2 h3 h4 h5 =>
    refine aGet S (i := 0) (v := .bool true) (by kernel_rfl) (by rw [← h1]; rfl) rfl (trB ⟨kp (by decide), (c_takes (R'.le (by omega)) S h2 (by omega) h3 hk (trB ?_)).ru⟩)
    cases ht : takes vs.length k with
    | true =>
      cases k with
      | s x => cases ht
      | i n =>
        obtain ⟨t, rfl⟩ := hk
        have hn := of_decide_eq_true ht
        obtain ⟨m, rfl⟩ : ∃ m : Nat, n = m := ⟨n.toNat, by omega⟩
        refine aGet S (i := 0) (v := .bool true) (by kernel_rfl) (by rw [← h1]; rfl) rfl (trB ⟨kp (by decide), (c_add_packed (R'.le (by omega)) S h4 (by omega) (by omega) hs fun u2 vs2 lv2 S2 V2 z2 r2 O2 => ?_).ru⟩)
        exact tail u2 F _ _ _ _ S2 (.pk lv2 h1 h2 z2 V2 (by rw [r2, h5])) rfl O2
    | false =>
      have hl : lv.length ≤ 8 := by rw [← h4.1]; exact h3
      have go : ∀ u1 (F1 : AF) (sz : Nat), ArrS c u1 a dx F1 ks vs hs' ns → Own dx F u u1 F1 → F1.size = sz → 8 ≤ sz ∧ sz ≤ 16 → F1.count = F.count →
          RU c A' (call (.ref 302) [.ref a]) u1 (fun _ u2 => tIf (bVal (tAtt (tLoc 0) (so "is_packed"))) (tSeq (tExp (tCall (tVal (.ref 316)) (lCons (tLoc 0) (lCons (tLoc 1) (lCons (tLoc 2) lNil))))) tNil) (tSeq (tExp (tCall (tVal (.ref 323)) (lCons (tLoc 0) (lCons (tLoc 1) (lCons (tLoc 2) lNil))))) tNil) c A' [some (.ref a), some kv, some sv] u2
            (fun f vs' u' => match f with | .next => T_add_tail c A' vs' u' (fun f _ u' => Q (retOf f) u') | f => Q (retOf f) u')) := fun u1 F1 sz S1 O1 z1 z2 c1 => by
        refine (c_to_hash (R'.le (by omega)) S1 (h4.le O1) z1 z2 hl fun u2 F2 ⟨ks2, vs2, hs2, ns2, S2, P2⟩ p2 O2 => ?_).ru
        refine aGet S2 (i := 0) (v := .bool false) (by kernel_rfl) (by rw [← p2.1]; rfl) rfl (trB ⟨kp (by decide), ?_⟩)
        exact hashed u2 F2 ks2 vs2 hs2 ns2 S2 (h5 ▸ P2) p2.1 (p2.2.trans c1) (O1.trans O2)
      refine ⟨kprB, aGet S (i := 2) (by kernel_rfl) rfl rfl (lenL S.V.lst (big (by omega)) fun t1 => aGet S (i := 5) (by kernel_rfl) rfl rfl (geI' rfl (trB ?_)))⟩
      cases decide (F.size ≤ (vs.length : Int)) with
      | false => exact ⟨kp (by decide), go u F 8 S (Le.refl _) h2 (by omega) rfl⟩
      | true =>
        refine aGet S (i := 5) (by kernel_rfl) rfl rfl fun t2 => mulI (.of_right (by decide +kernel)) fun t3 => aSet S (i := 5) (F' := { F with size := F.size * 2, ts := t3 }) (by kernel_rfl) rfl ⟨rfl, rfl, rfl, rfl, rfl⟩ fun u1 S1 O1 => ?_
        exact ⟨kp (by decide), go u1 { F with size := F.size * 2, ts := t3 } 16 S1 O1 (by show F.size * 2 = _; rw [h2]; rfl) (by omega) rfl⟩
end
end Mine
end
section
open PySem PySem.W PySem.Calls PyProof.Rows Builtin Builtin.ObjectAttr PySem.SeqAt
set_option Elab.async false
set_option maxRecDepth 100000
set_option linter.unusedVariables false
namespace Mine
section
variable {c : Cx} {A : Around} {u : PM} {a dx l : Addr} {F F' : AF} {ks vs hs' ns xs : List Value} {Q : Value → PM → Prop} {v kv sv : Value} {t : Tok} {kk : List Key} {sz : Nat} {k : Key} {rows rows' : List Row}
theorem getD_some {α : Type} {l : List α} {i : Nat} {d x : α} (h : l[i]? = some x) : l.getD i d = x := by rw [List.getD_eq_getElem?_getD, h]; rfl
/-- self.find(key) -/
theorem c_find (R : Room A 3) (S : ArrS c u a dx F ks vs hs' ns) (P : Shp c (rst u (F.own dx)) F ks vs hs' ns rows) (hk : KeyV k kv) (q : ∀ p t u', Le u u' → FindR rows vs k p → Q (.int p t) u') : RUc c A (.ref 201) [.ref a, kv] u Q := F_Arr_find R.lt fun A' D => by
  have R' := R.step D
  cases P with
  | pk lv h1 h2 h3 h4 h5 =>
    refine aGet S (i := 0) (v := .bool true) (by kernel_rfl) (by rw [← h1]; rfl) rfl (trB ?_)
    cases k with
    | s x =>
      refine ⟨kprB, isiKey hk rfl (trB fun t1 => negI fun t2 => q _ _ u (Le.refl u) (.inl ⟨rfl, fun r hr => ?_⟩))⟩
      rw [h5] at hr
      obtain ⟨i, -, rfl⟩ := mem_rows.mp hr
      exact fun z => by cases z
    | i n =>
      obtain ⟨t, rfl⟩ := hk
      refine ⟨kprB, iiI (trB ?_)⟩
      have no : (∀ i : Nat, n = i → lv[i]? ≠ some true) → FindR rows vs (.i n) (-1) := fun h => .inl ⟨rfl, fun r hr => by
        rw [h5] at hr
        obtain ⟨i, hi, rfl⟩ := mem_rows.mp hr
        exact fun z => h i (by injection z with z; exact z.symm) hi⟩
      by_cases hr : 0 ≤ n ∧ n < (vs.length : Int)
      · obtain ⟨m, rfl⟩ : ∃ m : Nat, n = m := ⟨n.toNat, by omega⟩
        have hm : m < lv.length := by rw [← h4.1]; omega
        have hlv : lv[m]? = some lv[m] := by simp [hm]
        obtain ⟨v, hv1, hv2⟩ := h4.2 m _ hlv
        refine ⟨kp (by decide), (c_isl (R'.le (by omega)) S (by omega) (.inl ⟨hr.1, hr.2, v, by simpa using hv1, hv2.le rst_le⟩) (trB ?_)).ru⟩
        cases hb : lv[m] with
        | true =>
          refine q _ _ u (Le.refl u) (.inr ⟨m, rfl, v, hv1, ?_⟩)
          rw [h5]
          exact mem_rows.mpr ⟨m, by rw [hlv, hb], by rw [getD_some hv1]; rfl⟩
        | false => exact fun t1 => negI fun t2 => q _ _ u (Le.refl u) (no fun i e => by
            have : i = m := by omega
            subst this; rw [hlv, hb]; simp)
      · refine ⟨kp (by decide), (c_isl (b := false) (R'.le (by omega)) S (by omega) (.inr ⟨by omega, rfl⟩) (trB ?_)).ru⟩
        exact fun t1 => negI fun t2 => q _ _ u (Le.refl u) (no fun i e h => by
          have := (List.getElem?_eq_some_iff.mp h).1
          have := h4.1
          omega)
  | hs kk sz h1 h2 h3 h4 h5 h7 h8 h9 h10 =>
    have hvl : vs.length = kk.length := by rw [h4.1]; simp
    refine aGet S (i := 0) (v := .bool false) (by kernel_rfl) (by rw [← h1]; rfl) rfl (trB (aGet S (i := 3) (by kernel_rfl) rfl rfl ⟨kp (by decide), (c_hash (R'.le (by omega)) hk fun t1 u1 l1 => ?_).ru⟩))
    have S1 := S.grow l1
    obtain ⟨hc1, hc2⟩ := chn_is (k := k) (sz := sz) (by omega)
    obtain ⟨tf, hf⟩ := h9.2 _ hc2
    refine aGet S1 (i := 5) (by kernel_rfl) rfl rfl (modI (by omega) fun t2 => ?_)
    rw [h2, hc1]
    refine inPyL S1.H.lst ⟨rfl, getL S1.H.lst (by omega) (big (by omega)) (by simpa using hf) ?_⟩
    -- a key's row
    have row : ∀ j : Nat, kk[j]? = some k → ∃ v, vs[j]? = some v ∧ (k, v) ∈ rows := fun j hj => by
      have hjl := (List.getElem?_eq_some_iff.mp hj).1
      refine ⟨vs[j]'(by omega), by simp, ?_⟩
      rw [h5]
      exact mem_rows.mpr ⟨j, by simp [hjl], by
        have e1 : vs[j]? = some (vs[j]'(by omega)) := by simp
        rw [getD_some e1]; unfold kfK; rw [getD_some hj]⟩
    have hofk : ∀ j : Nat, kk[j]? = some k → hof kk sz j = chn k sz := fun j hj => by unfold hof; rw [getD_some hj]
    refine ⟨fun m vs1 uu => uu = u1 ∧ ∃ p tp, vs1 = [some (.ref a), some kv, some (.int p tp)] ∧ m = (p + 1).toNat ∧ ((p = -1 ∧ ∀ j : Nat, kk[j]? ≠ some k) ∨ ∃ i : Nat, p = i ∧ i < kk.length ∧ hof kk sz i = chn k sz ∧ ∀ j : Nat, kk[j]? = some k → j ≤ i), _, ⟨rfl, _, tf, rfl, rfl, ?_⟩, ?_⟩
    · rcases lb_spec (hof kk sz) kk.length (chn k sz) with ⟨e1, e2⟩ | ⟨i, e1, e2, e3, e4⟩
      · exact .inl ⟨e1, fun j hj => e2 j (List.getElem?_eq_some_iff.mp hj).1 (hofk j hj)⟩
      · refine .inr ⟨i, e1, e2, e3, fun j hj => ?_⟩
        by_cases z : j ≤ i
        · exact z
        · exact absurd (hofk j hj) (e4 j (by omega) (List.getElem?_eq_some_iff.mp hj).1)
    · rintro m vs1 _ ⟨rfl, p, tp, rfl, rfl, hp⟩
      intro t3
      rcases hp with ⟨rfl, hno⟩ | ⟨i, rfl, hi, hh, hmax⟩
      · refine geI' (r := false) (by decide) (trB (q _ _ _ l1 (.inl ⟨rfl, fun r hr => ?_⟩)))
        rw [h5] at hr
        obtain ⟨j, hj, rfl⟩ := mem_rows.mp hr
        have hjl : j < kk.length := by simpa using (List.getElem?_eq_some_iff.mp hj).1
        intro z
        refine hno j ?_
        have e1 : kk[j]? = some kk[j] := by simp [hjl]
        have z' : kfK kk j = k := z
        unfold kfK at z'; rw [getD_some e1] at z'
        rw [e1, z']
      · refine geI' (r := true) (decide_eq_true (by omega)) (trB ?_)
        have e1 : kk[i]? = some kk[i] := by simp [hi]
        obtain ⟨kvi, hk1, hk2⟩ := h7.2 i _ e1
        refine aGet S1 (i := 1) (by kernel_rfl) rfl rfl (inPyL S1.K.lst ⟨rfl, getL S1.K.lst (by omega) (big (by omega)) (by simpa using hk1) (neKey hk2 hk rfl (trB ?_))⟩)
        by_cases hkk : kk[i] = k
        · rw [decide_eq_false (by simp [hkk])]
          exact q _ _ _ l1 (.inr ⟨i, rfl, row i (by rw [e1, hkk])⟩)
        · rw [decide_eq_true hkk]
          obtain ⟨tn, hn⟩ := h10.2 i hi
          refine aGet S1 (i := 4) (by kernel_rfl) rfl rfl (inPyL S1.N.lst ⟨rfl, getL S1.N.lst (by omega) (big (by omega)) (by simpa using hn) ?_⟩)
          rw [hh]
          have less : ∀ j : Nat, kk[j]? = some k → j < i := fun j hj => by
            have := hmax j hj
            rcases Nat.lt_or_ge j i with z | z
            · exact z
            · have : j = i := by omega
              subst this
              rw [e1] at hj; exact absurd (Option.some.inj hj) hkk
          rcases lb_spec (hof kk sz) i (chn k sz) with ⟨z1, z2⟩ | ⟨i', z1, z2, z3, z4⟩
          · exact ⟨_, by rw [z1]; omega, rfl, _, tn, rfl, rfl, .inl ⟨z1, fun j hj => z2 j (less j hj) (hofk j hj)⟩⟩
          · refine ⟨_, by rw [z1]; omega, rfl, _, tn, rfl, rfl, .inr ⟨i', z1, by omega, z3, fun j hj => ?_⟩⟩
            by_cases z : j ≤ i'
            · exact z
            · exact absurd (hofk j hj) (z4 j (by omega) (less j hj))
theorem mFind {Q : Value × List Value → PM → Prop} {pl : Sem Bool} (S : ArrS c u a dx F ks vs hs' ns) (q : Q (.ref 201, [.ref a]) u) : RU c A (getMethod (.ref a) (so "find") pl) u Q := metA kArr S.ins (fun P => by kernel_rfl) (fun P => by kernel_rfl) (by kernel_rfl) q
/-- arr.put(key, slot), the key being new -/
theorem c_put (R : Room A 8) (M : ArrM c u a dx F rows) (hr : rows.length ≤ 3) (hk : KeyV k kv) (hnew : ∀ r ∈ rows, r.1 ≠ k) (hs : Lv c (rst u (F.own dx)) sv true) (q : ∀ u' F', ArrM c u' a dx F' (rows ++ [(k, sv)]) → Own dx F u u' F' → Q .none u') : RUc c A (.ref 229) [.ref a, kv, sv] u Q := F_Arr_put R.lt fun A' D => by
  have R' := R.step D
  obtain ⟨hc, ks, vs, hs', ns, S, P⟩ := M
  refine fun pl => mFind S ⟨kp (by decide), (c_find (R'.le (by omega)) S P hk fun p t u1 l1 hf => ?_).ru⟩
  rcases hf with ⟨rfl, -⟩ | ⟨i, -, v, -, hm⟩
  · have O1 := Own.grow S l1
    refine fun t1 => geI' (r := false) (by decide) (trB ⟨kp (by decide), (c_add (R'.le (by omega)) ⟨hc, ks, vs, hs', ns, S.grow l1, P.le O1⟩ hr hk (hs.le O1) fun u2 F2 M2 O2 => ?_).ru⟩)
    exact q u2 F2 M2 (O1.trans O2)
  · exact absurd rfl (hnew _ hm)
/-- arr.has(key) -/
theorem c_has {b : Bool} (R : Room A 4) (M : ArrM c u a dx F rows) (hk : KeyV k kv) (hb : b = true ↔ ∃ r ∈ rows, r.1 = k) (q : ∀ u', Le u u' → Q (.bool b) u') : RUc c A (.ref 208) [.ref a, kv] u Q := F_Arr_has R.lt fun A' D => by
  obtain ⟨hc, ks, vs, hs', ns, S, P⟩ := M
  refine fun pl => mFind S ⟨kp (by decide), (c_find (R.step D) S P hk fun p t u1 l1 hf => fun t1 => ?_).ru⟩
  rcases hf with ⟨rfl, h⟩ | ⟨i, rfl, v, -, hm⟩
  · refine geI' (r := b) ?_ (q u1 l1)
    cases b with
    | false => rfl
    | true => obtain ⟨r, h1, h2⟩ := hb.mp rfl; exact absurd h2 (h r h1)
  · refine geI' (r := b) ?_ (q u1 l1)
    rw [hb.mpr ⟨_, hm, rfl⟩]
    exact decide_eq_true (by omega)
/-- arr.slot(key), the key being there -/
theorem c_slot (R : Room A 4) (M : ArrM c u a dx F rows) (hk : KeyV k kv) (hm : ∃ r ∈ rows, r.1 = k) (q : ∀ v u', Le u u' → (k, v) ∈ rows → Q v u') : RUc c A (.ref 215) [.ref a, kv] u Q := F_Arr_slot R.lt fun A' D => by
  obtain ⟨hc, ks, vs, hs', ns, S, P⟩ := M
  have hz : vs.length ≤ 8 := by
    cases P with
    | pk lv h1 h2 h3 => exact h3
    | hs kk sz h1 h2 h3 h4 h5 h7 h8 => rw [h4.1]; simpa using h8
  refine fun pl => mFind S ⟨kp (by decide), (c_find (R.step D) S P hk fun p t u1 l1 hf => ?_).ru⟩
  rcases hf with ⟨rfl, h⟩ | ⟨i, rfl, v, hv, hm⟩
  · obtain ⟨r, h1, h2⟩ := hm; exact absurd h2 (h r h1)
  · have S1 := S.grow l1
    have hi := (List.getElem?_eq_some_iff.mp hv).1
    exact fun t1 => ltI' (r := false) (decide_eq_false (by omega)) (trB (aGet S1 (i := 2) (by kernel_rfl) rfl rfl (inPyL S1.V.lst ⟨rfl, getL S1.V.lst (by omega) (big (by omega)) (by simpa using hv) (q v u1 l1 hm)⟩)))
end
end Mine
end
section
open PySem PySem.W PySem.Calls PyProof.Rows Builtin Builtin.ObjectAttr PySem.SeqAt
set_option Elab.async false
set_option maxRecDepth 100000
set_option linter.unusedVariables false
namespace Mine
/-- a row as a tuple -/
noncomputable def RowT (u : PM) (x : Value) (r : Row) : Prop := ∃ T kv, x = .ref T ∧ Tup u T [kv, r.2] ∧ KeyV r.1 kv
theorem RowT.le {u u' : PM} {x : Value} {r : Row} (h : RowT u x r) (l : Le u u') : RowT u' x r := let ⟨T, kv, e, t, k⟩ := h; ⟨T, kv, e, t.le l, k⟩
noncomputable def RowsL (u : PM) (xs : List Value) (rows : List Row) : Prop := xs.length = rows.length ∧ ∀ (i : Nat) (r : Row), rows[i]? = some r → ∃ x, xs[i]? = some x ∧ RowT u x r
theorem RowsL.le {u u' : PM} {xs : List Value} {rows : List Row} (h : RowsL u xs rows) (l : Le u u') : RowsL u' xs rows := ⟨h.1, fun i r e => let ⟨x, h1, h2⟩ := h.2 i r e; ⟨x, h1, h2.le l⟩⟩
theorem RowsL.app {u : PM} {xs : List Value} {rows : List Row} {x : Value} {r : Row} (h : RowsL u xs rows) (hr : RowT u x r) : RowsL u (xs ++ [x]) (rows ++ [r]) := by
  refine ⟨by simp [h.1], fun i r' e => ?_⟩
  rcases Nat.lt_or_ge i rows.length with z | z
  · rw [List.getElem?_append_left z] at e
    obtain ⟨v', e1, e2⟩ := h.2 i r' e
    exact ⟨v', by rw [List.getElem?_append_left (h.1.symm ▸ z)]; exact e1, e2⟩
  · rw [List.getElem?_append_right z] at e
    have hi : i = rows.length := by
      have := (List.getElem?_eq_some_iff.mp e).1
      simp at this; omega
    subst hi
    simp at e
    subst e
    exact ⟨x, by rw [← h.1]; simp, hr⟩
section
variable {c : Cx} {A : Around} {u : PM} {a dx l : Addr} {F F' : AF} {ks vs hs' ns xs : List Value} {Q : Value → PM → Prop} {v kv sv : Value} {t : Tok} {kk : List Key} {sz : Nat} {k : Key} {rows rows' : List Row}
theorem ML.keep {u' : PM} {x D : Addr} {nn : List Str} {vv : List (Option Value)} (m : ML c u l xs) (I : Ins c u x dx D nn vv) (g : ∀ b ob, b ≠ dx → u b = some ob → u' b = some ob) : ML c u' l xs := ⟨let ⟨n, e⟩ := m.e; ⟨n, g _ _ (I.dxL m.lst).symm e⟩, m.h⟩
theorem Shp.view (P : Shp c u F ks vs hs' ns rows) : ∃ lv kf, LvL c u vs lv ∧ rows = mapRows kf vs lv ∧ vs.length ≤ 8 ∧ ((F.pk = true ∧ kf = kfI) ∨ (F.pk = false ∧ ∀ i, i < lv.length → ∃ kv, ks[i]? = some kv ∧ KeyV (kf i) kv)) := by
  cases P with
  | pk lv h1 h2 h3 h4 h5 => exact ⟨lv, kfI, h4, h5, h3, .inl ⟨h1, rfl⟩⟩
  | hs kk sz h1 h2 h3 h4 h5 h7 h8 =>
    refine ⟨_, _, h4, h5, by rw [h4.1]; simpa using h8, .inr ⟨h1, fun i hi => ?_⟩⟩
    have hi' : i < kk.length := by simpa using hi
    have e1 : kk[i]? = some kk[i] := by simp [hi']
    obtain ⟨kv, h, hk⟩ := h7.2 i _ e1
    exact ⟨kv, h, by unfold kfK; rw [getD_some e1]; exact hk⟩
theorem c_key_at {i : Nat} {kf : Nat → Key} (R : Room A 1) (S : ArrS c u a dx F ks vs hs' ns) (hi : i ≤ 8) (h : (F.pk = true ∧ kf = kfI) ∨ (F.pk = false ∧ ∃ kv, ks[i]? = some kv ∧ KeyV (kf i) kv)) (q : ∀ kv, KeyV (kf i) kv → Q kv u) : RUc c A (.ref 250) [.ref a, .int i t] u Q := F_Arr_key_at R.lt fun A' D => by
  rcases h with ⟨h1, rfl⟩ | ⟨h1, kv, h2, h3⟩
  · exact aGet S (i := 0) (v := .bool true) (by kernel_rfl) (by rw [← h1]; rfl) rfl (trB (q _ ⟨t, rfl⟩))
  · exact aGet S (i := 0) (v := .bool false) (by kernel_rfl) (by rw [← h1]; rfl) rfl (trB (aGet S (i := 1) (by kernel_rfl) rfl rfl (inPyL S.K.lst ⟨rfl, getL S.K.lst (by omega) (big (by omega)) (by simpa using h2) (q kv h3)⟩)))
theorem mKeyAt {Q : Value × List Value → PM → Prop} {pl : Sem Bool} (S : ArrS c u a dx F ks vs hs' ns) (q : Q (.ref 250, [.ref a]) u) : RU c A (getMethod (.ref a) (so "key_at") pl) u Q := metA kArr S.ins (fun P => by kernel_rfl) (fun P => by kernel_rfl) (by kernel_rfl) q
theorem mPut {Q : Value × List Value → PM → Prop} {pl : Sem Bool} (S : ArrS c u a dx F ks vs hs' ns) (q : Q (.ref 229, [.ref a]) u) : RU c A (getMethod (.ref a) (so "put") pl) u Q := metA kArr S.ins (fun P => by kernel_rfl) (fun P => by kernel_rfl) (by kernel_rfl) q
theorem mHas {Q : Value × List Value → PM → Prop} {pl : Sem Bool} (S : ArrS c u a dx F ks vs hs' ns) (q : Q (.ref 208, [.ref a]) u) : RU c A (getMethod (.ref a) (so "has") pl) u Q := metA kArr S.ins (fun P => by kernel_rfl) (fun P => by kernel_rfl) (by kernel_rfl) q
theorem mSlot {Q : Value × List Value → PM → Prop} {pl : Sem Bool} (S : ArrS c u a dx F ks vs hs' ns) (q : Q (.ref 215, [.ref a]) u) : RU c A (getMethod (.ref a) (so "slot") pl) u Q := metA kArr S.ins (fun P => by kernel_rfl) (fun P => by kernel_rfl) (by kernel_rfl) q
/-- slots_of(arr) -/
theorem c_slots (R : Room A 2) (M : ArrM c u a dx F rows) (q : ∀ D o xs u', Le u u' → u' D = some o → LstO o xs → c.h0.get? D = none → RowsL u' xs rows → Q (.ref D) u') : RUc c A (.ref 342) [.ref a] u Q := F_slots_of R.lt fun A' D => by
  have R' := R.step D
  obtain ⟨hc, ks, vs, hs', ns, S, P⟩ := M
  obtain ⟨lv, kf, V, hr, hz, hkf⟩ := P.view
  have hvl := V.1
  refine ⟨kprT, kprB, aGet S (i := 2) (by kernel_rfl) rfl rfl (lenL S.V.lst (big (by omega)) fun t1 => rng1 fun r o1 hr1 Lr => ?_)⟩
  refine ⟨_, _, _, _, (fun tgt _ => iterRange R'.h upd_self Lr (by omega)), lenSz (by omega), fun i acc vs1 u1 => ∃ pl, vs1 = [pl, some (.ref a)] ∧ Le u u1 ∧ RowsL u1 acc (mapRows kf vs (lv.take i)), ⟨none, rfl, upd_le hr1, rfl, fun i n e => by cases e⟩, ?_, ?_⟩
  · rintro i acc v vs1 u2 u3 hi ⟨pl, rfl, l2, hA⟩ - l23 ⟨t2, rfl⟩
    rw [hvl] at hi
    have l3 := l2.trans l23
    have hlv : lv[i]? = some lv[i] := by simp [hi]
    obtain ⟨v, hv1, hv2⟩ := V.2 i _ hlv
    refine ⟨kp (by decide), (c_isl (R'.le (by omega)) (S.grow l3) (by omega) (.inl ⟨by omega, by omega, v, by simpa using hv1, (hv2.le rst_le).le l3⟩) (trB ?_)).ru⟩
    have hT := idxs_take lv i _ hlv
    have hrow : mapRows kf vs (lv.take (i + 1)) = mapRows kf vs (lv.take i) ++ (if lv[i] = true then [(kf i, v)] else []) := by
      unfold mapRows
      rw [hT, List.map_append]
      cases lv[i]
      · rfl
      · simp only [if_true, List.map_cons, List.map_nil]; rw [getD_some hv1]
    cases hb2 : lv[i] with
    | true =>
      rw [hb2, if_pos rfl] at hrow
      have S3 := S.grow l3
      refine fun pl => mKeyAt S3 ⟨kp (by decide), (c_key_at (i := i) (kf := kf) (R'.le (by omega)) S3 (by omega) (hkf.imp (fun h => h) fun h => ⟨h.1, h.2 i hi⟩) fun kv hk => ?_).ru⟩
      refine aGet S3 (i := 2) (by kernel_rfl) rfl rfl (inPyL S3.V.lst ⟨rfl, getL S3.V.lst (by omega) (big (by omega)) (by simpa using hv1) (tupN sz0 fun T oT hT oTo => ?_)⟩)
      exact ⟨trivial, _, rfl, l3.trans (upd_le hT), hrow ▸ (hA.le (l23.trans (upd_le hT))).app ⟨T, kv, rfl, ⟨oT, upd_self, oTo⟩, hk⟩⟩
    | false =>
      rw [hb2, if_neg (by decide), List.append_nil] at hrow
      exact ⟨trivial, _, rfl, l3, hrow ▸ hA.le l23⟩
  · rintro acc vs1 u2 Dl o2 ⟨pl, rfl, l2, hA⟩ - hD hD0 hDo
    rw [hvl, List.take_of_length_le (Nat.le_refl _), ← hr] at hA
    exact q Dl o2 acc _ (l2.trans (upd_le hD)) upd_self hDo hD0 (hA.le (upd_le hD))
/-- Arr() -/
theorem c_Arr (R : Room A 4) (q : ∀ a dx F u', ArrM c u' a dx F [] → Le u (rst u' (F.own dx)) → u a = none → Q (.ref a) u') : RU c A (call (.ref 253) []) u Q :=
  newI (ns := nArr) R mArr fun x dx u1 A' R' hx I => F_Arr_init R'.lt fun A'' D =>
    setI kArr I (i := 0) (by kernel_rfl) fun u2 _ (I : Ini c u u2 x dx 253 nArr [some (.bool true), none, none, none, none, none, none, none, none, none, none]) =>
    lstN sz0 fun k o1 hk hk0 Lk => setI kArr (I.up hk) (i := 1) (by kernel_rfl) fun u3 g3 (I3 : Ini c u u3 x dx 253 nArr [some (.bool true), some (.ref k), none, none, none, none, none, none, none, none, none]) =>
    have K3 : ML c u3 k [] := (ML.new hk0 Lk).keep (I.up hk).ins g3
    lstN sz0 fun v o2 hv hv0 Lv => setI kArr (I3.up hv) (i := 2) (by kernel_rfl) fun u4 g4 (I4 : Ini c u u4 x dx 253 nArr [some (.bool true), some (.ref k), some (.ref v), none, none, none, none, none, none, none, none]) =>
    have K4 : ML c u4 k [] := (K3.le (upd_le hv)).keep (I3.up hv).ins g4
    have V4 : ML c u4 v [] := (ML.new hv0 Lv).keep (I3.up hv).ins g4
    lstN sz0 fun hd o3 hh hh0 Lh => setI kArr (I4.up hh) (i := 3) (by kernel_rfl) fun u5 g5 (I5 : Ini c u u5 x dx 253 nArr [some (.bool true), some (.ref k), some (.ref v), some (.ref hd), none, none, none, none, none, none, none]) =>
    have K5 : ML c u5 k [] := (K4.le (upd_le hh)).keep (I4.up hh).ins g5
    have V5 : ML c u5 v [] := (V4.le (upd_le hh)).keep (I4.up hh).ins g5
    have H5 : ML c u5 hd [] := (ML.new hh0 Lh).keep (I4.up hh).ins g5
    lstN sz0 fun nx o4 hn hn0 Ln => setI kArr (I5.up hn) (i := 4) (by kernel_rfl) fun u6 g6 (I6 : Ini c u u6 x dx 253 nArr [some (.bool true), some (.ref k), some (.ref v), some (.ref hd), some (.ref nx), none, none, none, none, none, none]) =>
    have K6 : ML c u6 k [] := (K5.le (upd_le hn)).keep (I5.up hn).ins g6
    have V6 : ML c u6 v [] := (V5.le (upd_le hn)).keep (I5.up hn).ins g6
    have H6 : ML c u6 hd [] := (H5.le (upd_le hn)).keep (I5.up hn).ins g6
    have N6 : ML c u6 nx [] := (ML.new hn0 Ln).keep (I5.up hn).ins g6
    setI kArr I6 (i := 5) (by kernel_rfl) fun u7 g7 (I7 : Ini c u u7 x dx 253 nArr [some (.bool true), some (.ref k), some (.ref v), some (.ref hd), some (.ref nx), some (.int 8 432), none, none, none, none, none]) =>
    fun tc => setI kArr I7 (i := 6) (by kernel_rfl) fun u8 g8 (I8 : Ini c u u8 x dx 253 nArr [some (.bool true), some (.ref k), some (.ref v), some (.ref hd), some (.ref nx), some (.int 8 432), some (.int 0 tc), none, none, none, none]) =>
    ⟨kp (by decide), (c_least ((R'.step D).le (by omega)) fun tn => setI kArr I8 (i := 7) (by kernel_rfl) fun u9 g9 (I9 : Ini c u u9 x dx 253 nArr [some (.bool true), some (.ref k), some (.ref v), some (.ref hd), some (.ref nx), some (.int 8 432), some (.int 0 tc), some (.int (-9223372036854775808) tn), none, none, none]) =>
    fun ta => setI kArr I9 (i := 8) (by kernel_rfl) fun u10 g10 (I10 : Ini c u u10 x dx 253 nArr [some (.bool true), some (.ref k), some (.ref v), some (.ref hd), some (.ref nx), some (.int 8 432), some (.int 0 tc), some (.int (-9223372036854775808) tn), some (.int 0 ta), none, none]) =>
    setI kArr I10 (i := 9) (by kernel_rfl) fun u11 g11 (I11 : Ini c u u11 x dx 253 nArr [some (.bool true), some (.ref k), some (.ref v), some (.ref hd), some (.ref nx), some (.int 8 432), some (.int 0 tc), some (.int (-9223372036854775808) tn), some (.int 0 ta), some (.bool false), none]) =>
    fun w hw hw0 hws => setI kArr (I11.up hw) (i := 10) (by kernel_rfl) fun u12 g12 (I12 : Ini c u u12 x dx 253 nArr [some (.bool true), some (.ref k), some (.ref v), some (.ref hd), some (.ref nx), some (.int 8 432), some (.int 0 tc), some (.int (-9223372036854775808) tn), some (.int 0 ta), some (.bool false), some (.ref w)]) =>
      ⟨rfl, by
        have m : ∀ {l : Addr}, ML c u6 l [] → ML c u12 l [] := fun m6 => (((((((m6.keep I6.ins g7).keep I7.ins g8).keep I8.ins g9).keep I9.ins g10).keep I10.ins g11).le (upd_le hw)).keep (I11.up hw).ins g12)
        have wne : w ≠ dx := fun z => by
          obtain ⟨_, e, _⟩ := I11.ins.dct
          rw [z, e] at hw; cases hw
        have S : ArrS c u12 x dx ⟨true, k, v, hd, nx, 8, 432, 0, tc, -9223372036854775808, tn, 0, ta, w⟩ [] [] [] [] := ⟨I12.ins, g12 _ _ wne upd_self, hws, m K6, m V6, m H6, m N6, ⟨K3.lt hv, K4.lt hh, K5.lt hn, V4.lt hh, V5.lt hn, H5.lt hn⟩, wne⟩
        refine q x dx _ u12 ⟨rfl, [], [], [], [], S, .pk [] rfl rfl (Nat.zero_le _) ⟨rfl, fun i b e => by cases e⟩ rfl⟩ (rst_of I12.le fun b hb => ?_) hx
        rcases List.mem_cons.mp hb with rfl | hb
        · exact I12.f
        rcases List.mem_cons.mp hb with rfl | hb
        · exact I.le.none hk
        rcases List.mem_cons.mp hb with rfl | hb
        · exact I3.le.none hv
        rcases List.mem_cons.mp hb with rfl | hb
        · exact I4.le.none hh
        · rw [List.mem_singleton.mp hb]; exact I5.le.none hn⟩).ru⟩
end
end Mine
end
section
open PySem PySem.W PySem.Calls PyProof.Rows Builtin Builtin.ObjectAttr PySem.SeqAt
set_option Elab.async false
set_option maxRecDepth 100000
set_option linter.unusedVariables false
namespace Mine
section
variable {c : Cx} {A : Around} {u : PM} {a dx l : Addr} {F F' : AF} {ks vs hs' ns xs : List Value} {Q : Value → PM → Prop} {v kv sv : Value} {t : Tok} {kk : List Key} {sz : Nat} {k : Key} {rows rows' : List Row}
theorem ArrM.grow {u' : PM} (M : ArrM c u a dx F rows) (h : Le u u') : ArrM c u' a dx F rows := let ⟨hc, ks, vs, hs', ns, S, P⟩ := M; ⟨hc, ks, vs, hs', ns, S.grow h, P.le (Own.grow S h)⟩
theorem ArrM.ownGrow {u' : PM} (M : ArrM c u a dx F rows) (h : Le u u') : Own dx F u u' F := let ⟨hc, ks, vs, hs', ns, S, P⟩ := M; Own.grow S h
/-- from_pairs(pairs) -/
theorem c_from_pairs {pl : Addr} (R : Room A 10) (hp : Lst u pl xs) (hx : RowsL u xs rows) (hd : (rows.map (·.1)).Nodup) (hr : rows.length ≤ 4) (hl : ∀ r ∈ rows, Lv c u r.2 true) (q : ∀ a dx F u', ArrM c u' a dx F rows → Le u u' → u a = none → Q (.ref a) u') : RUc c A (.ref 349) [.ref pl] u Q := F_from_pairs R.lt fun A' D => by
  have R' := R.step D
  obtain ⟨o, e, L⟩ := hp
  refine ⟨kp (by decide), c_Arr (R'.le (by omega)) fun a dx F u1 M1 l1 ha => ?_⟩
  have l1' : Le u u1 := l1.trans rst_le
  refine ⟨_, _, _, _, (fun tgt _ => iterList R'.h (l1' _ _ e) L), fun i vs1 u2 => ∃ F' s2 s3, vs1 = [some (.ref pl), some (.ref a), s2, s3] ∧ ArrM c u2 a dx F' (rows.take i) ∧ Le u (rst u2 (F'.own dx)), ⟨F, none, none, rfl, M1, l1⟩, ?_, ?_⟩
  · rintro i v vs1 u2 u3 hi ⟨F2, s2, s3, rfl, M2, l2⟩ - l23 hv
    have M3 := M2.grow l23
    have l3 : Le u (rst u3 (F2.own dx)) := l2.trans (M2.ownGrow l23)
    have hi' : i < rows.length := by rw [← hx.1]; exact hi
    have er : rows[i]? = some rows[i] := by simp [hi']
    obtain ⟨x, hx1, T, kv, rfl, hT, hk⟩ := hx.2 i _ er
    rw [hx1] at hv
    cases hv
    refine unpT (n := 2) ((hT.le l3).le rst_le) rfl R'.h ?_
    obtain ⟨hc, ks, vs, hs', ns, S, P⟩ := M3
    refine fun pm => mPut S ⟨kp (by decide), (c_put (R'.le (by omega)) ⟨hc, ks, vs, hs', ns, S, P⟩ (by simp; omega) hk (fun r hr' z => ?_) ((hl _ (List.getElem_mem hi')).le l3) fun u4 F4 M4 O4 => ?_).ru⟩
    · obtain ⟨j, hj, rfl⟩ := List.getElem_of_mem hr'
      simp at hj
      rw [List.getElem_take] at z
      have := (List.pairwise_iff_getElem.mp hd) j i (by simp; omega) (by simpa using hi') (by omega)
      simp at this
      exact this z
    · have l4 : Le u (rst u4 (F4.own dx)) := l3.trans O4
      refine ⟨fun p hp' => ?_, F4, _, _, rfl, ?_, l4⟩
      · rw [List.mem_singleton.mp hp']; exact rst_le _ _ (l4 _ _ e)
      · rw [List.take_add_one, er]; exact M4
  · rintro vs1 u2 ⟨F2, s2, s3, rfl, M2, l2⟩ -
    rw [List.take_of_length_le (by rw [hx.1]; exact Nat.le_refl _)] at M2
    exact q a dx F2 u2 M2 (l2.trans rst_le) ha
end
end Mine
end
section
open PySem PySem.W PySem.Calls PyProof.Rows Builtin Builtin.ObjectAttr PySem.SeqAt
set_option Elab.async false
set_option maxRecDepth 100000
set_option linter.unusedVariables false
namespace Mine
/-! the law's own forms -/
inductive Lf | nul | bool (b : Bool) | int (n : Nat) | str (s : Str) | obj (i : Nat)
inductive Frm | leaf (l : Lf) | arr (rows : List (Key × Bool × Frm))
noncomputable abbrev FRow := Key × Bool × Frm
noncomputable def Lf.word : Lf → Str
  | .nul => so "null" | .bool _ => so "bool" | .int _ => so "int" | .str _ => so "string" | .obj _ => so "object"
noncomputable def Lf.pay : Lf → Value → Prop
  | .nul, v => v = .none
  | .bool b, v => v = .bool b
  | .int n, v => ∃ t, v = .int n t
  | .str s, v => ∃ t, v = .str s t
  | .obj i, v => ∃ t, v = .int i t
noncomputable def Frm.word : Frm → Str
  | .leaf l => l.word
  | .arr _ => so "array"
inductive FV (u : PM) : Frm → Value → Prop
  | leaf (l : Lf) {a : Addr} {t : Tok} {w : Value} (h : Tup u a [.str l.word t, w]) (hw : l.pay w) : FV u (.leaf l) (.ref a)
  | arr {rows : List FRow} {a b : Addr} {t : Tok} {ys : List Value} {T : Nat → Addr} {kv w : Nat → Value} (h : Tup u a [.str (so "array") t, .ref b]) (hb : Tup u b ys) (hl : ys.length = rows.length)
      (hr : ∀ (i : Nat) (k : Key) (r : Bool) (f : Frm), rows[i]? = some (k, r, f) → ys[i]? = some (.ref (T i)) ∧ Tup u (T i) [kv i, .bool r, w i] ∧ KeyV k (kv i)) (hf : ∀ (i : Nat) (k : Key) (r : Bool) (f : Frm), rows[i]? = some (k, r, f) → FV u f (w i)) : FV u (.arr rows) (.ref a)
theorem FV.le {u u' : PM} {f : Frm} {v : Value} (h : FV u f v) (l : Le u u') : FV u' f v := by
  induction h with
  | leaf lf h hw => exact .leaf lf (h.le l) hw
  | arr h hb hl hr hf ih => exact .arr (h.le l) (hb.le l) hl (fun i k r f e => let ⟨a, b, d⟩ := hr i k r f e; ⟨a, b.le l, d⟩) ih
/-- a row's tuple -/
noncomputable def FRowV (u : PM) (r : FRow) (x : Value) : Prop := ∃ T kv w, x = .ref T ∧ Tup u T [kv, .bool r.2.1, w] ∧ KeyV r.1 kv ∧ FV u r.2.2 w
theorem FRowV.le {u u' : PM} {r : FRow} {x : Value} (h : FRowV u r x) (l : Le u u') : FRowV u' r x := let ⟨T, kv, w, e, t, k, f⟩ := h; ⟨T, kv, w, e, t.le l, k, f.le l⟩
/-- two lists, item by item -/
inductive All2 {α β : Type} (P : α → β → Prop) : List α → List β → Prop
  | nil : All2 P [] []
  | cons {x y xs ys} (h : P x y) (t : All2 P xs ys) : All2 P (x :: xs) (y :: ys)
section
variable {α β : Type} {P P' : α → β → Prop}
theorem All2.len {xs : List α} {ys : List β} (h : All2 P xs ys) : ys.length = xs.length := by induction h with | nil => rfl | cons _ _ ih => simp [ih]
theorem All2.get {xs : List α} {ys : List β} (h : All2 P xs ys) : ∀ (i : Nat) (x : α), xs[i]? = some x → ∃ y, ys[i]? = some y ∧ P x y := by
  induction h with
  | nil => intro i x e; cases e
  | cons h t ih =>
    intro i x e
    cases i with
    | zero => cases e; exact ⟨_, rfl, h⟩
    | succ i => exact ih i x e
theorem All2.of : ∀ {xs : List α} {ys : List β}, ys.length = xs.length → (∀ (i : Nat) (x : α), xs[i]? = some x → ∃ y, ys[i]? = some y ∧ P x y) → All2 P xs ys
  | [], [], _, _ => .nil
  | [], _ :: _, h, _ => by cases h
  | _ :: _, [], h, _ => by cases h
  | x :: xs, y :: ys, h, g => by
    obtain ⟨y', e, p⟩ := g 0 x rfl
    cases e
    exact .cons p (All2.of (Nat.succ.inj h) fun i x e => g (i + 1) x e)
theorem All2.mono {xs : List α} {ys : List β} (h : All2 P xs ys) (m : ∀ x y, x ∈ xs → P x y → P' x y) : All2 P' xs ys := by
  induction h with
  | nil => exact .nil
  | cons h t ih => exact .cons (m _ _ (List.mem_cons_self ..) h) (ih fun x y hx => m x y (List.mem_cons_of_mem _ hx))
theorem All2.app {xs xs' : List α} {ys ys' : List β} (h : All2 P xs ys) (h' : All2 P xs' ys') : All2 P (xs ++ xs') (ys ++ ys') := by
  induction h with
  | nil => exact h'
  | cons h t ih => exact .cons h ih
theorem All2.take {xs : List α} {ys : List β} (h : All2 P xs ys) : ∀ n, All2 P (xs.take n) (ys.take n) := by
  induction h with
  | nil => intro n; simp; exact .nil
  | cons h t ih => intro n; cases n with | zero => exact .nil | succ n => exact .cons h (ih n)
theorem All2.drop {xs : List α} {ys : List β} (h : All2 P xs ys) : ∀ n, All2 P (xs.drop n) (ys.drop n) := by
  induction h with
  | nil => intro n; simp; exact .nil
  | cons h t ih => intro n; cases n with | zero => exact .cons h t | succ n => exact ih n
theorem All2.erase {xs : List α} {ys : List β} (h : All2 P xs ys) : ∀ n, All2 P (xs.eraseIdx n) (ys.eraseIdx n) := by
  induction h with
  | nil => intro n; simp; exact .nil
  | cons h t ih => intro n; cases n with | zero => exact t | succ n => exact .cons h (ih n)
theorem All2.set {xs : List α} {ys : List β} (h : All2 P xs ys) {x : α} {y : β} (p : P x y) : ∀ n, All2 P (xs.set n x) (ys.set n y) := by
  induction h with
  | nil => intro n; simp; exact .nil
  | cons h t ih => intro n; cases n with | zero => exact .cons p t | succ n => exact .cons h (ih n)
end
theorem FV.rows {u : PM} {rows : List FRow} {v : Value} (h : FV u (.arr rows) v) : ∃ a b t ys, v = .ref a ∧ Tup u a [.str (so "array") t, .ref b] ∧ Tup u b ys ∧ All2 (FRowV u) rows ys := by
  cases h with
  | arr h hb hl hr hf => exact ⟨_, _, _, _, rfl, h, hb, All2.of hl fun i ⟨k, r, f⟩ e => let ⟨h1, h2, h3⟩ := hr i k r f e; ⟨_, h1, _, _, _, rfl, h2, h3, hf i k r f e⟩⟩
theorem FV.mk {u : PM} {rows : List FRow} {a b : Addr} {t : Tok} {ys : List Value} (h : Tup u a [.str (so "array") t, .ref b]) (hb : Tup u b ys) (hr : All2 (FRowV u) rows ys) : FV u (.arr rows) (.ref a) := by
  have g : ∀ i : Nat, ∃ (T : Addr) (kv w : Value), ∀ k r f, rows[i]? = some (k, r, f) → ys[i]? = some (.ref T) ∧ Tup u T [kv, .bool r, w] ∧ KeyV k kv ∧ FV u f w := fun i => by
    cases e : rows[i]? with
    | none => exact ⟨0, .none, .none, fun k r f z => by cases z⟩
    | some x =>
      obtain ⟨y, hy, T, kv, w, rfl, h1, h2, h3⟩ := hr.get i x e
      exact ⟨T, kv, w, fun k r f z => by cases z; exact ⟨hy, h1, h2, h3⟩⟩
  let T := fun i => (g i).choose
  let kv := fun i => (g i).choose_spec.choose
  let w := fun i => (g i).choose_spec.choose_spec.choose
  have G : ∀ i k r f, rows[i]? = some (k, r, f) → ys[i]? = some (.ref (T i)) ∧ Tup u (T i) [kv i, .bool r, w i] ∧ KeyV k (kv i) ∧ FV u f (w i) := fun i => (g i).choose_spec.choose_spec.choose_spec
  exact .arr (T := T) (kv := kv) (w := w) h hb hr.len (fun i k r f e => let ⟨a, b, d, _⟩ := G i k r f e; ⟨a, b, d⟩) fun i k r f e => (G i k r f e).2.2.2
/-- a form's two parts -/
theorem FV.two {u : PM} {f : Frm} {v : Value} (h : FV u f v) : ∃ a t w, v = .ref a ∧ Tup u a [.str f.word t, w] := by
  cases h with
  | leaf l h hw => exact ⟨_, _, _, rfl, h⟩
  | arr h hb hl hr hf => exact ⟨_, _, _, rfl, h⟩
/-! what the run keeps to -/
noncomputable def KS : List Key := [.i 0, .i 7, .i (-3), .i 5, .i 9, .i 10, .i 11, .s (so "a"), .s (so "k"), .s (so "9a"), .s (so "b")]
noncomputable def SS : List Str := [so "", so "1", so "x", so "0", so "2", so "3", so "4", so "5", so "6", so "7", so "8", so "9"]
noncomputable def Lf.ok (N : Nat) : Lf → Prop
  | .int n => n ≤ N
  | .str s => s ∈ SS
  | .obj i => i < 2
  | _ => True
inductive WF (N : Nat) : Nat → Frm → Prop
  | leaf {d : Nat} {l : Lf} (h : l.ok N) : WF N d (.leaf l)
  | arr {d : Nat} {rows : List FRow} (h1 : rows.length ≤ 4) (h2 : (rows.map (·.1)).Nodup) (h3 : ∀ r ∈ rows, r.1 ∈ KS) (h4 : ∀ r ∈ rows, WF N d r.2.2) : WF N (d + 1) (.arr rows)
theorem WF.more {N M d : Nat} {f : Frm} (h : WF N d f) (hm : N ≤ M) : WF M d f := by
  induction h with
  | @leaf d l h =>
    refine .leaf ?_
    cases l <;> first | exact h | exact Nat.le_trans h hm
  | arr h1 h2 h3 _ ih => exact .arr h1 h2 h3 ih
theorem WF.up {N d e : Nat} {f : Frm} (h : WF N d f) (hm : d ≤ e) : WF N e f := by
  induction h generalizing e with
  | leaf h => exact .leaf h
  | arr h1 h2 h3 _ ih =>
    obtain ⟨e', rfl⟩ : ∃ e', e = e' + 1 := ⟨e - 1, by omega⟩
    exact .arr h1 h2 h3 fun r hr => ih r hr (by omega)
end Mine
end
section
open PySem PySem.W PySem.Calls PyProof.Rows Builtin Builtin.ObjectAttr PySem.SeqAt
set_option Elab.async false
set_option maxRecDepth 100000
set_option linter.unusedVariables false
namespace Mine
/-- the list that the digits come from -/
noncomputable def RowR (c : Cx) (u : PM) (ρ : Addr) : Prop := ∃ n t, 0 ≤ n ∧ ML c u ρ [.int n t]
noncomputable abbrev Byp (ρ : Addr) (u u' : PM) : Prop := Le (rst u [ρ]) (rst u' [ρ])
section
variable {c : Cx} {A : Around} {u u' : PM} {ρ a l : Addr} {o : Obj} {xs vs : List Value} {Q : Value → PM → Prop} {v w : Value} {t : Tok} {f : Frm} {N : Nat}
theorem RowR.grow (h : RowR c u ρ) (l : Le u u') : RowR c u' ρ := let ⟨n, t, h0, m⟩ := h; ⟨n, t, h0, m.le l⟩
theorem RowR.byp (h : RowR c u ρ) (l : Le u u') : Byp ρ u u' := rstS fun b x hb e => ⟨l _ _ e, hb⟩
theorem RowR.ne (h : RowR c u ρ) (ha : u a = none) : a ∉ [ρ] := fun z => by
  obtain ⟨n, t, h0, m⟩ := h
  exact m.lt ha (List.mem_singleton.mp z).symm
/-- a tuple, beside the row -/
theorem tupR (hρ : RowR c u ρ) (hs : Nat.ble vs.length 100 = true) (q : ∀ a u', Tup (rst u' [ρ]) a vs → RowR c u' ρ → Byp ρ u u' → Q (.ref a) u') : RU c A (newTuple vs) u Q :=
  tupN (sz0 hs) fun a o ha L => q a _ ⟨o, rst_some (hρ.ne ha) upd_self, L⟩ (hρ.grow (upd_le ha)) (hρ.byp (upd_le ha))
theorem tupG (hs : Nat.ble vs.length 100 = true) (q : ∀ a u', Tup u' a vs → Le u u' → Q (.ref a) u') : RU c A (newTuple vs) u Q :=
  tupN (sz0 hs) fun a o ha L => q a _ ⟨o, upd_self, L⟩ (upd_le ha)
/-- _law_digit(row, many) -/
theorem c_digit {m : Int} (R : Room A 1) (hρ : RowR c u ρ) (h0 : 0 < m) (h1 : m < 1000000) (q : ∀ d t u', 0 ≤ d → d < m → RowR c u' ρ → Byp ρ u u' → Q (.int d t) u') : RUc c A (.ref 766) [.ref ρ, .int m t] u Q := F__law_digit R.lt fun A' D => by
  obtain ⟨n, tn, hn, M⟩ := hρ
  refine fun t0 => inPyL M.lst ⟨rfl, getL M.lst (by decide) (by decide) rfl (modI (by omega) fun t1 => ?_)⟩
  refine fun t2 => inPyL M.lst ⟨rfl, getL M.lst (by decide) (by decide) rfl (fdivI (by omega) (by omega) fun t3 => ?_)⟩
  obtain ⟨k, e⟩ := M.e
  refine fun t4 => setL e M.h (by decide) (by decide) (show (0 : Int) < 1 by decide) fun n' => ?_
  refine q _ _ _ (Int.fmod_nonneg_of_pos _ h0) (Int.fmod_lt_of_pos _ h0) ⟨_, t3, ?_, ⟨⟨n', by rw [upd_self]; rfl⟩, M.h⟩⟩ (rstS fun b x hb e => ⟨(upd_ne fun z => hb (by simp [z])).trans e, hb⟩)
  rw [Int.fdiv_eq_ediv_of_nonneg _ (by omega)]; exact Int.ediv_nonneg hn (by omega)
noncomputable def frm0 : Frm := .arr [(.i 0, false, .leaf (.int 1)), (.s (so "a"), true, .arr [(.i 7, false, .leaf (.bool true)), (.s (so "k"), true, .leaf (.str (so "")))]), (.i (-3), false, .leaf (.obj 0)), (.i 5, false, .leaf .nul)]
theorem frm0_ok : WF 1 4 frm0 := by
  refine .up (d := 2) (.arr (by decide) (by decide +kernel) (by decide +kernel) fun r hr => ?_) (by decide)
  rcases List.mem_cons.mp hr with rfl | hr
  · exact .leaf (by show (1 : Nat) ≤ 1; decide)
  rcases List.mem_cons.mp hr with rfl | hr
  · refine .arr (by decide) (by decide +kernel) (by decide +kernel) fun r hr => ?_
    rcases List.mem_cons.mp hr with rfl | hr
    · exact .leaf trivial
    · rw [List.mem_singleton.mp hr]; exact .leaf (by show so "" ∈ SS; decide +kernel)
  rcases List.mem_cons.mp hr with rfl | hr
  · exact .leaf (by show (0 : Nat) < 2; decide)
  · rw [List.mem_singleton.mp hr]; exact .leaf trivial
/-- _law_first() -/
theorem c_first (R : Room A 1) (q : ∀ v u', FV u' frm0 v → Le u u' → Q v u') : RUc c A (.ref 773) [] u Q := F__law_first R.lt fun A' D =>
  fun ta t7 tb => tupG rfl fun a1 u1 T1 l1 => tupG rfl fun a2 u2 T2 l2 => fun tk ts te => tupG rfl fun a3 u3 T3 l3 => tupG rfl fun a4 u4 T4 l4 => tupG rfl fun a5 u5 T5 l5 => tupG rfl fun a6 u6 T6 l6 =>
  fun t0 ti t1 => tupG rfl fun b1 v1 S1 m1 => tupG rfl fun b2 v2 S2 m2 => fun t2 => tupG rfl fun b3 v3 S3 m3 => fun t3 => negI fun t4 t5 t6 => tupG rfl fun b4 v4 S4 m4 => tupG rfl fun b5 v5 S5 m5 => fun t8 t9 => tupG rfl fun b6 v6 S6 m6 => tupG rfl fun b7 v7 S7 m7 => tupG rfl fun b8 v8 S8 m8 =>
  fun t10 => tupG rfl fun b9 v9 S9 m9 => by
    have n9 := m9; have n8 := m8.trans n9; have n7 := m7.trans n8; have n6 := m6.trans n7; have n5 := m5.trans n6; have n4 := m4.trans n5; have n3 := m3.trans n4; have n2 := m2.trans n3; have n1 := m1.trans n2
    have k6 := l6.trans n1; have k5 := l5.trans k6; have k4 := l4.trans k5; have k3 := l3.trans k4; have k2 := l2.trans k3
    refine q _ v9 (.mk S9 (S8.le n9) ?_) ((l1.trans k2))
    refine .cons ⟨_, _, _, rfl, S2.le n3, ⟨_, rfl⟩, .leaf (.int 1) (S1.le n2) ⟨_, rfl⟩⟩ (.cons ⟨_, _, _, rfl, S3.le n4, ⟨_, rfl⟩, ?_⟩ (.cons ⟨_, _, _, rfl, S5.le n6, ⟨_, rfl⟩, .leaf (.obj 0) (S4.le n5) ⟨_, rfl⟩⟩ (.cons ⟨_, _, _, rfl, S7.le n8, ⟨_, rfl⟩, .leaf .nul (S6.le n7) rfl⟩ .nil)))
    refine .mk (T6.le n1) (T5.le k6) (.cons ⟨_, _, _, rfl, T2.le k3, ⟨_, rfl⟩, .leaf (.bool true) (T1.le k2) rfl⟩ (.cons ⟨_, _, _, rfl, T4.le k5, ⟨_, rfl⟩, .leaf (.str (so "")) (T3.le k4) ⟨_, rfl⟩⟩ .nil))
end
end Mine
end
section
open PySem PySem.W PySem.Calls PyProof.Rows Builtin Builtin.ObjectAttr PySem.SeqAt
set_option Elab.async false
set_option maxRecDepth 100000
set_option linter.unusedVariables false
namespace Mine
theorem digit_SS : ∀ n : Nat, n ≤ 8 → Str.ofString (toString ((n : Nat) : Int)) ∈ SS := by decide +kernel
noncomputable def T_looks : ET := (tIte (bCmp .NotEq (tSub (tLoc 1) (tInt 0)) (tStr (so "object"))) (tCmp .NotIn (tSub (tLoc 1) (tInt 1)) (tTup (lCons (tVal .none) (lCons (tVal (.bool false)) (lCons (tInt 0) (lCons (tStr (so "")) lNil)))))) (tVal (.bool true)))
/-- a form without rows -/
inductive Flat0 : Frm → Prop
  | leaf (l : Lf) : Flat0 (.leaf l)
  | nil : Flat0 (.arr [])
section
variable {c : Cx} {A : Around} {u u' : PM} {ρ a l : Addr} {o : Obj} {xs vs : List Value} {Q : Value → PM → Prop} {v w : Value} {t : Tok} {f : Frm} {N : Nat}
theorem getD2' {d : Addr} {o : Obj} {kvs : List (Str × Value)} {x : Str} {dflt r : Value} (e : u d = some o) (hd : o.IsDictOf (strKind pw c.w) kvs) (hs : (d == sysModules) = false) (hr : (valueAt kvs x).getD dflt = r) (q : Q r u) : RU c A (call (.builtin "dict.get") [.ref d, .str x t, dflt]) u Q := getD2 e hd hs (hr ▸ q)
/-- _law_word(form) -/
theorem c_word (R : Room A 1) (hf : FV u f v) (h0 : Flat0 f) (hno : f.word ≠ so "object") {dd : Nat} (hw : WF N dd f) (hN : N ≤ 8) (q : ∀ s t u', s ∈ SS → Le u u' → Q (.str s t) u') : RUc c A (.ref 780) [v] u Q := F__law_word R.lt fun A' D => by
  cases hf with
  | @leaf l a t w h hp =>
    refine fun t0 => inPyT h ⟨rfl, getT h (by decide) (by decide) rfl (fun t1 => ?_)⟩
    cases l with
    | int n =>
      obtain ⟨tn, rfl⟩ := hp
      have hn : n ≤ 8 := by cases hw with | leaf h => exact Nat.le_trans h hN
      refine neS' (r := false) (by kernel_rfl) (trB ⟨kprT, fun t2 => inPyT h ⟨rfl, getT h (by decide) (by decide) rfl (strI ?_ fun t3 => q _ _ _ (digit_SS n hn) (Le.refl _))⟩⟩)
      have : (n : Int).natAbs = n := rfl
      rw [this]
      exact Nat.lt_of_le_of_lt (Nat.log2_le_self n) (by omega)
    | obj i => exact absurd rfl hno
    | nul => exact neS' (r := true) (by kernel_rfl) (trB fun t1 t2 t3 t4 t5 t6 => ⟨by kernel_rfl, of_decide_eq_true (by kernel_rfl), fun D o hD hD0 hDs hDo => fun pl => mGet upd_self hDo ⟨kprB, fun t7 => inPyT (h.le (upd_le hD)) ⟨rfl, getT (h.le (upd_le hD)) (by decide) (by decide) rfl fun t8 => getD2' (r := .str (so "") t2) upd_self hDo hDs (by kernel_rfl) (q _ _ _ (by decide +kernel) (upd_le hD))⟩⟩⟩)
    | bool b => exact neS' (r := true) (by kernel_rfl) (trB fun t1 t2 t3 t4 t5 t6 => ⟨by kernel_rfl, of_decide_eq_true (by kernel_rfl), fun D o hD hD0 hDs hDo => fun pl => mGet upd_self hDo ⟨kprB, fun t7 => inPyT (h.le (upd_le hD)) ⟨rfl, getT (h.le (upd_le hD)) (by decide) (by decide) rfl fun t8 => getD2' (r := .str (so "1") t4) upd_self hDo hDs (by kernel_rfl) (q _ _ _ (by decide +kernel) (upd_le hD))⟩⟩⟩)
    | str s => exact neS' (r := true) (by kernel_rfl) (trB fun t1 t2 t3 t4 t5 t6 => ⟨by kernel_rfl, of_decide_eq_true (by kernel_rfl), fun D o hD hD0 hDs hDo => fun pl => mGet upd_self hDo ⟨kprB, fun t7 => inPyT (h.le (upd_le hD)) ⟨rfl, getT (h.le (upd_le hD)) (by decide) (by decide) rfl fun t8 => getD2' (r := .str (so "x") t8) upd_self hDo hDs (by kernel_rfl) (q _ _ _ (by decide +kernel) (upd_le hD))⟩⟩⟩)
  | arr h hb hl hr hf =>
    refine fun t0 => inPyT h ⟨rfl, getT h (by decide) (by decide) rfl (fun t1 => neS' (r := true) (by kernel_rfl) (trB fun t1 t2 t3 t4 t5 t6 => ⟨by kernel_rfl, of_decide_eq_true (by kernel_rfl), fun D o hD hD0 hDs hDo => fun pl => mGet upd_self hDo ⟨kprB, fun t7 => inPyT (h.le (upd_le hD)) ⟨rfl, getT (h.le (upd_le hD)) (by decide) (by decide) rfl fun t8 => getD2' (r := .str (so "x") t8) upd_self hDo hDs (by kernel_rfl) (q _ _ _ (by decide +kernel) (upd_le hD))⟩⟩⟩))⟩
theorem mem4 {P : Value → Prop} {a b c d : Value} (ha : P a) (hb : P b) (hc : P c) (hd : P d) : ∀ y ∈ [a, b, c, d], P y := fun y hy => by
  rcases List.mem_cons.mp hy with rfl | hy
  · exact ha
  rcases List.mem_cons.mp hy with rfl | hy
  · exact hb
  rcases List.mem_cons.mp hy with rfl | hy
  · exact hc
  · rw [List.mem_singleton.mp hy]; exact hd
/-- looks -/
theorem c_looks {x3 : Option Value} {x2 : Option Value} (R : Room A 0) (hf : FV u f v) (h0 : Flat0 f) (q : ∀ b u', Le u u' → Q (.bool b) u') : T_looks c A [x2, some v, x3, none] u Q := by
  have hu : A.in1.units < cLine := by have := lt_cLine R (n := 1) (by decide); exact this
  obtain ⟨a, t, w, rfl, h⟩ := hf.two
  refine fun t0 => inPyT h ⟨rfl, getT h (by decide) (by decide) rfl (fun t1 => neS' rfl (trB ?_))⟩
  cases hfo : (f.word != so "object") with
  | false => exact q _ _ (Le.refl _)
  | true =>
    refine fun t0 => inPyT h ⟨rfl, getT h (by decide) (by decide) rfl ?_⟩
    intro t2 t3
    refine tupG rfl fun b u1 T l1 => ?_
    have fin : ∀ e : Value → Bool, (∀ h tk, Emb u1 h → ∀ y ∈ [Value.none, .bool false, .int 0 t2, .str (so "") t3], EqAt A.in1 (sh c h tk) y w (e y)) → RU c A (compareOp .NotIn w (.ref b)) u1 Q := fun e he => ninTup e T he (q _ _ l1)
    cases h0 with
    | nil =>
      cases hf with
      | @arr rows a b' t' ys Tf kvf wf h' hb hl hr hf' =>
        have ew : w = .ref b' := by
          obtain ⟨o1, e1, c1, n1, d1⟩ := h
          obtain ⟨o2, e2, c2, n2, d2⟩ := h'
          rw [e1] at e2; cases e2
          rw [d1] at d2; simp at d2; exact d2.1.2
        subst ew
        exact fin (fun _ => false) fun h tk E => mem4 (.none_tuple ((hb.le l1).isTuple E) hu) (.bool_tuple _ ((hb.le l1).isTuple E) hu) (.int_tuple _ _ ((hb.le l1).isTuple E) hu) (.str_tuple _ _ ((hb.le l1).isTuple E) hu)
    | leaf lf =>
      cases hf with
      | leaf _ h' hp =>
        rename_i w'
        have ew : w = w' := by
          obtain ⟨o1, e1, c1, n1, d1⟩ := h
          obtain ⟨o2, e2, c2, n2, d2⟩ := h'
          rw [e1] at e2; cases e2
          rw [d1] at d2; simp at d2; exact d2.1.2
        subst ew
        cases lf with
        | nul =>
          cases hp
          exact fin (fun y => match y with | .none => true | _ => false) fun h tk E => mem4 (.same _) (.bool_none _) (.int_none _ _) (.str_none _ _)
        | bool b0 =>
          cases hp
          exact fin (fun y => match y with | .bool x => x == b0 | .int n _ => n == (if b0 then 1 else 0) | _ => false) fun h tk E => mem4 (.none_bool _) (.bool_bool _ _) (.int_bool _ _ _) (.str_bool _ _ _)
        | int n =>
          obtain ⟨tn, rfl⟩ := hp
          exact fin (fun y => match y with | .bool x => (if x then 1 else 0) == (n : Int) | .int m _ => m == (n : Int) | _ => false) fun h tk E => mem4 (.none_int _ _) (.bool_int _ _ _) (.int_int _ _ _ _) (.str_int _ _ _ _)
        | str s =>
          obtain ⟨tn, rfl⟩ := hp
          exact fin (fun y => match y with | .str x _ => x == s | _ => false) fun h tk E => mem4 (.none_str _ _) (.bool_str _ _ _) (.int_str _ _ _ _) (.str_str _ _ _ _)
        | obj i =>
          have : ((Frm.leaf (Lf.obj i)).word != so "object") = false := by kernel_rfl
          rw [this] at hfo; cases hfo
end
end Mine
end
section
open PySem PySem.W PySem.Calls PyProof.Rows Builtin Builtin.ObjectAttr PySem.SeqAt
set_option Elab.async false
set_option maxRecDepth 100000
set_option linter.unusedVariables false
namespace Mine
noncomputable def T_leaf_rest : ST := (tSeq (tIf (bCmp .Eq (tLoc 2) (tInt 1)) (tSeq (tRet (tTup (lCons (tStr (so "bool")) (lCons (tLoc 3) lNil)))) tNil) tNil) (tSeq (tIf (bCmp .Eq (tLoc 2) (tInt 2)) (tSeq (tRet (tTup (lCons (tStr (so "null")) (lCons (tVal .none) lNil)))) tNil) tNil) (tSeq (tIf (bCmp .Eq (tLoc 2) (tInt 3)) (tSeq (tRet (tIte (bCmp .Eq (tSub (tLoc 1) (tInt 0)) (tStr (so "int"))) (tTup (lCons (tStr (so "int")) (lCons (tBin .Add (tSub (tLoc 1) (tInt 1)) (tInt 1)) lNil))) (tTup (lCons (tStr (so "int")) (lCons (tIte (bVal (tLoc 3)) (tInt 1) (tInt 0)) lNil))))) tNil) tNil) (tSeq (tIf (bCmp .Eq (tLoc 2) (tInt 4)) (tSeq (tRet (tTup (lCons (tStr (so "array")) (lCons (tTup (lCons (tTup (lCons (tInt 0) (lCons (tVal (.bool false)) (lCons (tLoc 1) lNil)))) lNil)) lNil)))) tNil) tNil) (tSeq (tIf (bCmp .Eq (tLoc 2) (tInt 5)) (tSeq (tRet (tTup (lCons (tStr (so "object")) (lCons (tCall (tVal (.ref 766)) (lCons (tLoc 0) (lCons (tInt 2) lNil))) lNil)))) tNil) tNil) (tSeq (tRet (tIte (bCmp .Eq (tLoc 2) (tInt 6)) (tTup (lCons (tStr (so "array")) (lCons (tTup lNil) lNil))) (tLoc 1))) tNil))))))
section
variable {c : Cx} {A : Around} {u u' : PM} {ρ a l : Addr} {o : Obj} {xs vs : List Value} {Q : Value → PM → Prop} {v w : Value} {t : Tok} {f : Frm} {N d : Nat}
theorem leaf_rest {way : Int} {lk : Bool} (R : Room A 1) (hρ : RowR c u ρ) (hf : FV (rst u [ρ]) f v) (h0 : Flat0 f) (hw : WF N (d + 2) f) (q : ∀ g v' u', WF (N + 1) (d + 2) g → FV (rst u' [ρ]) g v' → RowR c u' ρ → Byp ρ u u' → Q v' u') :
    T_leaf_rest c A [some (.ref ρ), some v, some (.int way t), some (.bool lk)] u (fun f _ u' => Q (retOf f) u') := by
  refine fun t1 => eqI' rfl (trB ?_)
  cases way == 1 with
  | true => exact fun t2 => tupR hρ rfl fun a u1 T h1 b1 => q (.leaf (.bool lk)) _ u1 (.leaf trivial) (.leaf _ T rfl) h1 b1
  | false =>
  refine fun t1 => eqI' rfl (trB ?_)
  cases way == 2 with
  | true => exact fun t2 => tupR hρ rfl fun a u1 T h1 b1 => q (.leaf .nul) _ u1 (.leaf trivial) (.leaf _ T rfl) h1 b1
  | false =>
  refine fun t1 => eqI' rfl (trB ?_)
  cases way == 3 with
  | true =>
    have go : ∀ t2 t3 : Tok, RU c A (newTuple [.str (so "int") t2, .int (if lk then 1 else 0) t3]) u Q := fun t2 t3 => tupR hρ rfl fun a u1 T h1 b1 => q (.leaf (.int (if lk then 1 else 0))) _ u1 (.leaf (show (if lk then 1 else 0) ≤ N + 1 by split <;> omega)) (.leaf _ T ⟨t3, by cases lk <;> rfl⟩) h1 b1
    have other : f.word ≠ so "int" → (tIte (bCmp .Eq (tSub (tLoc 1) (tInt 0)) (tStr (so "int"))) (tTup (lCons (tStr (so "int")) (lCons (tBin .Add (tSub (tLoc 1) (tInt 1)) (tInt 1)) lNil))) (tTup (lCons (tStr (so "int")) (lCons (tIte (bVal (tLoc 3)) (tInt 1) (tInt 0)) lNil)))) c A [some (.ref ρ), some v, some (.int way t), some (.bool lk)] u Q := fun hne => by
      obtain ⟨a, tw, w, rfl, h⟩ := hf.two
      have h := h.le rst_le
      refine fun t0 => inPyT h ⟨rfl, getT h (by decide) (by decide) rfl fun t2 => eqS' (r := false) (beq_eq_false_iff_ne.mpr hne) (trB fun t3 => trB ?_)⟩
      cases lk with
      | true => exact fun t4 => go t3 t4
      | false => exact fun t4 => go t3 t4
    cases hf with
    | @leaf l a tw w h hp =>
      cases l with
      | int n =>
        obtain ⟨tn, rfl⟩ := hp
        have h' := h.le rst_le
        refine fun t0 => inPyT h' ⟨rfl, getT h' (by decide) (by decide) rfl fun t2 => eqS' (r := true) (by kernel_rfl) (trB fun t3 t4 => inPyT h' ⟨rfl, getT h' (by decide) (by decide) rfl fun t5 => addI fun t6 => tupR hρ rfl fun a u1 T h1 b1 => ?_⟩)⟩
        refine q (.leaf (.int (n + 1))) _ u1 (.leaf ?_) (.leaf _ T ⟨_, rfl⟩) h1 b1
        cases hw with
        | leaf h => exact Nat.succ_le_succ h
      | nul => exact other (by decide +kernel)
      | bool b => exact other (show so "bool" ≠ so "int" by decide +kernel)
      | str s => exact other (show so "string" ≠ so "int" by decide +kernel)
      | obj i => exact other (show so "object" ≠ so "int" by decide +kernel)
    | arr h hb hl hr hf' => exact other (show so "array" ≠ so "int" by decide +kernel)
  | false =>
  refine fun t1 => eqI' rfl (trB ?_)
  cases way == 4 with
  | true =>
    refine fun t2 t3 => tupR hρ rfl fun a1 u1 T1 h1 b1 => tupR h1 rfl fun a2 u2 T2 h2 b2 => tupR h2 rfl fun a3 u3 T3 h3 b3 => ?_
    refine q (.arr [(.i 0, false, f)]) _ u3 (.arr (by simp) (by simp) (by simp [KS]) fun r hr => ?_) (.mk T3 (T2.le b3) (.cons ⟨_, _, _, rfl, T1.le (b2.trans b3), ⟨_, rfl⟩, hf.le (b1.trans (b2.trans b3))⟩ .nil)) h3 (b1.trans (b2.trans b3))
    rw [List.mem_singleton.mp hr]
    cases h0 with
    | leaf l => cases hw with | leaf h => exact (WF.leaf h).more (Nat.le_succ N)
    | nil => exact .arr (by decide) (by simp) (by simp) (by simp)
  | false =>
  refine fun t1 => eqI' rfl (trB ?_)
  cases way == 5 with
  | true =>
    refine fun t2 => ⟨kp (by decide), fun t3 => (c_digit R hρ (by decide) (by decide) fun dg t4 u1 d0 d1 h1 b1 => tupR h1 rfl fun a u2 T h2 b2 => ?_).ru⟩
    obtain ⟨m, rfl⟩ : ∃ m : Nat, dg = m := ⟨dg.toNat, by omega⟩
    exact q (.leaf (.obj m)) _ u2 (.leaf (show m < 2 by omega)) (.leaf _ T ⟨_, rfl⟩) h2 (b1.trans b2)
  | false =>
  refine fun t1 => eqI' rfl (trB ?_)
  cases way == 6 with
  | true => exact fun t2 => tupR hρ rfl fun a1 u1 T1 h1 b1 => tupR h1 rfl fun a2 u2 T2 h2 b2 => q (.arr []) _ u2 (.arr (by decide) (by simp) (by simp) (by simp)) (.mk T2 (T1.le b2) .nil) h2 (b1.trans b2)
  | false => exact q f v u (hw.more (Nat.le_succ N)) hf hρ (Le.refl _)
/-- _law_leaf(row, form) -/
theorem c_leaf (R : Room A 2) (hρ : RowR c u ρ) (hf : FV (rst u [ρ]) f v) (h0 : Flat0 f) (hw : WF N (d + 2) f) (hN : N ≤ 8) (q : ∀ g v' u', WF (N + 1) (d + 2) g → FV (rst u' [ρ]) g v' → RowR c u' ρ → Byp ρ u u' → Q v' u') : RUc c A (.ref 787) [.ref ρ, v] u Q := F__law_leaf R.lt fun A' D => by
  have R' := R.step D
  refine ⟨kp (by decide), fun t0 => (c_digit R' hρ (by decide) (by decide) fun way t1 u1 d0 d1 h1 b1 => ?_).ru⟩
  have f1 := hf.le b1
  refine c_looks (R'.le (by omega)) (f1.le rst_le) h0 fun lk u2 l2 => ?_
  have h2 := h1.grow l2
  have b2 := b1.trans (h1.byp l2)
  have f2 := f1.le (h1.byp l2)
  have rest : T_leaf_rest c A' [some (.ref ρ), some v, some (.int way t1), some (.bool lk)] u2 (fun f _ u' => Q (retOf f) u') := leaf_rest R' h2 f2 h0 hw fun g v' u' a1 a2 a3 a4 => q g v' u' a1 a2 a3 (b2.trans a4)
  refine fun t2 => eqI' rfl (trB ?_)
  cases way == 0 with
  | false => exact rest
  | true =>
    obtain ⟨a, tw, w, e, h⟩ := f2.two
    subst e
    have h' := h.le rst_le
    refine fun t3 => inPyT h' ⟨rfl, getT h' (by decide) (by decide) rfl fun t4 => neS' rfl (trB ?_)⟩
    cases hfo : (f.word != so "object") with
    | false => exact rest
    | true =>
      refine fun t5 => ⟨kp (by decide), (c_word (R'.le (by omega)) (f2.le rst_le) h0 (by simpa using hfo) hw hN fun s t6 u3 hs l3 => tupR (h2.grow l3) rfl fun a3 u4 T4 h4 b4 => ?_).ru⟩
      exact q (.leaf (.str s)) _ u4 (.leaf hs) (.leaf _ T4 ⟨_, rfl⟩) h4 (b2.trans ((h2.byp l3).trans b4))
end
end Mine
end
section
open PySem PySem.W PySem.Calls PyProof.Rows Builtin Builtin.ObjectAttr PySem.SeqAt
set_option Elab.async false
set_option maxRecDepth 100000
set_option linter.unusedVariables false
namespace Mine
/-! rows that are kept to, turned -/
structure WR (N d : Nat) (rows : List FRow) : Prop where
  len : rows.length ≤ 4
  nd : (rows.map (·.1)).Nodup
  ks : ∀ r ∈ rows, r.1 ∈ KS
  wf : ∀ r ∈ rows, WF N d r.2.2
theorem WR.of {N d : Nat} {rows : List FRow} (h : WF N (d + 1) (.arr rows)) : WR N d rows := by cases h with | arr h1 h2 h3 h4 => exact ⟨h1, h2, h3, h4⟩
theorem WR.to {N d : Nat} {rows : List FRow} (h : WR N d rows) : WF N (d + 1) (.arr rows) := .arr h.len h.nd h.ks h.wf
theorem WR.more {N M d : Nat} {rows : List FRow} (h : WR N d rows) (hm : N ≤ M) : WR M d rows := ⟨h.len, h.nd, h.ks, fun r hr => (h.wf r hr).more hm⟩
theorem WR.rot {N d : Nat} {rows : List FRow} (h : WR N d rows) (n : Nat) : WR N d (rows.drop n ++ rows.take n) := by
  have p : (rows.drop n ++ rows.take n).Perm rows := (List.perm_append_comm).trans (by rw [List.take_append_drop])
  exact ⟨by rw [p.length_eq]; exact h.len, ((p.map (·.1)).nodup_iff).mpr h.nd, fun r hr => h.ks r (p.mem_iff.mp hr), fun r hr => h.wf r (p.mem_iff.mp hr)⟩
theorem WR.erase {N d : Nat} {rows : List FRow} (h : WR N d rows) (n : Nat) : WR N d (rows.eraseIdx n) := by
  have s := List.eraseIdx_sublist rows n
  exact ⟨Nat.le_trans s.length_le h.len, (s.map (·.1)).nodup h.nd, fun r hr => h.ks r (s.subset hr), fun r hr => h.wf r (s.subset hr)⟩
theorem nodup_set {α : Type} {l : List α} (h : l.Nodup) {x : α} (hx : x ∉ l) : ∀ n, (l.set n x).Nodup := by
  induction l with
  | nil => intro n; simp
  | cons y l ih =>
    obtain ⟨h1, h2⟩ := List.nodup_cons.mp h
    have hx1 : x ≠ y := fun e => hx (by rw [e]; exact List.mem_cons_self ..)
    have hx2 : x ∉ l := fun e => hx (List.mem_cons_of_mem _ e)
    intro n
    cases n with
    | zero => exact List.nodup_cons.mpr ⟨hx2, h2⟩
    | succ n =>
      refine List.nodup_cons.mpr ⟨fun hm => ?_, ih h2 hx2 n⟩
      rcases List.mem_or_eq_of_mem_set hm with z | z
      · exact h1 z
      · exact hx1 z.symm
theorem WR.setK {N d n : Nat} {rows : List FRow} (h : WR N d rows) {r : FRow} (h1 : r.1 ∉ rows.map (·.1)) (h2 : r.1 ∈ KS) (h3 : WF N d r.2.2) : WR N d (rows.set n r) := by
  refine ⟨by rw [List.length_set]; exact h.len, ?_, fun x hx => ?_, fun x hx => ?_⟩
  · rw [List.map_set]; exact nodup_set h.nd h1 n
  · rcases List.mem_or_eq_of_mem_set hx with z | z
    · exact h.ks x z
    · rw [z]; exact h2
  · rcases List.mem_or_eq_of_mem_set hx with z | z
    · exact h.wf x z
    · rw [z]; exact h3
theorem WR.setF {N d n : Nat} {rows : List FRow} (h : WR N d rows) {r r0 : FRow} (h0 : rows[n]? = some r0) (h1 : r.1 = r0.1) (h3 : WF N d r.2.2) : WR N d (rows.set n r) := by
  have hm : r0 ∈ rows := List.mem_of_getElem? h0
  refine ⟨by rw [List.length_set]; exact h.len, ?_, fun x hx => ?_, fun x hx => ?_⟩
  · have : (rows.map (·.1)).set n r.1 = rows.map (·.1) := by
      refine List.ext_getElem? fun i => ?_
      rw [List.getElem?_set]
      split
      · rename_i e; subst e
        split
        · rw [List.getElem?_map, h0, h1]; rfl
        · rename_i z; rw [List.getElem?_eq_none (by omega)]
      · rfl
    rw [List.map_set, this]; exact h.nd
  · rcases List.mem_or_eq_of_mem_set hx with z | z
    · exact h.ks x z
    · rw [z, h1]; exact h.ks _ hm
  · rcases List.mem_or_eq_of_mem_set hx with z | z
    · exact h.wf x z
    · rw [z]; exact h3
noncomputable def T_turn_end : ST := (tSeq (tRet (tTup (lCons (tStr (so "array")) (lCons (tCall (tVal (.type "tuple")) (lCons (tLoc 3) lNil)) lNil)))) tNil)
theorem rst_more {u u' : PM} {ρ L : Addr} (h : Byp ρ u u') : Le (rst u [ρ, L]) (rst u' [ρ, L]) := rstS fun b x hb e => by
  have hb1 : b ∉ [ρ] := fun z => hb (by simp at z; simp [z])
  obtain ⟨h1, h2⟩ := of_rst (h b x (rst_some hb1 e))
  exact ⟨h2, hb⟩
theorem rst_less {u : PM} {ρ L : Addr} : Le (rst u [ρ, L]) (rst u [ρ]) := rstS fun b x hb e => ⟨e, fun z => hb (by simp at z; simp [z])⟩
/-- the list of rows in hand -/
structure TS (c : Cx) (u0 u : PM) (ρ L : Addr) (rows : List FRow) : Prop where
  row : RowR c u ρ
  lst : ∃ ys, ML c u L ys ∧ All2 (FRowV (rst u [ρ, L])) rows ys
  ne : L ≠ ρ
  by0 : Le (rst u0 [ρ]) (rst u [ρ, L])
section
variable {c : Cx} {A : Around} {u u0 u' : PM} {ρ a l L : Addr} {o : Obj} {xs vs : List Value} {Q : Value → PM → Prop} {v w : Value} {t : Tok} {f : Frm} {N d : Nat} {rows : List FRow}
theorem TS.byp (S : TS c u0 u ρ L rows) (hρ : RowR c u' ρ) (b : Byp ρ u u') : TS c u0 u' ρ L rows := by
  obtain ⟨ys, m, h⟩ := S.lst
  have mm := rst_more (L := L) b
  obtain ⟨n, e⟩ := m.e
  refine ⟨hρ, ⟨ys, ⟨⟨n, (of_rst (b L _ (rst_some (by simpa using S.ne) e))).2⟩, m.h⟩, h.mono fun x y _ z => z.le mm⟩, S.ne, S.by0.trans mm⟩
theorem TS.grow (S : TS c u0 u ρ L rows) (l : Le u u') : TS c u0 u' ρ L rows := S.byp (S.row.grow l) (S.row.byp l)
theorem TS.bypG (S : TS c u0 u ρ L rows) (l : Le u u') : Le (rst u [ρ, L]) (rst u' [ρ, L]) := rst_more (S.row.byp l)
theorem TS.store {ys' : List Value} {rows' : List FRow} {n : Nat} (S : TS c u0 u ρ L rows) (h : All2 (FRowV (rst u [ρ, L])) rows' ys') : TS c u0 (upd u L (lstOf ys' n)) ρ L rows' := by
  obtain ⟨ys, m, _⟩ := S.lst
  have k : Le (rst u [ρ, L]) (rst (upd u L (lstOf ys' n)) [ρ, L]) := rstS fun b x hb e => ⟨(upd_ne fun z => hb (by simp [z])).trans e, hb⟩
  obtain ⟨n0, t0, h0, mr⟩ := S.row
  exact ⟨⟨n0, t0, h0, mr.ne S.ne.symm⟩, ⟨ys', ⟨⟨n, upd_self⟩, m.h⟩, h.mono fun x y _ z => z.le k⟩, S.ne, S.by0.trans k⟩
theorem turn_end {ss : List (Option Value)} (R : Room A 0) (hρ : RowR c u ρ) (hv : nth ss 3 = some (.ref L)) (hL : Lst u L xs) (hr : All2 (FRowV (rst u [ρ])) rows xs) (hw : WR N (d + 1) rows) (b : Byp ρ u0 u) (q : ∀ g v' u', WF N (d + 2) g → FV (rst u' [ρ]) g v' → RowR c u' ρ → Byp ρ u0 u' → Q v' u') :
    T_turn_end c A ss u (fun f _ u' => Q (retOf f) u') := by
  have hxl : xs.length ≤ 4 := by rw [hr.len]; exact hw.len
  refine fun t0 => ⟨kprT, ?_⟩
  show tLoc 3 c A ss u _
  unfold tLoc
  rw [hv]
  refine tupL hL (lenSz (by omega)) fun a o ha La => ?_
  have h1 := hρ.grow (upd_le ha (o := o))
  have b1 := hρ.byp (upd_le ha (o := o))
  refine tupR h1 rfl fun a2 u2 T2 h2 b2 => ?_
  have T1 : Tup (rst (upd u a o) [ρ]) a xs := ⟨o, rst_some (hρ.ne ha) upd_self, La⟩
  exact q _ _ u2 hw.to (.mk T2 (T1.le b2) (hr.mono fun x y _ z => z.le (b1.trans b2))) h2 (b.trans (b1.trans b2))
end
end Mine
end
section
open PySem PySem.W PySem.Calls PyProof.Rows Builtin Builtin.ObjectAttr PySem.SeqAt
set_option Elab.async false
set_option maxRecDepth 100000
set_option linter.unusedVariables false
namespace Mine
noncomputable def cands : List Key := [.i 9, .s (so "9a"), .i 10, .s (so "b"), .i 11]
noncomputable def keyIs (k : Key) (v : Value) : Bool := match v, k with
  | .int n _, .i m => n == m
  | .str x _, .s y => x == y
  | _, _ => false
theorem keyIs_at {A : Around} {s : Shared} {k k' : Key} {v w : Value} (hv : KeyV k v) (hw : KeyV k' w) : EqAt A s w v (keyIs k w) := by
  cases k <;> cases k' <;> obtain ⟨t, rfl⟩ := hv <;> obtain ⟨t', rfl⟩ := hw
  · exact .int_int _ _ _ _
  · exact .str_int _ _ _ _
  · exact .int_str _ _ _ _
  · exact .str_str _ _ _ _
theorem keyIs_iff {k k' : Key} {w : Value} (hw : KeyV k' w) : keyIs k w = true ↔ k' = k := by
  cases k <;> cases k' <;> obtain ⟨t', rfl⟩ := hw <;> simp [keyIs]
theorem cand_free {ks : List Key} (h : ks.length ≤ 4) : cands.filter (fun k => !ks.contains k) ≠ [] := fun z => by
  have sub : cands ⊆ ks := fun k hk => by
    have := List.filter_eq_nil_iff.mp z k hk
    simpa using this
  have := List.Nodup.length_le_of_subset (show cands.Nodup by decide +kernel) sub
  have e : cands.length = 5 := rfl
  omega
theorem cands_KS : ∀ k ∈ cands, k ∈ KS := by decide +kernel
noncomputable def T_keys : ET := (tComp 0 (tLoc 3) (gSlot 0) bTrue (tSub (tLoc 0) (tInt 0)) 1 [])
noncomputable def T_new : ET := (tComp 0 (tLst (lCons (tInt 9) (lCons (tStr (so "9a")) (lCons (tInt 10) (lCons (tStr (so "b")) (lCons (tInt 11) lNil)))))) (gSlot 0) (bCmp .NotIn (tLoc 0) (tLoc 1)) (tLoc 0) 1 [9])
section
variable {c : Cx} {A : Around} {u u0 u' : PM} {ρ a l L : Addr} {o : Obj} {xs : List Value} {Q : Value → PM → Prop} {v w : Value} {t : Tok} {f : Frm} {N d : Nat} {rows : List FRow} {ss : List (Option Value)}
theorem tLocI {Q : Value → PM → Prop} {i : Nat} (hv : nth ss i = some v) (q : Q v u) : tLoc i c A ss u Q := by unfold tLoc; rw [hv]; exact q
/-- keys = [one[0] for one in rows] -/
theorem c_keys (R : Room A 0) (hv : nth ss 3 = some (.ref L)) (hL : Lst u L xs) (hr : All2 (FRowV u) rows xs) (hz : rows.length ≤ 4) (q : ∀ D kv u', Le u u' → Lst u' D kv → KeysV kv (rows.map (·.1)) → Q (.ref D) u') : T_keys c A ss u Q := by
  obtain ⟨o, e, Lo⟩ := hL
  have hxl : xs.length = rows.length := hr.len
  unfold T_keys tComp
  refine tLocI hv ⟨_, _, _, _, (fun tgt _ => iterList R.h e Lo), lenSz (by omega), fun i acc vs1 u1 => Le u u1 ∧ KeysV acc ((rows.take i).map (·.1)) ∧ ∃ x, vs1 = [x], ⟨Le.refl u, ⟨rfl, fun i k z => by cases z⟩, none, rfl⟩, ?_, ?_⟩
  · rintro i acc v vs1 u2 u3 hi ⟨l2, hk, x, rfl⟩ hH l23 hP
    rw [hxl] at hi
    obtain ⟨y, hy, T, kv, w, rfl, hT, hkv, -⟩ := hr.get i rows[i] (by simp [hi])
    rw [hy] at hP
    cases hP
    have T3 := hT.le (l2.trans l23)
    refine fun t1 => inPyT T3 ⟨rfl, getT T3 (by decide) (by decide) rfl ⟨fun p hp => l23 _ _ (hH p hp), l2.trans l23, ?_, _, rfl⟩⟩
    rw [List.take_add_one, show rows[i]? = some rows[i] by simp [hi], List.map_append]
    exact hk.app hkv
  · rintro acc vs1 u2 D o2 ⟨l2, hk, -⟩ hH hD h0 hDo
    rw [List.take_of_length_le (by omega)] at hk
    exact q D acc _ (l2.trans (upd_le hD)) ⟨o2, upd_self, hDo⟩ hk
/-- [k for k in [..] if k not in keys] -/
theorem c_new {D : Addr} {kv : List Value} {ks : List Key} (R : Room A 0) (hv : nth ss 9 = some (.ref D)) (hD : Lst u D kv) (hk : KeysV kv ks) (hz : ks.length ≤ 4) (q : ∀ E acc u', Le u u' → Lst u' E acc → KeysV acc (cands.filter (fun k => !ks.contains k)) → Q (.ref E) u') : T_new c A ss u Q := by
  refine fun t1 t2 t3 t4 t5 => lstN sz0 fun C oC hC hC0 LC => ?_
  have hl := upd_le hC (o := oC)
  have hcv : KeysV [.int 9 t1, .str (so "9a") t2, .int 10 t3, .str (so "b") t4, .int 11 t5] cands := by
    refine ⟨rfl, fun i k e => ?_⟩
    match i, e with
    | 0, e => cases e; exact ⟨_, rfl, _, rfl⟩
    | 1, e => cases e; exact ⟨_, rfl, _, rfl⟩
    | 2, e => cases e; exact ⟨_, rfl, _, rfl⟩
    | 3, e => cases e; exact ⟨_, rfl, _, rfl⟩
    | 4, e => cases e; exact ⟨_, rfl, _, rfl⟩
    | i + 5, e => simp [cands] at e
  refine ⟨_, _, _, _, (fun tgt _ => iterList R.h upd_self LC), lenSz (by simp), fun i acc vs1 u1 => Le u u1 ∧ KeysV acc ((cands.take i).filter (fun k => !ks.contains k)) ∧ ∃ x, vs1 = [x, nth ss 9], ⟨hl, ⟨rfl, fun i k z => by cases z⟩, none, rfl⟩, ?_, ?_⟩
  · rintro i acc v vs1 u2 u3 hi ⟨l2, hA, x, rfl⟩ hH l23 hP
    have hi' : i < cands.length := hi
    obtain ⟨cv, h1, h2⟩ := hcv.2 i cands[i] (by simp [hi'])
    rw [h1] at hP
    cases hP
    unfold gSlot bCmp
    refine tLocI (v := v) rfl (tLocI (v := .ref D) hv ?_)
    have hu : A.in1.units < cLine := by have := lt_cLine R (n := 1) (by decide); exact this
    have hany : (kv.any (keyIs cands[i])) = ks.contains cands[i] := by
      rw [Bool.eq_iff_iff, List.any_eq_true, List.contains_iff_mem]
      constructor
      · rintro ⟨y, hy, he⟩
        obtain ⟨j, hj, rfl⟩ := List.getElem_of_mem hy
        have hj' : j < ks.length := by rw [← hk.1]; exact hj
        obtain ⟨y', h3, h4⟩ := hk.2 j ks[j] (by simp [hj'])
        rw [show kv[j]? = some kv[j] by simp [hj]] at h3
        cases h3
        rw [← (keyIs_iff h4).mp he]; exact List.getElem_mem hj'
      · intro hm
        obtain ⟨j, hj, hje⟩ := List.getElem_of_mem hm
        obtain ⟨y', h3, h4⟩ := hk.2 j ks[j] (by simp [hj])
        exact ⟨y', List.mem_of_getElem? h3, (keyIs_iff h4).mpr hje⟩
    have hst : (cands.take (i + 1)).filter (fun k => !ks.contains k) = (cands.take i).filter (fun k => !ks.contains k) ++ (if (!ks.contains cands[i]) = true then [cands[i]] else []) := by
      rw [List.take_add_one, show cands[i]? = some cands[i] by simp [hi'], List.filter_append]
      congr 1
      show List.filter _ [cands[i]] = _
      rw [List.filter_cons]
      split <;> rfl
    refine ninLst (keyIs cands[i]) (hD.le (l2.trans l23)) (fun h tk E y hy => ?_) (trB ?_)
    · obtain ⟨j, hj, rfl⟩ := List.getElem_of_mem hy
      have hj' : j < ks.length := by rw [← hk.1]; exact hj
      obtain ⟨y', h3, h4⟩ := hk.2 j ks[j] (by simp [hj'])
      rw [show kv[j]? = some kv[j] by simp [hj]] at h3
      cases h3
      exact keyIs_at h2 h4
    · rw [hany]
      cases hb : ks.contains cands[i] with
      | true =>
        rw [hb, if_neg (by decide), List.append_nil] at hst
        exact ⟨fun p hp => l23 _ _ (hH p hp), l2.trans l23, by rw [hst]; exact hA, _, rfl⟩
      | false =>
        rw [hb, if_pos (show (!false) = true from rfl)] at hst
        exact ⟨fun p hp => l23 _ _ (hH p hp), l2.trans l23, by rw [hst]; exact hA.app h2, _, rfl⟩
  · rintro acc vs1 u2 E o2 ⟨l2, hA, -⟩ hH hE h0 hEo
    exact q E acc _ (l2.trans (upd_le hE)) ⟨o2, upd_self, hEo⟩ hA
end
end Mine
end
section
open PySem PySem.W PySem.Calls PyProof.Rows Builtin Builtin.ObjectAttr PySem.SeqAt
set_option Elab.async false
set_option maxRecDepth 100000
set_option linter.unusedVariables false
namespace Mine
section
variable {c : Cx} {u u0 u' : PM} {ρ a l L : Addr} {o : Obj} {xs : List Value} {v w : Value} {f : Frm} {N : Nat} {rows : List FRow} {ss : List (Option Value)}
theorem Tup.offL {xs ys : List Value} (m : ML c u L ys) (h : Tup (rst u [ρ]) a xs) : Tup (rst u [ρ, L]) a xs := by
  obtain ⟨o, e, hc, n, hd⟩ := h
  obtain ⟨e1, e2⟩ := of_rst e
  refine ⟨o, rst_some (fun z => ?_) e2, hc, n, hd⟩
  rcases List.mem_cons.mp z with z | z
  · exact e1 (by simp [z])
  · obtain ⟨k, e3⟩ := m.e
    rw [List.mem_singleton.mp z, e3] at e2
    have h1 := (congrArg Obj.cls (Option.some.inj e2)).trans hc
    exact absurd h1 (by simp)
theorem FV.offL {ys : List Value} (m : ML c u L ys) (h : FV (rst u [ρ]) f v) : FV (rst u [ρ, L]) f v := by
  induction h with
  | leaf l h hp => exact .leaf l (Tup.offL m h) hp
  | arr h hb hl hr hf ih => exact .arr (Tup.offL m h) (Tup.offL m hb) hl (fun i k r f e => let ⟨x, y, z⟩ := hr i k r f e; ⟨x, Tup.offL m y, z⟩) ih
/-- rows[at] = a new tuple -/
theorem put_row {A : Around} {P : Unit → PM → Prop} {t : Tok} {i : Nat} {k : Key} {r : Bool} {g : Frm} {kv w : Value} (S : TS c u0 u ρ L rows) (hz : rows.length ≤ 4) (hi : i < rows.length) (hk : KeyV k kv) (hg : FV (rst u [ρ, L]) g w) (q : ∀ u', TS c u0 u' ρ L (rows.set i (k, r, g)) → P () u') :
    RU c A (newTuple [kv, .bool r, w]) u (fun T u1 => RU c A (setItem (.ref L) (.int i t) T) u1 P) :=
  tupN sz0 fun a o ha La => by
    have S1 := S.grow (upd_le ha (o := o))
    have b1 := S.bypG (upd_le ha (o := o))
    obtain ⟨ys, m, h⟩ := S1.lst
    obtain ⟨n, e⟩ := m.e
    have hyl := h.len
    have haL : a ∉ [ρ, L] := fun z => by
      rcases List.mem_cons.mp z with z | z
      · exact S.row.ne ha (by simp [z])
      · obtain ⟨ys0, m0, _⟩ := S.lst
        exact m0.lt ha (List.mem_singleton.mp z).symm
    refine setL e m.h (by omega) (big (by omega)) (by omega) fun n' => ?_
    refine q _ (S1.store (h.set ⟨a, kv, w, rfl, ⟨o, rst_some haL upd_self, La⟩, hk, hg.le b1⟩ i))
theorem len0 {A : Around} {Q : Value → PM → Prop} {ys : List Value} {b z : Addr} {r : Bool} (R : Room A 0) (hb : Tup u b ys) (hz : Tup u z []) (hr : (ys.length == 0) = r) (q : Q (.bool r) u) : RU c A (compareOp .Eq (.ref b) (.ref z)) u Q :=
  eqBy (r := r) (fun h tk E => by
    have := RcAt.tuples (A := A) (s := sh c h tk) (e := fun _ => true) (hb.isTuple E) (hz.isTuple E) (by have := lt_cLine R (n := 0) (by decide); omega) (fun j h1 h2 => by simp at h2)
    simp at this
    rw [← hr]
    exact this) q
noncomputable abbrev T_newrow : ST := (tAss (tTup (lCons (tSub T_new (tInt 0)) (lCons (tLoc 7) (lCons (tLoc 8) lNil)))) (gSub (tLoc 3) (tLoc 5)))
theorem c_newrow {A : Around} {D : Addr} {kv : List Value} {ks : List Key} {v3 v5 v7 v8 : Value} {Q : Flow → List (Option Value) → PM → Prop} (R : Room A 0) (hv : nth ss 9 = some (.ref D)) (h3 : nth ss 3 = some v3) (h5 : nth ss 5 = some v5) (h7 : nth ss 7 = some v7) (h8 : nth ss 8 = some v8) (hD : Lst u D kv) (hk : KeysV kv ks) (hz : ks.length ≤ 4)
    (q : ∀ kv' k' u7, Le u u7 → KeyV k' kv' → k' ∉ ks → k' ∈ KS → RU c A (newTuple [kv', v7, v8]) u7 fun T u1 => RU c A (setItem v3 v5 T) u1 fun _ u2 => Q .next ss u2) : tSeq T_newrow tNil c A ss u Q := by
  unfold tSeq T_newrow tAss tTup lCons tSub
  refine c_new R hv hD hk hz fun Ea acc u7 l7 hEa hacc => ?_
  obtain ⟨k', hk'⟩ : ∃ k', (cands.filter (fun k => !ks.contains k))[0]? = some k' := by
    have := cand_free (ks := ks) hz
    cases e : cands.filter (fun k => !ks.contains k) with
    | nil => exact absurd e this
    | cons x r => exact ⟨x, rfl⟩
  obtain ⟨kv', hv1, hv2⟩ := hacc.2 0 k' hk'
  have hkm := List.mem_filter.mp (List.mem_of_getElem? hk')
  refine fun t10 => inPyL hEa ⟨rfl, getL hEa (by decide) (by decide) hv1 (tLocI h7 (tLocI h8 ?_))⟩
  refine RU.mono (q kv' k' u7 l7 hv2 (by simpa using hkm.2) (cands_KS _ hkm.1)) fun T u8 h => ?_
  unfold gSub
  exact tLocI h3 (tLocI h5 h)
noncomputable def TurnOk (c : Cx) (ρ : Addr) (N d : Nat) : Prop := ∀ (A : Around) (u : PM) (f : Frm) (v : Value) (t : Tok) (Q : Value → PM → Prop), Room A (d + 4) → RowR c u ρ → FV (rst u [ρ]) f v → WF N (d + 2) f → (∀ g v' u', WF (N + 1) (d + 2) g → FV (rst u' [ρ]) g v' → RowR c u' ρ → Byp ρ u u' → Q v' u') → RUc c A (.ref 792) [.ref ρ, v, .int d t] u Q
theorem turned_step (d : Nat) (hN : N ≤ 8) (ih : ∀ d', d = d' + 1 → TurnOk c ρ N d') : TurnOk c ρ N d := fun A u f v t Q R hρ hf hw q => F__law_turned R.lt fun A' D => by
  have R' : Room A' (d + 3) := R.step D
  cases hff : f with
  | leaf l =>
    subst hff
    obtain ⟨a, tw, w, rfl, h⟩ := hf.two
    have h' := h.le rst_le
    refine fun t0 => inPyT h' ⟨rfl, getT h' (by decide) (by decide) rfl fun t1 => neS' (r := true) (by cases l <;> kernel_rfl) (trB ⟨kp (by decide), (c_leaf (R'.le (by omega)) hρ hf (.leaf l) hw hN q).ru⟩)⟩
  | arr rows =>
    subst hff
    have hf0 := hf
    obtain ⟨a, b, tw, ys, rfl, h, hb, hr⟩ := hf.rows
    have hyl := hr.len
    have h' := h.le rst_le
    refine fun t0 => inPyT h' ⟨rfl, getT h' (by decide) (by decide) rfl fun t1 => neS' (r := false) (by kernel_rfl) (trB fun t2 => inPyT h' ⟨rfl, getT h' (by decide) (by decide) rfl ?_⟩)⟩
    refine tupG rfl fun z u1 Tz l1 => ?_
    have h1 := hρ.grow l1
    have b1 := hρ.byp l1
    refine len0 (R'.le (by omega)) ((hb.le rst_le).le l1) Tz rfl (trB ?_)
    cases hz : (ys.length == 0) with
    | true =>
      have hr0 : rows = [] := List.eq_nil_of_length_eq_zero (by rw [← hyl]; exact beq_iff_eq.mp hz)
      subst hr0
      exact ⟨kp (by decide), (c_leaf (R'.le (by omega)) h1 (hf0.le b1) .nil hw hN fun g v' u' a1 a2 a3 a4 => q g v' u' a1 a2 a3 (b1.trans a4)).ru⟩
    | false =>
      have hpos : 0 < rows.length := by rw [← hyl]; have := beq_eq_false_iff_ne.mp hz; omega
      have W := WR.of hw
      have W4 := W.len
      have h1' := (h.le b1).le rst_le
      refine ⟨kprT, fun t3 => inPyT h1' ⟨rfl, getT h1' (by decide) (by decide) rfl (lstT' ((hb.le b1).le rst_le) (lenSz (by omega)) fun L oL hL hL0 LL => ?_)⟩⟩
      have hLρ : L ≠ ρ := fun z => h1.ne hL (by simp [z])
      have b2 : Le (rst u [ρ]) (rst (upd u1 L oL) [ρ, L]) := rstS fun x ob hb e => by
        obtain ⟨e1, e2⟩ := of_rst (b1 x ob (rst_some hb e))
        have : x ≠ L := fun z => by rw [z, hL] at e2; cases e2
        exact ⟨(upd_ne this).trans e2, fun z => by simp [this] at z; exact hb (by simp [z])⟩
      have S : TS c u (upd u1 L oL) ρ L rows := ⟨h1.grow (upd_le hL), ⟨ys, ML.new hL0 LL, hr.mono fun x y _ z => z.le b2⟩, hLρ, b2⟩
      generalize upd u1 L oL = u2 at S
      clear b2 LL oL hL
      refine ⟨kp (by decide), fun t4 => (c_digit (R'.le (by omega)) S.row (by decide) (by decide) fun way t5 u3 w0 w1 h3 b3 => ?_).ru⟩
      have S3 := S.byp h3 b3
      refine tupG rfl fun pr u4 Tp l4 => unpT (n := 2) Tp rfl (R'.le (Nat.zero_le _)).h ?_
      have S4 := S3.grow l4
      have hlen4 : Lst u4 L _ := (Classical.choose_spec S4.lst).1.lst
      have hcl : (Classical.choose S4.lst).length = rows.length := (Classical.choose_spec S4.lst).2.len
      refine ⟨kp (by decide), kprB, lenL hlen4 (big (by omega)) fun t6 => (c_digit (R'.le (by omega)) S4.row (by omega) (by omega) fun ai t7 u5 a0 a1 h5 b5 => ?_).ru⟩
      have S5 := S4.byp h5 b5
      rw [hcl] at a1
      obtain ⟨i, rfl⟩ : ∃ i : Nat, ai = i := ⟨ai.toNat, by omega⟩
      have hi : i < rows.length := by omega
      obtain ⟨ys5, m5, hr5⟩ := id S5.lst
      obtain ⟨y, hy, T, kv, w, rfl, hT, hk, hfi⟩ := hr5.get i rows[i] (by simp [hi])
      have ei : rows[i]? = some rows[i] := by simp [hi]
      have hmi : rows[i] ∈ rows := List.getElem_mem hi
      refine inPyL m5.lst ⟨rfl, getL m5.lst (by omega) (big (by omega)) (by simpa using hy) (unpT (n := 3) (hT.le rst_le) rfl (R'.le (Nat.zero_le _)).h ?_)⟩
      -- the end, from any state
      have fin : ∀ u6 rows', TS c u u6 ρ L rows' → WR (N + 1) (d + 1) rows' → ∀ ss : List (Option Value), nth ss 3 = some (.ref L) → T_turn_end c A' ss u6 (fun f _ u' => Q (retOf f) u') := fun u6 rows' S6 W6 ss hs => by
        obtain ⟨ys6, m6, hr6⟩ := S6.lst
        exact turn_end (R'.le (Nat.zero_le _)) S6.row hs m6.lst (hr6.mono fun x y _ z => z.le rst_less) W6 (S6.by0.trans rst_less) q
      have W1 : WR (N + 1) (d + 1) rows := W.more (Nat.le_succ N)
      generalize hri : rows[i] = ri at ei hmi hT hk hfi
      obtain ⟨k, r, g⟩ := ri
      refine fun t8 => eqI' rfl (trB ?_)
      cases way == 0 with
      | true =>
        refine newSlc fun sl o1 hsl ho1 => ?_
        have l6 := upd_le hsl (o := o1)
        refine inPyL (m5.lst.le l6) ⟨rfl, slcL (m5.lst.le l6) upd_self ho1 (.int _ _) .none (lenSz (by rw [hr5.len]; omega)) fun La oa hLa hLa0 LLa => ?_⟩
        have l7 := upd_le hLa (o := oa)
        refine newSlc fun sl2 o2 hsl2 ho2 => ?_
        have l8 := upd_le hsl2 (o := o2)
        have m8 := m5.lst.le (l6.trans (l7.trans l8))
        refine inPyL m8 ⟨rfl, slcL m8 upd_self ho2 .none (.int _ _) (lenSz (by rw [hr5.len]; omega)) fun Lb ob hLb hLb0 LLb => ?_⟩
        have l9 := upd_le hLb (o := ob)
        have hA : Lst (upd (upd (upd (upd u5 sl o1) La oa) sl2 o2) Lb ob) La (ys5.drop i) := by
          refine (Lst.le ?_ (l8.trans l9))
          refine ⟨oa, upd_self, ?_⟩
          rw [slicePick_from'] at LLa
          simpa using LLa
        have hB : Lst (upd (upd (upd (upd u5 sl o1) La oa) sl2 o2) Lb ob) Lb (ys5.take i) := by
          refine ⟨ob, upd_self, ?_⟩
          rw [slicePick_upto'] at LLb
          simpa using LLb
        refine addL hA hB (by have := hr5.len; rw [sizeLine_eq]; simp; omega) fun Lc oc hLc hLc0 LLc => ?_
        have l10 := upd_le hLc (o := oc)
        have l5 := l6.trans (l7.trans (l8.trans (l9.trans l10)))
        have S6 := S5.grow l5
        have b6 := (S5.bypG l5)
        refine turn_end (rows := rows.drop i ++ rows.take i) (R'.le (Nat.zero_le _)) S6.row rfl ⟨oc, upd_self, LLc⟩ (((hr5.drop i).app (hr5.take i)).mono fun x y _ z => (z.le b6).le rst_less) (W1.rot i) (S6.by0.trans rst_less) q
      | false =>
      refine fun t9 => eqI' rfl (trB ?_)
      cases way == 1 with
      | true =>
        obtain ⟨n5, e5⟩ := m5.e
        refine fun pl => mPop m5.lst ⟨kprB, popL e5 m5.h (lenSz (by rw [hr5.len]; omega)) (by omega) (by omega) (by simpa using hy) fun n' => ?_⟩
        exact fin _ _ (S5.store (hr5.erase i)) (W1.erase i) _ rfl
      | false =>
      refine fun t9 => eqI' rfl (trB ?_)
      cases way == 2 with
      | true =>
        refine c_keys (R'.le (Nat.zero_le _)) (L := L) (by rfl) m5.lst (hr5.mono fun x y _ z => z.le rst_le) W4 fun Dk kvs u6 l6 hDk hkv => ?_
        have S6 := S5.grow l6
        dsimp only [gSlot]
        refine c_newrow (R'.le (Nat.zero_le _)) (D := Dk) rfl rfl rfl rfl rfl hDk hkv (by simp; omega) fun kv' k' u7 l7 hv2 hk1 hk2 => ?_
        have S7 := S6.grow l7
        have b57 := (S5.bypG (l6.trans l7))
        exact put_row (k := k') (r := r) (g := g) S7 W4 hi hv2 (hfi.le b57) fun u8 S8 => fin _ _ S8 (W1.setK hk1 hk2 (W1.wf (k, r, g) hmi)) _ rfl
      | false =>
      refine fun t9 => eqI' rfl (trB ?_)
      cases way == 3 with
      | true =>
        refine notB ?_
        exact put_row (k := k) (r := !r) (g := g) S5 W4 hi hk hfi fun u8 S8 => fin _ _ S8 (W1.setF ei rfl (W1.wf (k, r, g) hmi)) _ rfl
      | false =>
      refine fun t9 => gtI' rfl (trB ?_)
      cases hd : decide ((0 : Int) < (d : Int)) with
      | false => exact fin _ _ S5 W1 _ rfl
      | true =>
        have hd' := of_decide_eq_true hd
        obtain ⟨d', rfl⟩ : ∃ d', d = d' + 1 := ⟨d - 1, by omega⟩
        refine ⟨kp (by decide), fun t10 => subI fun t11 => ?_⟩
        have e1 : ((d' + 1 : Nat) : Int) - 1 = (d' : Int) := by omega
        rw [e1]
        refine (ih d' rfl _ _ g w t11 _ (R'.le (by omega)) S5.row (hfi.le rst_less) (W.wf _ hmi) fun g' v' u6 w6 f6 h6 b6 => ?_).ru
        have S6 := S5.byp h6 b6
        obtain ⟨ys6, m6, _⟩ := S6.lst
        exact put_row (k := k) (r := r) (g := g') S6 W4 hi hk (FV.offL m6 f6) fun u8 S8 => fin _ _ S8 (W1.setF ei rfl w6) _ rfl
theorem c_turned (hN : N ≤ 8) : ∀ d, TurnOk c ρ N d
  | 0 => turned_step 0 hN fun d' e => by omega
  | d + 1 => turned_step (d + 1) hN fun d' e => by
    have : d' = d := by omega
    subst this; exact c_turned hN d'
end
end Mine
end
section
open PySem PySem.W PySem.Calls PyProof.Rows Builtin Builtin.ObjectAttr PySem.SeqAt
set_option Elab.async false
set_option maxRecDepth 100000
set_option linter.unusedVariables false
namespace Mine
/-- the two objects and their class -/
structure ObjsOk (c : Cx) (u : PM) (O : Nat → Addr) : Prop where
  o : ∀ i : Nat, i < 2 → ∃ dx kx kdx vs kvs t t', Ins c u (O i) dx 168 nObj (some (.ref kx) :: some (.int i t) :: vs) ∧ Ins c u kx kdx 571 nKls kvs ∧ nth kvs 0 = some (.str (so "A") t')
  ne : O 0 ≠ O 1
theorem ObjsOk.le {c : Cx} {u u' : PM} {O : Nat → Addr} (h : ObjsOk c u O) (l : Le u u') : ObjsOk c u' O := ⟨fun i hi => let ⟨dx, kx, kdx, vs, kvs, t, t', h1, h2, h3⟩ := h.o i hi; ⟨dx, kx, kdx, vs, kvs, t, t', h1.le l, h2.le l, h3⟩, h.ne⟩
/-- a slot holds a value: plainly, or through a reference -/
noncomputable def SlotIs (c : Cx) (u : PM) (r : Bool) (s w : Value) : Prop := match r with
  | true => ∃ x dx vs, s = .ref x ∧ Ins c u x dx 125 nRef (some w :: vs)
  | false => s = w
theorem SlotIs.le {c : Cx} {u u' : PM} {r : Bool} {s w : Value} (h : SlotIs c u r s w) (l : Le u u') : SlotIs c u' r s w := by
  cases r with
  | false => exact h
  | true => obtain ⟨x, dx, vs, e, I⟩ := h; exact ⟨x, dx, vs, e, I.le l⟩
/-- a thing made after a form; B holds of each array in it, and no array holds itself -/
inductive TV (c : Cx) (u : PM) (O : Nat → Addr) : (Addr → Prop) → Frm → Value → Prop
  | leaf {B : Addr → Prop} (l : Lf) {v : Value} (h : l.pay v) (hno : ∀ i, l ≠ .obj i) : TV c u O B (.leaf l) v
  | obj {B : Addr → Prop} (i : Nat) (hi : i < 2) : TV c u O B (.leaf (.obj i)) (.ref (O i))
  | arr {B : Addr → Prop} {rows : List FRow} {a dx : Addr} {F : AF} {srows : List Row} {w : Nat → Value} (hB : B a) (M : ArrM c u a dx F srows) (hl : srows.length = rows.length)
      (hr : ∀ (i : Nat) (k : Key) (r : Bool) (f : Frm), rows[i]? = some (k, r, f) → ∃ s, srows[i]? = some (k, s) ∧ SlotIs c u r s (w i)) (hf : ∀ (i : Nat) (k : Key) (r : Bool) (f : Frm), rows[i]? = some (k, r, f) → TV c u O (fun b => B b ∧ b ≠ a) f (w i)) : TV c u O B (.arr rows) (.ref a)
noncomputable abbrev tt : Addr → Prop := fun _ => True
/-- a row of a form and a row of an array -/
noncomputable def SR (c : Cx) (u : PM) (O : Nat → Addr) (B : Addr → Prop) (x : FRow) (y : Row) : Prop := y.1 = x.1 ∧ ∃ w, SlotIs c u x.2.1 y.2 w ∧ TV c u O B x.2.2 w
noncomputable def Frm.vk : Frm → VK
  | .leaf .nul => .leaf "NoneType"
  | .leaf (.bool _) => .leaf "bool"
  | .leaf (.int _) => .leaf "int"
  | .leaf (.str _) => .leaf "str"
  | .leaf (.obj _) => .obj
  | .arr _ => .arr
theorem vk125 (f : Frm) : f.vk.isI 125 = false := by cases f with | leaf l => cases l <;> rfl | arr _ => rfl
theorem vk147 (f : Frm) : f.vk.isI 147 = false := by cases f with | leaf l => cases l <;> rfl | arr _ => rfl
theorem RU.frame {α : Type} {c : Cx} {A : Around} {t : Sem α} {u : PM} {o : List Addr} {Q : α → PM → Prop} (ho : ∀ b ∈ o, u b ≠ none) (x : RU c A t (rst u o) (fun v u1 => ∀ u', Le u1 (rst u' o) → (∀ b ∈ o, u' b = u b) → Q v u')) : RU c A t u Q := fun h tk B E =>
  wpAny_mono (x h tk B fun b ob e => E b ob (rst_le _ _ e)) (fun v s z => by
    obtain ⟨h1, tk1, u1, rfl, q, E1, B1, K1⟩ := z
    have hk : ∀ b ob, b ∈ o → u b = some ob → h1.get? b = some ob ∧ u1 b = none := fun b ob hb e => K1 b ob (by unfold rst; rw [if_pos hb]) (E _ _ e)
    have hn : ∀ b, b ∈ o → u1 b = none := fun b hb => by
      obtain ⟨ob, e⟩ := Option.ne_none_iff_exists'.mp (ho b hb)
      exact (hk b ob hb e).2
    refine OutX.mk (u' := fun b => if b ∈ o then u b else u1 b) (q _ (fun b ob e => ?_) fun b hb => if_pos hb) (fun b ob e => ?_) B1 fun b ob e1 e2 => ?_
    · have hb : b ∉ o := fun hb => by rw [hn b hb] at e; cases e
      exact rst_some hb ((if_neg hb).trans e)
    · dsimp only at e
      split at e
      · rename_i hb; exact (hk b ob hb e).1
      · exact E1 _ _ e
    · have hb : b ∉ o := fun hb => ho b hb e1
      obtain ⟨k1, k2⟩ := K1 b ob (by unfold rst; rw [if_neg hb]; exact e1) e2
      exact ⟨k1, (if_neg hb).trans k2⟩) fun _ _ x => x
section
variable {c : Cx} {u u' : PM} {O : Nat → Addr} {f : Frm} {v : Value} {rows : List FRow} {srows : List Row} {B B' : Addr → Prop}
theorem TV.le (h : TV c u O B f v) (l : Le u u') : TV c u' O B f v := by
  induction h with
  | leaf lf h hno => exact .leaf lf h hno
  | obj i hi => exact .obj i hi
  | arr hB M hl hr hf ih => exact .arr hB (M.grow l) hl (fun i k r f e => let ⟨s, h1, h2⟩ := hr i k r f e; ⟨s, h1, h2.le l⟩) ih
theorem TV.more (h : TV c u O B f v) (m : ∀ b, B b → B' b) : TV c u O B' f v := by
  induction h generalizing B' with
  | leaf lf h hno => exact .leaf lf h hno
  | obj i hi => exact .obj i hi
  | arr hB M hl hr hf ih => exact .arr (m _ hB) M hl hr fun i k r f e => ih i k r f e fun b h => ⟨m _ h.1, h.2⟩
theorem TV.off {a : Addr} (h : TV c u O B f v) (ha : u a = none) : TV c u O (fun b => B b ∧ b ≠ a) f v := by
  induction h with
  | leaf lf h hno => exact .leaf lf h hno
  | obj i hi => exact .obj i hi
  | arr hB M hl hr hf ih =>
    refine .arr ⟨hB, fun z => ?_⟩ M hl hr fun i k r f e => (ih i k r f e).more fun b h => ⟨⟨h.1.1, h.2⟩, h.1.2⟩
    obtain ⟨_, ks, vs, hs', ns, S, _⟩ := M
    have := S.ins.at_
    rw [z, ha] at this; cases this
theorem SR.le {x : FRow} {y : Row} (h : SR c u O B x y) (l : Le u u') : SR c u' O B x y := let ⟨e, w, h1, h2⟩ := h; ⟨e, w, h1.le l, h2.le l⟩
theorem SR.off {a : Addr} {x : FRow} {y : Row} (h : SR c u O B x y) (ha : u a = none) : SR c u O (fun b => B b ∧ b ≠ a) x y := let ⟨e, w, h1, h2⟩ := h; ⟨e, w, h1, h2.off ha⟩
theorem TV.arrs (h : TV c u O B (.arr rows) v) : ∃ a dx F srows, v = .ref a ∧ B a ∧ ArrM c u a dx F srows ∧ All2 (SR c u O fun b => B b ∧ b ≠ a) rows srows := by
  cases h with
  | arr hB M hl hr hf => exact ⟨_, _, _, _, rfl, hB, M, All2.of hl fun i ⟨k, r, f⟩ e => let ⟨s, h1, h2⟩ := hr i k r f e; ⟨(k, s), h1, rfl, _, h2, hf i k r f e⟩⟩
theorem TV.mk {a dx : Addr} {F : AF} (hB : B a) (M : ArrM c u a dx F srows) (hr : All2 (SR c u O fun b => B b ∧ b ≠ a) rows srows) : TV c u O B (.arr rows) (.ref a) := by
  have g : ∀ i : Nat, ∃ w : Value, ∀ k r f, rows[i]? = some (k, r, f) → (∃ s, srows[i]? = some (k, s) ∧ SlotIs c u r s w) ∧ TV c u O (fun b => B b ∧ b ≠ a) f w := fun i => by
    cases e : rows[i]? with
    | none => exact ⟨.none, fun k r f z => by cases z⟩
    | some x =>
      obtain ⟨⟨k', s⟩, hy, h1, w, h2, h3⟩ := hr.get i x e
      exact ⟨w, fun k r f z => by cases z; exact ⟨⟨s, by rw [hy]; simp at h1; rw [h1], h2⟩, h3⟩⟩
  exact .arr (w := fun i => (g i).choose) hB M hr.len (fun i k r f e => ((g i).choose_spec k r f e).1) fun i k r f e => ((g i).choose_spec k r f e).2
theorem TV.isK (hO : ObjsOk c u O) (h : TV c u O B f v) : IsK c u v f.vk := by
  cases h with
  | leaf l h hno =>
    cases l with
    | nul => cases h; exact .none
    | bool b => cases h; exact .bool b
    | int n => obtain ⟨t, rfl⟩ := h; exact .int _ _
    | str s => obtain ⟨t, rfl⟩ := h; exact .str _ _
    | obj i => exact absurd rfl (hno i)
  | obj i hi => obtain ⟨dx, kx, kdx, vs, kvs, t, t', h1, _⟩ := hO.o i hi; exact ⟨_, _, _, rfl, h1⟩
  | arr hB M hl hr hf => obtain ⟨_, ks, vs, hs', ns, S, _⟩ := M; exact ⟨_, _, _, rfl, S.ins⟩
theorem SR.lv (hO : ObjsOk c u O) {x : FRow} {y : Row} (h : SR c u O B x y) : Lv c u y.2 true := by
  obtain ⟨e, w, h1, h2⟩ := h
  obtain ⟨k, r, f⟩ := x
  cases r with
  | true => obtain ⟨x, dx, vs, e, I⟩ := h1; exact ⟨.ref, ⟨x, dx, _, e, I⟩, rfl⟩
  | false =>
    have e2 : y.2 = w := h1
    rw [e2]; exact ⟨f.vk, h2.isK hO, by rw [vk147]; rfl⟩
theorem keys_eq (h : All2 (SR c u O B) rows srows) : srows.map (·.1) = rows.map (·.1) := by
  induction h with
  | nil => rfl
  | cons h t ih => simp [ih, h.1]
noncomputable def MadeOk (c : Cx) (O : Nat → Addr) (ol : Addr) (N d : Nat) : Prop := ∀ (A : Around) (u : PM) (f : Frm) (v : Value) (Q : Value → PM → Prop), Room A (d + 12) → Lst u ol [.ref (O 0), .ref (O 1)] → ObjsOk c u O → FV u f v → WF N d f → (∀ x u', TV c u' O (fun b => u b = none) f x → Le u u' → Q x u') → RUc c A (.ref 799) [.ref ol, v] u Q
theorem made_step {ol : Addr} {N : Nat} (d : Nat) (ih : ∀ d', d = d' + 1 → MadeOk c O ol N d') : MadeOk c O ol N d := fun A u f v Q R hol hO hf hw q => F__law_made R.lt fun A' D => by
  have R' : Room A' (d + 11) := R.step D
  cases hff : f with
  | leaf l =>
    subst hff
    cases hf with
    | @leaf _ a t w h hp =>
      refine fun t0 => inPyT h ⟨rfl, getT h (by decide) (by decide) rfl fun t1 => eqS' rfl (trB ?_)⟩
      cases l with
      | obj i =>
        obtain ⟨ti, rfl⟩ := hp
        have hi : i < 2 := by cases hw with | leaf h => exact h
        rcases (show i = 0 ∨ i = 1 by omega) with rfl | rfl
        · exact fun t2 => inPyT h ⟨rfl, getT h (by decide) (by decide) rfl (inPyL hol ⟨rfl, getL hol (by decide) (by decide) rfl (q _ u (.obj 0 (by decide)) (Le.refl u))⟩)⟩
        · exact fun t2 => inPyT h ⟨rfl, getT h (by decide) (by decide) rfl (inPyL hol ⟨rfl, getL hol (by decide) (by decide) rfl (q _ u (.obj 1 (by decide)) (Le.refl u))⟩)⟩
      | nul => exact fun t2 => inPyT h ⟨rfl, getT h (by decide) (by decide) rfl fun t3 => neS' (r := true) (by kernel_rfl) (trB fun t4 => inPyT h ⟨rfl, getT h (by decide) (by decide) rfl (q w u (.leaf .nul hp (by simp)) (Le.refl u))⟩)⟩
      | bool b => exact fun t2 => inPyT h ⟨rfl, getT h (by decide) (by decide) rfl fun t3 => neS' (r := true) (by kernel_rfl) (trB fun t4 => inPyT h ⟨rfl, getT h (by decide) (by decide) rfl (q w u (.leaf (.bool b) hp (by simp)) (Le.refl u))⟩)⟩
      | int n => exact fun t2 => inPyT h ⟨rfl, getT h (by decide) (by decide) rfl fun t3 => neS' (r := true) (by kernel_rfl) (trB fun t4 => inPyT h ⟨rfl, getT h (by decide) (by decide) rfl (q w u (.leaf (.int n) hp (by simp)) (Le.refl u))⟩)⟩
      | str s => exact fun t2 => inPyT h ⟨rfl, getT h (by decide) (by decide) rfl fun t3 => neS' (r := true) (by kernel_rfl) (trB fun t4 => inPyT h ⟨rfl, getT h (by decide) (by decide) rfl (q w u (.leaf (.str s) hp (by simp)) (Le.refl u))⟩)⟩
  | arr rows =>
    subst hff
    obtain ⟨a, b, tw, ys, rfl, h, hb, hr⟩ := hf.rows
    have hyl := hr.len
    obtain ⟨d', rfl⟩ : ∃ d', d = d' + 1 := by cases hw; exact ⟨_, rfl⟩
    have W := WR.of hw
    have W4 := W.len
    refine fun t0 => inPyT h ⟨rfl, getT h (by decide) (by decide) rfl fun t1 => eqS' (r := false) (by kernel_rfl) (trB fun t2 => inPyT h ⟨rfl, getT h (by decide) (by decide) rfl fun t3 => neS' (r := false) (by kernel_rfl) (trB ?_)⟩)⟩
    refine lstN sz0 fun P oP hP hP0 ⟨nP, eP⟩ => ?_
    subst eP
    have l1 := upd_le hP (o := lstOf [] nP)
    have k1 : Le u (rst (upd u P (lstOf [] nP)) [P]) := rst_of l1 fun x hx => by rw [List.mem_singleton.mp hx]; exact hP
    refine fun t4 => inPyT (h.le l1) ⟨rfl, getT (h.le l1) (by decide) (by decide) rfl ?_⟩
    obtain ⟨ob, eb, hbo⟩ := id hb
    refine ⟨_, _, _, _, (fun tgt _ => iterTuple (R'.le (Nat.zero_le _)).h (l1 _ _ eb) hbo), fun i vs1 u1 => ∃ s3 s4 s5 s6 n xs srows, vs1 = [some (.ref ol), some (.ref a), some (.ref P), s3, s4, s5, s6] ∧ Le u (rst u1 [P]) ∧ u1 P = some (lstOf xs n) ∧ RowsL (rst u1 [P]) xs srows ∧ All2 (SR c (rst u1 [P]) O (fun b => u b = none)) (rows.take i) srows,
      ⟨none, none, none, none, nP, [], [], rfl, k1, upd_self, ⟨rfl, fun i r e => by cases e⟩, .nil⟩, ?_, ?_⟩
    · rintro i v vs1 u2 u3 hi ⟨s3, s4, s5, s6, n, xs, srows, rfl, k2, e2, X2, A2⟩ - l23 hv
      rw [hyl] at hi
      obtain ⟨y, hy, T, kv, w, rfl, hT, hk, hfi⟩ := hr.get i rows[i] (by simp [hi])
      rw [hy] at hv
      cases hv
      have ei : rows[i]? = some rows[i] := by simp [hi]
      have hmi : rows[i] ∈ rows := List.getElem_mem hi
      have b23 : Le (rst u2 [P]) (rst u3 [P]) := rstS fun x ob hb e => ⟨l23 _ _ e, hb⟩
      have k3 := k2.trans b23
      have k3' := k3.trans rst_le
      refine unpT (n := 3) (hT.le k3') rfl (R'.le (Nat.zero_le _)).h ?_
      generalize hri : rows[i] = ri at ei hmi hT hk hfi
      obtain ⟨k, r, g⟩ := ri
      have eP3 := l23 _ _ e2
      refine ⟨kp (by decide), RU.frame (o := [P]) (fun x hx => by rw [List.mem_singleton.mp hx, eP3]; simp) ((ih d' rfl _ _ g w _ (R'.le (by omega)) (hol.le k3) (hO.le k3) (hfi.le k3) (W.wf _ hmi) fun x u4 hx l34 u5 l45 p5 => ?_).ru)⟩
      have k5 := k3.trans (l34.trans l45)
      have b35 := l34.trans l45
      have eP5 : u5 P = some (lstOf xs n) := (p5 P (by simp)).trans eP3
      have hx5 := (hx.more fun b hb => k3.none hb).le l45
      -- what follows the slot
      have fin : ∀ s u6, SlotIs c (rst u6 [P]) r s x → Le (rst u5 [P]) (rst u6 [P]) → u6 P = some (lstOf xs n) → RU c A' (newTuple [kv, s]) u6 (fun T u7 => RU c A' (call (.builtin "list.append") [.ref P, T]) u7 (fun _ u8 => (∀ p ∈ [(b, ob)], u8 p.1 = some p.2) ∧ ∃ s3 s4 s5 s6 n xs srows, [some (.ref ol), some (.ref a), some (.ref P), some kv, some (.bool r), some w, some x] = [some (.ref ol), some (.ref a), some (.ref P), s3, s4, s5, s6] ∧ Le u (rst u8 [P]) ∧ u8 P = some (lstOf xs n) ∧ RowsL (rst u8 [P]) xs srows ∧ All2 (SR c (rst u8 [P]) O (fun b => u b = none)) (rows.take (i + 1)) srows)) := fun s u6 hs b56 e6 => by
        refine tupN sz0 fun T oT hT hoT => ?_
        have hTP : T ≠ P := fun z => by rw [z, e6] at hT; cases hT
        refine apdL ((upd_ne hTP.symm).trans e6) hP0 (lenSz (by have := X2.1; have := A2.len; simp at this; omega)) fun n' => ?_
        have b68 : Le (rst u6 [P]) (rst (upd (upd u6 T oT) P (lstOf (xs ++ [.ref T]) n')) [P]) := rstS fun y oy hb' e => by
          have h1 : y ≠ P := fun z => hb' (by simp [z])
          have h2 : y ≠ T := fun z => by rw [z, hT] at e; cases e
          exact ⟨(upd_ne h1).trans ((upd_ne h2).trans e), hb'⟩
        have k8 := k5.trans (b56.trans b68)
        have hT8 : Tup (rst (upd (upd u6 T oT) P (lstOf (xs ++ [.ref T]) n')) [P]) T [kv, s] := ⟨oT, rst_some (by simpa using hTP) ((upd_ne hTP).trans upd_self), hoT⟩
        have b28 := b23.trans (b35.trans (b56.trans b68))
        refine ⟨fun p hp => ?_, _, _, _, _, n', _, srows ++ [(k, s)], rfl, k8, upd_self, (X2.le b28).app ⟨T, kv, rfl, hT8, hk⟩, ?_⟩
        · rw [List.mem_singleton.mp hp]; exact rst_le _ _ (k8 _ _ eb)
        · rw [List.take_add_one, ei]
          exact (A2.mono fun x y _ z => z.le b28).app (.cons ⟨rfl, x, hs.le b68, hx5.le (b56.trans b68)⟩ .nil)
      refine fun pl => mApd ⟨_, eP5, _, rfl⟩ ⟨kprB, trB ?_⟩
      cases r with
      | true =>
        refine ⟨kp (by decide), c_Ref (R'.le (by omega)) fun y dy u6 vv l56 hy hdy I => fin _ u6 ⟨y, dy, vv, rfl, I.rst (fun z => ?_) fun z => ?_⟩ (rstS fun x ob hb e => ⟨l56 _ _ e, hb⟩) (l56 _ _ eP5)⟩
        · rw [List.mem_singleton.mp z, eP5] at hy; cases hy
        · rw [List.mem_singleton.mp z, eP5] at hdy; cases hdy
      | false => exact fin x u5 rfl (Le.refl _) eP5
    · rintro vs1 u2 ⟨s3, s4, s5, s6, n, xs, srows, rfl, k2, e2, X2, A2⟩ -
      rw [List.take_of_length_le (by rw [hyl]; exact Nat.le_refl _)] at A2
      have hsl := A2.len
      refine ⟨kp (by decide), (c_from_pairs (R'.le (by omega)) ⟨_, e2, _, rfl⟩ (X2.le rst_le) (by rw [keys_eq A2]; exact W.nd) (by omega) (fun y hy => ?_) fun x dx F u3 M l3 hx => ?_).ru⟩
      · obtain ⟨j, hj, rfl⟩ := List.getElem_of_mem hy
        have hj' : j < rows.length := by omega
        obtain ⟨y, h1, h2⟩ := A2.get j rows[j] (by simp [hj'])
        rw [show srows[j]? = some srows[j] by simp [hj]] at h1
        cases h1
        exact (h2.lv (hO.le k2)).le rst_le
      · exact q _ u3 (.mk ((k2.trans rst_le).none hx) M (A2.mono fun x y _ z => ((z.le rst_le).off hx).le l3)) ((k2.trans rst_le).trans l3)
/-- _law_made(objects, form) -/
theorem c_made {ol : Addr} {N : Nat} : ∀ d, MadeOk c O ol N d
  | 0 => made_step 0 fun d' e => by omega
  | d + 1 => made_step (d + 1) fun d' e => by
    have : d' = d := by omega
    subst this; exact c_made d'
end
end Mine
end
section
open PySem PySem.W PySem.Calls PyProof.Rows Builtin Builtin.ObjectAttr PySem.SeqAt
set_option Elab.async false
set_option maxRecDepth 100000
set_option linter.unusedVariables false
namespace Mine
noncomputable def Key.data : Key → PyData
  | .i n => .int n
  | .s x => .str x
noncomputable def Lf.data : Lf → PyData
  | .nul => .none
  | .bool b => .bool b
  | .int n => .int n
  | .str s => .str s
  | .obj i => .int i
mutual
noncomputable def shp : Frm → PyData
  | .leaf (.obj i) => .tuple [.str (so "object"), .str (so "A"), .int i]
  | .leaf l => .tuple [.str l.word, l.data]
  | .arr rows => .tuple [.str (so "array"), .tuple (shps rows)]
noncomputable def shps : List FRow → List PyData
  | [] => []
  | (k, _, f) :: r => .tuple [k.data, shp f] :: shps r
end
theorem shps_map (rows : List FRow) : shps rows = rows.map fun r => .tuple [r.1.data, shp r.2.2] := by
  induction rows with
  | nil => simp [shps]
  | cons x r ih => obtain ⟨k, b, f⟩ := x; simp [shps, ih]
/-- a value reads as data -/
inductive RD (u : PM) : Value → PyData → Prop
  | none : RD u .none .none
  | bool (b : Bool) : RD u (.bool b) (.bool b)
  | int (n : Int) (t : Tok) : RD u (.int n t) (.int n)
  | str (s : Str) (t : Tok) : RD u (.str s t) (.str s)
  | tuple {a : Addr} {vs : List Value} {ds : List PyData} (h : Tup u a vs) (hl : vs.length = ds.length) (hs : ∀ (i : Nat) (d : PyData) (v : Value), ds[i]? = some d → vs[i]? = some v → RD u v d) : RD u (.ref a) (.tuple ds)
theorem RD.le {u u' : PM} {v : Value} {d : PyData} (h : RD u v d) (l : Le u u') : RD u' v d := by
  induction h with
  | none => exact .none
  | bool b => exact .bool b
  | int n t => exact .int n t
  | str s t => exact .str s t
  | tuple h hl hs ih => exact .tuple (h.le l) hl ih
theorem RD.mk {u : PM} {a : Addr} {vs : List Value} {ds : List PyData} (h : Tup u a vs) (hs : All2 (fun d v => RD u v d) ds vs) : RD u (.ref a) (.tuple ds) :=
  .tuple h hs.len fun i d v e1 e2 => let ⟨y, h1, h2⟩ := hs.get i d e1; by rw [e2] at h1; cases h1; exact h2
theorem readsAll {h : Heap} : ∀ {vs : List Value} {ds : List PyData}, vs.length = ds.length → (∀ (i : Nat) (d : PyData) (v : Value), ds[i]? = some d → vs[i]? = some v → ∃ as, Reads h v d as) → ∃ as, ReadsAll h vs ds as
  | [], [], _, _ => ⟨_, .nil⟩
  | [], _ :: _, e, _ => by cases e
  | _ :: _, [], e, _ => by cases e
  | v :: vs, d :: ds, e, g => by
    obtain ⟨a1, h1⟩ := g 0 d v rfl rfl
    obtain ⟨a2, h2⟩ := readsAll (Nat.succ.inj e) fun i d v e1 e2 => g (i + 1) d v e1 e2
    exact ⟨_, .cons h1 h2⟩
theorem RD.reads {u : PM} {v : Value} {d : PyData} (h : RD u v d) {hp : Heap} (E : Emb u hp) : ∃ as, Reads hp v d as := by
  induction h with
  | none => exact ⟨_, .none⟩
  | bool b => exact ⟨_, .bool b⟩
  | int n t => exact ⟨_, .int n t⟩
  | str s t => exact ⟨_, .str s t⟩
  | tuple h hl hs ih =>
    obtain ⟨o, e, hc, n, hd⟩ := h
    obtain ⟨as, ha⟩ := readsAll hl ih
    exact ⟨_, .tuple (E _ _ e) hc hd (by simpa using ha)⟩
theorem KeyV.rd {u : PM} {k : Key} {v : Value} (h : KeyV k v) : RD u v k.data := by
  cases k <;> obtain ⟨t, rfl⟩ := h
  · exact .int _ _
  · exact .str _ _
theorem Lf.rd {u : PM} {l : Lf} {v : Value} (h : l.pay v) : RD u v l.data := by
  cases l with
  | nul => cases h; exact .none
  | bool b => cases h; exact .bool b
  | int n => obtain ⟨t, rfl⟩ := h; exact .int _ _
  | str s => obtain ⟨t, rfl⟩ := h; exact .str _ _
  | obj i => obtain ⟨t, rfl⟩ := h; exact .int _ _
theorem all2_2 {α β : Type} {P : α → β → Prop} {a b : α} {x y : β} (h1 : P a x) (h2 : P b y) : All2 P [a, b] [x, y] := .cons h1 (.cons h2 .nil)
section
variable {c : Cx} {u u' : PM} {O : Nat → Addr} {f : Frm} {v : Value} {rows : List FRow} {srows : List Row}
noncomputable def ShapeOk (c : Cx) (N d : Nat) : Prop := ∀ (A : Around) (u : PM) (f : Frm) (v : Value) (Q : Value → PM → Prop), Room A (d + 1) → FV u f v → WF N d f → (∀ x u', RD u' x (shp f) → Le u u' → Q x u') → RUc c A (.ref 804) [v] u Q
theorem shape_step {N : Nat} (d : Nat) (ih : ∀ d', d = d' + 1 → ShapeOk c N d') : ShapeOk c N d := fun A u f v Q R hf hw q => F__law_shape R.lt fun A' D => by
  have R' : Room A' d := R.step D
  cases hff : f with
  | leaf l =>
    subst hff
    cases hf with
    | @leaf _ a t w h hp =>
      refine fun t0 => inPyT h ⟨rfl, getT h (by decide) (by decide) rfl fun t1 => eqS' rfl (trB ?_)⟩
      cases l with
      | obj i =>
        obtain ⟨ti, rfl⟩ := hp
        refine fun t2 t3 t4 => inPyT h ⟨rfl, getT h (by decide) (by decide) rfl (tupG rfl fun b u1 T l1 => q _ _ ?_ l1)⟩
        rw [shp]
        exact .mk T (.cons (.str _ _) (.cons (.str _ _) (.cons (.int _ _) .nil)))
      | nul => exact fun t2 => inPyT h ⟨rfl, getT h (by decide) (by decide) rfl fun t3 => neS' (r := true) (by kernel_rfl) (trB (q _ u (by rw [shp]; exact .mk h (all2_2 (.str _ _) (Lf.rd (l := .nul) hp)); simp) (Le.refl u)))⟩
      | bool b => exact fun t2 => inPyT h ⟨rfl, getT h (by decide) (by decide) rfl fun t3 => neS' (r := true) (by kernel_rfl) (trB (q _ u (by rw [shp]; exact .mk h (all2_2 (.str _ _) (Lf.rd (l := .bool b) hp)); simp) (Le.refl u)))⟩
      | int n => exact fun t2 => inPyT h ⟨rfl, getT h (by decide) (by decide) rfl fun t3 => neS' (r := true) (by kernel_rfl) (trB (q _ u (by rw [shp]; exact .mk h (all2_2 (.str _ _) (Lf.rd (l := .int n) hp)); simp) (Le.refl u)))⟩
      | str s => exact fun t2 => inPyT h ⟨rfl, getT h (by decide) (by decide) rfl fun t3 => neS' (r := true) (by kernel_rfl) (trB (q _ u (by rw [shp]; exact .mk h (all2_2 (.str _ _) (Lf.rd (l := .str s) hp)); simp) (Le.refl u)))⟩
  | arr rows =>
    subst hff
    obtain ⟨a, b, tw, ys, rfl, h, hb, hr⟩ := hf.rows
    have hyl := hr.len
    obtain ⟨d', rfl⟩ : ∃ d', d = d' + 1 := by cases hw; exact ⟨_, rfl⟩
    have W := WR.of hw
    have W4 := W.len
    refine fun t0 => inPyT h ⟨rfl, getT h (by decide) (by decide) rfl fun t1 => eqS' (r := false) (by kernel_rfl) (trB fun t2 => inPyT h ⟨rfl, getT h (by decide) (by decide) rfl fun t3 => neS' (r := false) (by kernel_rfl) (trB ?_)⟩)⟩
    refine fun t4 => ⟨kprT, fun t5 => inPyT h ⟨rfl, getT h (by decide) (by decide) rfl ?_⟩⟩
    obtain ⟨ob, eb, hbo⟩ := id hb
    refine ⟨_, _, _, _, (fun tgt _ => iterTuple (R'.le (Nat.zero_le _)).h eb hbo), lenSz (by omega), fun i acc vs1 u1 => ∃ x y z, vs1 = [x, y, z] ∧ Le u u1 ∧ All2 (fun d v => RD u1 v d) (shps (rows.take i)) acc, ⟨none, none, none, rfl, Le.refl u, by simp [shps]; exact .nil⟩, ?_, ?_⟩
    · rintro i acc v vs1 u2 u3 hi ⟨x, y, z, rfl, l2, A2⟩ hH l23 hv
      rw [hyl] at hi
      obtain ⟨y, hy, T, kv, w, rfl, hT, hk, hfi⟩ := hr.get i rows[i] (by simp [hi])
      rw [hy] at hv
      cases hv
      have ei : rows[i]? = some rows[i] := by simp [hi]
      have hmi : rows[i] ∈ rows := List.getElem_mem hi
      have l3 := l2.trans l23
      refine unpT (n := 3) (hT.le l3) rfl (R'.le (Nat.zero_le _)).h ?_
      refine ⟨kp (by decide), (ih d' rfl _ _ _ w _ R' (hfi.le l3) (W.wf _ hmi) fun x u4 hx l34 => tupG rfl fun b2 u5 T5 l45 => ?_).ru⟩
      refine ⟨fun p hp => l45 _ _ (l34 _ _ (l23 _ _ (hH p hp))), _, _, _, rfl, l3.trans (l34.trans l45), ?_⟩
      rw [List.take_add_one, ei, shps_map, List.map_append, ← shps_map]
      exact (A2.mono fun x y _ z => z.le (l23.trans (l34.trans l45))).app (.cons (.mk T5 (all2_2 hk.rd (hx.le l45))) .nil)
    · rintro acc vs1 u2 D o2 ⟨x, y, z, -, l2, A2⟩ hH hD h0 hDo
      rw [List.take_of_length_le (by rw [hyl]; exact Nat.le_refl _)] at A2
      have hal := A2.len
      rw [shps_map, List.length_map] at hal
      have l3 := l2.trans (upd_le hD (o := o2))
      refine tupL ⟨o2, upd_self, hDo⟩ (lenSz (by omega)) fun a3 o3 ha3 ho3 => tupG rfl fun a4 u4 T4 l4 => q _ u4 ?_ (l3.trans ((upd_le ha3).trans l4))
      rw [shp]
      exact .mk T4 (all2_2 (.str _ _) (.mk (u := u4) ⟨o3, l4 _ _ upd_self, ho3⟩ (A2.mono fun x y _ z => z.le ((upd_le hD).trans ((upd_le ha3).trans l4)))))
/-- _law_shape(form) -/
theorem c_shape {N : Nat} : ∀ d, ShapeOk c N d
  | 0 => shape_step 0 fun d' e => by omega
  | d + 1 => shape_step (d + 1) fun d' e => by
    have : d' = d := by omega
    subst this; exact c_shape d'
end
end Mine
end
section
open PySem PySem.W PySem.Calls PyProof.Rows Builtin Builtin.ObjectAttr PySem.SeqAt
set_option Elab.async false
set_option maxRecDepth 100000
set_option linter.unusedVariables false
namespace Mine
section
variable {c : Cx} {u u' : PM} {O : Nat → Addr} {f : Frm} {v s w : Value} {rows : List FRow} {srows : List Row} {B : Addr → Prop} {r : Bool}
theorem TV.handed (h : TV c u O B f v) : handedIn v = true := by
  cases h with
  | leaf l h hno =>
    cases l with
    | nul => cases h; rfl
    | bool b => cases h; rfl
    | int n => obtain ⟨t, rfl⟩ := h; rfl
    | str s => obtain ⟨t, rfl⟩ := h; rfl
    | obj i => exact absurd rfl (hno i)
  | obj i hi => rfl
  | arr hB M hl hr hf => rfl
theorem c_derefS {A : Around} {Q : Value → PM → Prop} (R : Room A 1) (hO : ObjsOk c u O) (hs : SlotIs c u r s w) (hw : TV c u O B f w) (q : Q w u) : RUc c A (.ref 179) [s] u Q := by
  cases r with
  | false =>
    have e : s = w := hs
    subst e
    exact c_deref R (hw.isK hO) (vk125 f) (vk147 f) q
  | true =>
    obtain ⟨x, dx, vs, rfl, I⟩ := hs
    exact c_derefR R I (hw.isK hO) (vk147 f) hw.handed q
theorem shp_leaf {l : Lf} (h : ∀ i, l ≠ .obj i) : shp (.leaf l) = .tuple [.str l.word, l.data] := by
  cases l <;> first | exact absurd rfl (h _) | simp [shp]
theorem vk_word (f : Frm) (h : ∀ i, f ≠ .leaf (.obj i)) : f.vk.word = f.word := by
  cases f with
  | leaf l => cases l <;> first | rfl | exact absurd rfl (h _)
  | arr _ => rfl
/-- a new row goes on to the list of rows -/
noncomputable def PlainOk (c : Cx) (O : Nat → Addr) (N d : Nat) : Prop := ∀ (A : Around) (u : PM) (B : Addr → Prop) (f : Frm) (v : Value) (ab : Addr) (xs : List Value) (Q : Value → PM → Prop), Room A (d + 5) → ObjsOk c u O → TV c u O B f v → WF N d f → Lst u ab xs → xs.length + d ≤ 100 →
  (∀ y ∈ xs, ∃ b dx, y = .ref b ∧ u b = some (instObj 253 dx) ∧ ¬ B b) → (∀ x u', RD u' x (shp f) → Le u u' → Q x u') → RUc c A (.ref 412) [v, .ref ab] u Q
theorem plain_step {N : Nat} (d : Nat) (ih : ∀ d', d = d' + 1 → PlainOk c O N d') : PlainOk c O N d := fun A u B f v ab xs Q R hO hf hw hab hz hx q => F_plain_at R.lt fun A' D => by
  have R' : Room A' (d + 4) := R.step D
  have hk := hf.isK hO
  cases hff : f with
  | leaf l =>
    subst hff
    cases hf with
    | obj i hi =>
      obtain ⟨dx, kx, kdx, vs, kvs, t, t', I, K, hn⟩ := hO.o i hi
      refine ⟨kprB, isiK hk (by decide) (b := true) rfl (trB fun t0 => getA kObj I (i := 0) (by kernel_rfl) rfl rfl (getA kKls K (i := 0) (by kernel_rfl) hn rfl (getA kObj I (i := 1) (by kernel_rfl) rfl rfl (tupG rfl fun a u1 T l1 => q _ _ ?_ l1))))⟩
      rw [shp]
      exact .mk T (.cons (.str _ _) (.cons (.str _ _) (.cons (.int _ _) .nil)))
    | leaf _ hp hno =>
      have h1 : (Frm.leaf l).vk.isI 168 = false := by cases l <;> first | rfl | exact absurd rfl (hno _)
      have h2 : (Frm.leaf l).vk.isI 253 = false := by cases l <;> first | rfl | exact absurd rfl (hno _)
      refine ⟨kprB, isiK hk (by decide) h1 (trB ⟨kprB, isiK hk (by decide) h2 (trB ⟨kp (by decide), (c_kind (R'.le (by omega)) hk (vk125 _) (vk147 _) fun t1 => tupG rfl fun a u1 T l1 => q _ _ ?_ l1).ru⟩)⟩)⟩
      rw [vk_word _ (by intro i z; injection z with z; exact hno i z)] at T
      rw [shp_leaf hno]
      exact .mk T (all2_2 (.str _ _) (Lf.rd hp))
  | arr rows =>
    subst hff
    obtain ⟨a, dx, F, srows, rfl, hB, M, hr⟩ := hf.arrs
    obtain ⟨d', rfl⟩ : ∃ d', d = d' + 1 := by cases hw; exact ⟨_, rfl⟩
    have W := WR.of hw
    have W4 := W.len
    have hsl := hr.len
    have hua : ∃ dx, u a = some (instObj 253 dx) := by obtain ⟨_, ks, vs, hs', ns, S, _⟩ := M; exact ⟨_, S.ins.at_⟩
    obtain ⟨dx0, hua⟩ := hua
    refine ⟨kprB, isiK hk (by decide) (b := false) rfl (trB ⟨kprB, isiK hk (by decide) (b := true) rfl (trB ?_)⟩)⟩
    refine ⟨kprT, kprB, lenL hab (big (by omega)) fun t1 => rng1 fun rg o1 hrg Lrg => ?_⟩
    refine ⟨_, _, _, _, (fun tgt _ => iterRange (R'.le (Nat.zero_le _)).h upd_self Lrg (by omega)), fun i vs1 u1 => ∃ s2, vs1 = [some (.ref a), some (.ref ab), s2, none, none, none] ∧ Le u u1, ⟨none, rfl, upd_le hrg⟩, ?_, ?_⟩
    · rintro i v vs1 u2 u3 hi ⟨s2, rfl, l2⟩ - l23 ⟨t2, rfl⟩
      have l3 := l2.trans l23
      obtain ⟨b, dxb, hy, hub, hnb⟩ := hx _ (List.getElem_mem hi)
      have hg : xs[i]? = some (.ref b) := by rw [List.getElem?_eq_getElem hi, hy]
      refine inPyL (hab.le l3) ⟨rfl, getL (hab.le l3) (by omega) (big (by omega)) (by simpa using hg) (isO (fun z => hnb (by rw [z]; exact hB)) (l3 _ _ hub) (l3 _ _ hua) (by simp) (trB ⟨trivial, _, rfl, l3⟩))⟩
    · rintro vs1 u2 ⟨s2, rfl, l2⟩ -
      refine lstN sz0 fun P oP hP hP0 ⟨nP, eP⟩ => ?_
      subst eP
      have l3 := l2.trans (upd_le hP (o := lstOf [] nP))
      have hPu : u P = none := l2.none hP
      have k3 : Le u (rst (upd u2 P (lstOf [] nP)) [P]) := rst_of l3 fun x hx => by rw [List.mem_singleton.mp hx]; exact hPu
      have e3 : upd u2 P (lstOf [] nP) P = some (lstOf [] nP) := upd_self
      generalize upd u2 P (lstOf [] nP) = u3 at l3 e3 k3
      refine ⟨kp (by decide), RU.frame (o := [P]) (fun x hx => by rw [List.mem_singleton.mp hx, e3]; simp) ((c_slots (R'.le (by omega)) (M.grow k3) fun Ds oD ys u4' l34' eD' LD hD0 hX' u4 l44 p4 => ?_).ru)⟩
      have k4 := k3.trans (l34'.trans l44)
      have e4 : u4 P = some (lstOf [] nP) := (p4 P (by simp)).trans e3
      have eD := l44 _ _ eD'
      have hX := hX'.le l44
      refine ⟨_, _, _, _, (fun tgt _ => iterList (R'.le (Nat.zero_le _)).h (rst_le _ _ eD) LD), fun i vs1 u1 => ∃ s2 s4 s5 n xs', vs1 = [some (.ref a), some (.ref ab), s2, some (.ref P), s4, s5] ∧ Le (rst u4 [P]) (rst u1 [P]) ∧ u1 P = some (lstOf xs' n) ∧ All2 (fun d v => RD (rst u1 [P]) v d) (shps (rows.take i)) xs',
        ⟨s2, none, none, nP, [], rfl, Le.refl _, e4, by simp [shps]; exact .nil⟩, ?_, ?_⟩
      · rintro i v vs1 u5 u6 hi ⟨s2, s4, s5, n, xs', rfl, k5, e5, A5⟩ - l56 hv
        rw [hX.1, hsl] at hi
        have b56 : Le (rst u5 [P]) (rst u6 [P]) := rstS fun x ob hb e => ⟨l56 _ _ e, hb⟩
        have k6 := k5.trans b56
        have e6 := l56 _ _ e5
        obtain ⟨y, hy, hkey, w, hslot, hw'⟩ := hr.get i rows[i] (by simp [hi])
        obtain ⟨k', s⟩ := y
        obtain ⟨xv, hx1, T, kv, rfl, hT, hkv⟩ := hX.2 i _ hy
        rw [hx1] at hv
        cases hv
        have ei : rows[i]? = some rows[i] := by simp [hi]
        have hmi : rows[i] ∈ rows := List.getElem_mem hi
        have ku6 := k4.trans k6
        refine unpT (n := 2) ((hT.le k6).le rst_le) rfl (R'.le (Nat.zero_le _)).h ?_
        refine fun pl => mApd ⟨_, e6, _, rfl⟩ ⟨kprB, kp (by decide), kp (by decide), (c_derefS (R'.le (by omega)) (hO.le (ku6.trans rst_le)) (hslot.le (ku6.trans rst_le)) (hw'.le (ku6.trans rst_le)) ?_).ru⟩
        refine lstN sz0 fun L1 oL1 hL1 hL10 LL1 => ?_
        have l67 := upd_le hL1 (o := oL1)
        refine addL (hab.le ((ku6.trans rst_le).trans l67)) ⟨oL1, upd_self, LL1⟩ (by rw [sizeLine_eq]; simp; omega) fun L2 oL2 hL2 hL20 LL2 => ?_
        have l78 := l67.trans (upd_le hL2 (o := oL2))
        have e8 := l78 _ _ e6
        have hL2P : L2 ≠ P := fun z => by rw [z, l67 _ _ e6] at hL2; cases hL2
        have eL2 : rst (upd (upd u6 L1 oL1) L2 oL2) [P] L2 = some oL2 := rst_some (by simpa using hL2P) upd_self
        have b68 : Le (rst u6 [P]) (rst (upd (upd u6 L1 oL1) L2 oL2) [P]) := rstS fun x ob hb e => ⟨l78 _ _ e, hb⟩
        generalize upd (upd u6 L1 oL1) L2 oL2 = u8 at e8 eL2 b68
        have k8 := k6.trans b68
        have ku8 := k4.trans k8
        refine RU.frame (o := [P]) (fun x hx => by rw [List.mem_singleton.mp hx, e8]; simp) ((ih d' rfl _ (rst u8 [P]) _ _ w L2 (xs ++ [.ref a]) _ (R'.le (by omega)) (hO.le ku8) (hw'.le ku8) (W.wf _ hmi) ⟨oL2, eL2, LL2⟩ (by simp; omega) (fun y hy => ?_) fun x u9' hx9 l89' u9 l99 p9 => ?_).ru)
        · rcases List.mem_append.mp hy with hy | hy
          · obtain ⟨b, dxb, e1, e2, e3'⟩ := hx y hy
            exact ⟨b, dxb, e1, ku8 _ _ e2, fun z => e3' z.1⟩
          · exact ⟨a, dx0, List.mem_singleton.mp hy, ku8 _ _ hua, fun z => z.2 rfl⟩
        · have b89 := l89'.trans l99
          have e9 : u9 P = some (lstOf xs' n) := (p9 P (by simp)).trans e8
          refine tupN sz0 fun T2 oT2 hT2 hoT2 => ?_
          have hTP : T2 ≠ P := fun z => by rw [z, e9] at hT2; cases hT2
          refine apdL ((upd_ne hTP.symm).trans e9) hP0 (lenSz (by have := A5.len; rw [shps_map] at this; simp at this; omega)) fun n' => ?_
          have b910 : Le (rst u9 [P]) (rst (upd (upd u9 T2 oT2) P (lstOf (xs' ++ [.ref T2]) n')) [P]) := rstS fun y oy hb' e => by
            have h1 : y ≠ P := fun z => hb' (by simp [z])
            have h2 : y ≠ T2 := fun z => by rw [z, hT2] at e; cases e
            exact ⟨(upd_ne h1).trans ((upd_ne h2).trans e), hb'⟩
          have hT10 : Tup (rst (upd (upd u9 T2 oT2) P (lstOf (xs' ++ [.ref T2]) n')) [P]) T2 [kv, x] := ⟨oT2, rst_some (by simpa using hTP) ((upd_ne hTP).trans upd_self), hoT2⟩
          have b510 := b56.trans (b68.trans (b89.trans b910))
          have k10 := k5.trans b510
          refine ⟨fun p hp => ?_, _, _, _, n', _, rfl, k10, upd_self, ?_⟩
          · rw [List.mem_singleton.mp hp]; exact rst_le _ _ (k10 _ _ eD)
          · rw [List.take_add_one, ei, shps_map, List.map_append, ← shps_map]
            refine (A5.mono fun x y _ z => z.le b510).app (.cons (.mk hT10 (all2_2 ?_ ((hx9.le l99).le b910))) .nil)
            have : k' = rows[i].1 := hkey
            rw [← this]; exact hkv.rd
      · rintro vs1 u5 ⟨s2, s4, s5, n, xs', rfl, k5, e5, A5⟩ -
        rw [List.take_of_length_le (by rw [hX.1, hsl]; exact Nat.le_refl _)] at A5
        have hal := A5.len
        rw [shps_map, List.length_map] at hal
        refine fun t3 => ⟨kprT, tupL ⟨_, e5, _, rfl⟩ (lenSz (by omega)) fun a3 o3 ha3 ho3 => tupG rfl fun a4 u6 T6 l56 => q _ u6 ?_ (((k4.trans k5).trans rst_le).trans ((upd_le ha3).trans l56))⟩
        rw [shp]
        exact .mk T6 (all2_2 (.str _ _) (.mk (u := u6) ⟨o3, l56 _ _ upd_self, ho3⟩ (A5.mono fun x y _ z => (z.le rst_le).le ((upd_le ha3).trans l56))))
theorem c_plain_at {N : Nat} : ∀ d, PlainOk c O N d
  | 0 => plain_step 0 fun d' e => by omega
  | d + 1 => plain_step (d + 1) fun d' e => by
    have : d' = d := by omega
    subst this; exact c_plain_at d'
/-- plain(value) -/
theorem c_plain {A : Around} {N d : Nat} {Q : Value → PM → Prop} (R : Room A (d + 6)) (hd : d ≤ 100) (hO : ObjsOk c u O) (hf : TV c u O tt f v) (hw : WF N d f) (q : ∀ x u', RD u' x (shp f) → Le u u' → Q x u') : RUc c A (.ref 405) [v] u Q := F_plain R.lt fun A' D =>
  ⟨kp (by decide), lstN sz0 fun l o hl _ L => (c_plain_at d A' _ tt f v l [] _ (R.step D) (hO.le (upd_le hl)) (hf.le (upd_le hl)) hw ⟨o, upd_self, L⟩ (by simpa using hd) (fun y hy => nomatch hy) fun x u' h l' => q x u' h ((upd_le hl).trans l')).ru⟩
end
end Mine
end
section
open PySem PySem.W PySem.Calls PyProof.Rows Builtin Builtin.ObjectAttr PySem.SeqAt
set_option Elab.async false
set_option maxRecDepth 100000
set_option linter.unusedVariables false
namespace Mine
section
variable {c : Cx} {A : Around} {u u' : PM} {O : Nat → Addr} {f : Frm} {v s w : Value} {rows : List FRow} {srows : List Row} {B : Addr → Prop} {r : Bool} {Q : Value → PM → Prop}
/-- two tuples of three texts, alike -/
theorem eq3 {X Y : Addr} {x1 x2 x3 : Str} {t1 t2 t3 s1 s2 s3 : Tok} (R : Room A 0) (hX : Tup u X [.str x1 t1, .str x2 t2, .str x3 t3]) (hY : Tup u Y [.str x1 s1, .str x2 s2, .str x3 s3]) (q : Q (.bool true) u) : RU c A (compareOp .Eq (.ref X) (.ref Y)) u Q :=
  eqBy (r := true) (fun h tk E => by
    have es : ∀ (x : Str) (t s : Tok), EqAt A.in1 (sh c h tk) (.str x t) (.str x s) true := fun x t s => by have := EqAt.str_str (A := A.in1) (s := sh c h tk) x t x s; rwa [beq_self_eq_true] at this
    have := RcAt.tuples (A := A) (s := sh c h tk) (e := fun _ => true) (hX.isTuple E) (hY.isTuple E) (by have := lt_cLine R (n := 0) (by decide); omega) (fun j h1 h2 => by
      match j, h1, h2 with
      | 0, _, _ => exact es _ _ _
      | 1, _, _ => exact es _ _ _
      | 2, _, _ => exact es _ _ _)
    exact this) q
noncomputable def gword : Frm → Str
  | .leaf (.obj _) => so "A"
  | f => f.vk.word
theorem c_givenT {A : Around} {Q : Value → PM → Prop} (R : Room A 2) (hO : ObjsOk c u O) (h : TV c u O B f v) (q : ∀ t, Q (.str (gword f) t) u) : RUc c A (.ref 363) [v] u Q := by
  have hk := h.isK hO
  cases h with
  | leaf l hp hno =>
    have e : gword (.leaf l) = (Frm.leaf l).vk.word := by cases l <;> first | rfl | exact absurd rfl (hno _)
    rw [e] at q
    exact c_given R hk (by cases l <;> first | exact absurd rfl (hno _) | (intro z; cases z)) (vk125 _) (vk147 _) q
  | obj i hi =>
    obtain ⟨dx, kx, kdx, vs, kvs, t, t', I, K, hn⟩ := hO.o i hi
    exact c_givenO R I K hn (q _)
  | arr hB M hl hr hf => exact c_given R hk (by intro z; cases z) rfl rfl q
/-- _law_words_right(form, thing) -/
theorem c_words {fv : Value} (R : Room A 3) (hO : ObjsOk c u O) (hf : FV u f fv) (h : TV c u O B f v) (q : ∀ u', Le u u' → Q (.bool true) u') : RUc c A (.ref 811) [fv, v] u Q := F__law_words_right R.lt fun A' D => by
  have R' := R.step D
  have hk := h.isK hO
  obtain ⟨a, t, w, rfl, hT⟩ := hf.two
  refine fun k1 s1 s2 s3 => tupG rfl fun a1 u1 T1 l1 => fun k2 s4 s5 s6 => tupG rfl fun a2 u2 T2 l2 => fun k3 s7 s8 s9 => tupG rfl fun a3 u3 T3 l3 => fun k4 s10 s11 s12 => tupG rfl fun a4 u4 T4 l4 => fun k5 s13 s14 s15 => tupG rfl fun a5 u5 T5 l5 => fun k6 s16 s17 s18 => tupG rfl fun a6 u6 T6 l6 => ?_
  refine ⟨by kernel_rfl, of_decide_eq_true (by kernel_rfl), fun Dd od hD hD0 hDs hDo => ?_⟩
  have m7 := upd_le hD (o := od)
  have m6 := l6.trans m7; have m5 := l5.trans m6; have m4 := l4.trans m5; have m3 := l3.trans m4; have m2 := l2.trans m3; have m1 := l1.trans m2
  replace T1 := T1.le m2; replace T2 := T2.le m3; replace T3 := T3.le m4; replace T4 := T4.le m5; replace T5 := T5.le m6; replace T6 := T6.le m7
  have eD : upd u6 Dd od Dd = some od := upd_self
  generalize upd u6 Dd od = u7 at m1 T1 T2 T3 T4 T5 T6 eD
  have hO7 := hO.le m1
  have h7 := h.le m1
  have hT7 := hT.le m1
  refine ⟨kp (by decide), (c_kind (R'.le (by omega)) (h7.isK hO7) (vk125 f) (vk147 f) fun t1 => ⟨kp (by decide), (c_givenT (R'.le (by omega)) hO7 h7 fun t2 => ⟨kp (by decide), (c_tword (R'.le (by omega)) (h7.isK hO7) (vk125 f) (vk147 f) fun t3 => tupG rfl fun X u8 TX l8 => ?_).ru⟩).ru⟩).ru⟩
  refine fun t4 => inPyT (hT7.le l8) ⟨rfl, getT (hT7.le l8) (by decide) (by decide) rfl (inPyD (l8 _ _ eD) hDo ⟨rfl, ?_⟩)⟩
  have go : ∀ Y x1 x2 x3 s1 s2 s3, Tup u7 Y [.str x1 s1, .str x2 s2, .str x3 s3] → f.vk.word = x1 → gword f = x2 → f.vk.tword = x3 → RU c A' (compareOp .Eq (.ref X) (.ref Y)) u8 Q := fun Y x1 x2 x3 s1 s2 s3 TY e1 e2 e3 => by
    subst e1 e2 e3
    exact eq3 (R'.le (Nat.zero_le _)) TX (TY.le l8) (q _ (m1.trans l8))
  cases f with
  | leaf l =>
    cases l with
    | nul => exact getDi (v := .ref a1) (l8 _ _ eD) hDo (by kernel_rfl) (go _ _ _ _ _ _ _ T1 (by kernel_rfl) (by kernel_rfl) (by kernel_rfl))
    | bool b => exact getDi (v := .ref a2) (l8 _ _ eD) hDo (by kernel_rfl) (go _ _ _ _ _ _ _ T2 (by kernel_rfl) (by kernel_rfl) (by kernel_rfl))
    | int n => exact getDi (v := .ref a3) (l8 _ _ eD) hDo (by kernel_rfl) (go _ _ _ _ _ _ _ T3 (by kernel_rfl) (by kernel_rfl) (by kernel_rfl))
    | str s => exact getDi (v := .ref a4) (l8 _ _ eD) hDo (by kernel_rfl) (go _ _ _ _ _ _ _ T4 (by kernel_rfl) (by kernel_rfl) (by kernel_rfl))
    | obj i => exact getDi (v := .ref a6) (l8 _ _ eD) hDo (by kernel_rfl) (go _ _ _ _ _ _ _ T6 (by kernel_rfl) (by kernel_rfl) (by kernel_rfl))
  | arr rows => exact getDi (v := .ref a5) (l8 _ _ eD) hDo (by kernel_rfl) (go _ _ _ _ _ _ _ T5 (by kernel_rfl) (by kernel_rfl) (by kernel_rfl))
end
end Mine
end
section
open PySem PySem.W PySem.Calls PyProof.Rows Builtin Builtin.ObjectAttr PySem.SeqAt
set_option Elab.async false
set_option maxRecDepth 100000
set_option linter.unusedVariables false
namespace Mine
theorem vkw (f : Frm) : f.vk.word = f.word := by
  cases f with
  | leaf l => cases l <;> rfl
  | arr _ => rfl
theorem shp_head (f : Frm) : ∃ r, shp f = .tuple (.str f.word :: r) := by
  cases f with
  | leaf l =>
    cases l with
    | obj i => exact ⟨_, by rw [shp]; rfl⟩
    | _ => exact ⟨_, shp_leaf (by simp)⟩
  | arr rows => exact ⟨_, by rw [shp]; rfl⟩
theorem shp_word {f g : Frm} (h : shp f = shp g) : f.word = g.word := by
  obtain ⟨r, e⟩ := shp_head f
  obtain ⟨r', e'⟩ := shp_head g
  rw [e, e'] at h
  simp at h
  exact h.1
theorem shps_len {rows rows' : List FRow} (h : shps rows = shps rows') : rows.length = rows'.length := by
  have := congrArg List.length h
  rw [shps_map, shps_map] at this
  simpa using this
theorem data_inj {k k' : Key} (h : k.data = k'.data) : k = k' := by cases k <;> cases k' <;> simp [Key.data] at h <;> rw [h]
theorem shps_get {rows rows' : List FRow} (h : shps rows = shps rows') {i : Nat} {r r' : FRow} (e : rows[i]? = some r) (e' : rows'[i]? = some r') : r.1 = r'.1 ∧ shp r.2.2 = shp r'.2.2 := by
  rw [shps_map, shps_map] at h
  have := congrArg (fun l => l[i]?) h
  simp only [List.getElem?_map, e, e'] at this
  simp at this
  exact ⟨data_inj this.1, this.2⟩
theorem shps_snoc {rows rows' : List FRow} {i : Nat} {r r' : FRow} (h : shps (rows.take i) = shps (rows'.take i)) (e : rows[i]? = some r) (e' : rows'[i]? = some r') (h1 : r.1 = r'.1) (h2 : shp r.2.2 = shp r'.2.2) : shps (rows.take (i + 1)) = shps (rows'.take (i + 1)) := by
  rw [List.take_add_one, List.take_add_one, e, e', shps_map, shps_map, List.map_append, List.map_append, ← shps_map (rows.take i), ← shps_map (rows'.take i), h]
  simp [h1, h2]
noncomputable def Lf.tag : Lf → Nat
  | .nul => 0 | .bool _ => 1 | .int _ => 2 | .str _ => 3 | .obj _ => 4
theorem word_tag {l l' : Lf} (h : l.word = l'.word) : l.tag = l'.tag := by
  cases l <;> cases l' <;> first | rfl | (simp only [Lf.word] at h; exact absurd h (by decide +kernel))
theorem lf_inj {l l' : Lf} (hw : l.word = l'.word) (h : l.data = l'.data) : l = l' := by
  cases l <;> cases l' <;> first | (exfalso; have := word_tag hw; simp [Lf.tag] at this; done) | rfl | (have h' := PyData.bool.inj h; rw [h']) | (have h' := PyData.str.inj h; rw [h']) | (have h' := Int.ofNat.inj (PyData.int.inj h); rw [h'])
theorem shp_leaf_inj {l l' : Lf} (h : shp (.leaf l) = shp (.leaf l')) : l = l' := by
  have hw : l.word = l'.word := shp_word h
  refine lf_inj hw ?_
  cases l <;> cases l' <;> first | (exfalso; have := word_tag hw; simp [Lf.tag] at this; done) | rfl | (simp [shp] at h; first | exact h.2 | simp [Lf.data, h])
noncomputable abbrev Apart (B B' : Addr → Prop) : Prop := ∀ b, B b → B' b → False
section
variable {c : Cx} {A : Around} {u u' : PM} {O : Nat → Addr} {f g : Frm} {v w : Value} {rows : List FRow} {srows : List Row} {B B' : Addr → Prop} {r : Bool} {Q : Value → PM → Prop} {t t' : Tok}
theorem ltB {p q r : Bool} (e : decide (b2i p < b2i q) = r) (h : Q (.bool r) u) : RU c A (compareOp .Lt (.bool p) (.bool q)) u Q := by
  subst e; exact fun hp tk B E => PyProof.Rows.lt_bool (OutX.same h E B)
theorem gtB {p q r : Bool} (e : decide (b2i p > b2i q) = r) (h : Q (.bool r) u) : RU c A (compareOp .Gt (.bool p) (.bool q)) u Q := by
  subst e; exact fun hp tk B E => PyProof.Rows.gt_bool (OutX.same h E B)
/-- a leaf against a leaf of the same word -/
theorem eq_leaf {l l' : Lf} {v w : Value} (h1 : l.pay v) (h2 : l'.pay w) (hw : l.word = l'.word) (hno : ∀ i, l ≠ .obj i) (q : ∀ b, (b = true ↔ l = l') → Q (.bool b) u) : RU c A (compareOp .Eq v w) u Q := by
  cases l <;> cases l' <;> first | (exfalso; have := word_tag hw; simp [Lf.tag] at this; done) | skip
  · cases h1; cases h2; exact eqN (q _ (by simp))
  · cases h1; cases h2; exact eqB (q _ (by simp))
  · obtain ⟨t, rfl⟩ := h1; obtain ⟨t', rfl⟩ := h2; exact eqI (q _ ⟨fun z => by rw [Int.ofNat.inj (beq_iff_eq.mp z)], fun z => by cases z; exact beq_self_eq_true _⟩)
  · obtain ⟨t, rfl⟩ := h1; obtain ⟨t', rfl⟩ := h2; exact eqS (q _ (by simp))
  · exact absurd rfl (hno _)
/-- two arrays, one of them perhaps the other -/
theorem isA {a b dx dx' : Addr} {F F' : AF} {srows srows' : List Row} (M : ArrM c u a dx F srows) (M' : ArrM c u b dx' F' srows') (q : ∀ r, (r = true ↔ a = b) → Q (.bool r) u) : RU c A (compareOp .Is (.ref a) (.ref b)) u Q := by
  by_cases e : a = b
  · subst e; exact isR (q _ (by simp))
  · obtain ⟨_, _, _, _, _, S, _⟩ := M
    obtain ⟨_, _, _, _, _, S', _⟩ := M'
    exact isO e S.ins.at_ S'.ins.at_ (by simp) (q _ (by simp [e]))
theorem count_of {a dx : Addr} {F : AF} {ex : Bool} (M : ArrM c u a dx F srows) (q : ∀ t, Q (.int srows.length t) u) : RU c A (getAttr (.ref a) (so "count") ex) u Q := by
  obtain ⟨hc, _, _, _, _, S, _⟩ := M
  exact aGet S (i := 6) (v := .int F.count F.tc) (by kernel_rfl) rfl rfl (hc ▸ q _)
noncomputable def SameOk (c : Cx) (O : Nat → Addr) (N d : Nat) : Prop := ∀ (A : Around) (u : PM) (B B' : Addr → Prop) (f g : Frm) (v w : Value) (dp : Int) (t : Tok) (Q : Value → PM → Prop), Room A (2 * d + 4) → ObjsOk c u O → TV c u O B f v → TV c u O B' g w → WF N d f → WF N d g → (Apart B B' ∨ (v = w ∧ f = g)) → dp + d < 40 →
  (∀ b u', (b = true ↔ shp f = shp g) → Le u u' → Q (.bool b) u') → RUc c A (.ref 384) [v, w, .int dp t] u Q
/-- same_arrays -/
theorem same_arrays {N d : Nat} {rows rows' : List FRow} {srows srows' : List Row} {a b dx dx' : Addr} {F F' : AF} {dp : Int} (R : Room A (2 * d + 5)) (ih : SameOk c O N d) (hO : ObjsOk c u O) (M : ArrM c u a dx F srows) (M' : ArrM c u b dx' F' srows') (hr : All2 (SR c u O B) rows srows) (hr' : All2 (SR c u O B') rows' srows')
    (W : WR N d rows) (W' : WR N d rows') (hap : Apart B B') (hdp : dp + d + 1 < 40) (q : ∀ b u', (b = true ↔ shps rows = shps rows') → Le u u' → Q (.bool b) u') : RUc c A (.ref 391) [.ref a, .ref b, .int dp t] u Q := F_same_arrays R.lt fun A' D => by
  have R' : Room A' (2 * d + 4) := R.step D
  have W4 := W.len
  have W4' := W'.len
  have hl := hr.len
  have hl' := hr'.len
  refine count_of M fun t1 => count_of M' fun t2 => neI' rfl (trB ?_)
  cases hc : ((srows.length : Int) != (srows'.length : Int)) with
  | true =>
    refine q false u ⟨(fun z => nomatch z), fun z => ?_⟩ (Le.refl u)
    have := shps_len z
    simp at hc; omega
  | false =>
    have hc' : srows.length = srows'.length := by simp at hc; omega
    refine fun t3 => geI' (r := false) (decide_eq_false (by omega)) (trB ⟨kp (by decide), (c_slots (R'.le (by omega)) M' fun D1 o1 xs1 u1 l1 e1 L1 hD1 X1 => fun t4 => ⟨kp (by decide), (c_slots (R'.le (by omega)) (M.grow l1) fun D2 o2 xs2 u2 l2 e2 L2 hD2 X2 => ?_).ru⟩).ru⟩)
    have l02 := l1.trans l2
    refine ⟨_, _, _, _, (fun tgt _ => iterList (R'.le (Nat.zero_le _)).h e2 L2), fun i vs1 u3 => ∃ tt s5 s6 s7 s8, vs1 = [some (.ref a), some (.ref b), some (.int dp t), some (.ref D1), some (.int i tt), s5, s6, s7, s8] ∧ Le u2 u3 ∧ shps (rows.take i) = shps (rows'.take i), ⟨t4, none, none, none, none, rfl, Le.refl _, rfl⟩, ?_, ?_⟩
    · rintro i x vs1 u3 u4 hi ⟨tt, s5, s6, s7, s8, rfl, l3, hsh⟩ - l34 hx
      have hi1 : i < rows.length := by rw [X2.1] at hi; omega
      have hi2 : i < rows'.length := by omega
      have l24 := l3.trans l34
      have l04 := l02.trans l24
      have ei : rows[i]? = some rows[i] := by simp [hi1]
      have ei' : rows'[i]? = some rows'[i] := by simp [hi2]
      obtain ⟨⟨k1, s1⟩, hy, hk1, w1, hs1, ht1⟩ := hr.get i _ ei
      obtain ⟨⟨k2, s2⟩, hy', hk2, w2, hs2, ht2⟩ := hr'.get i _ ei'
      obtain ⟨x1, hx1, T1, kv1, rfl, hT1, hkv1⟩ := X2.2 i _ hy
      obtain ⟨x2, hx2, T2, kv2, rfl, hT2, hkv2⟩ := X1.2 i _ hy'
      rw [hx1] at hx
      cases hx
      have L4 : Lst u4 D1 xs1 := Lst.le ⟨o1, e1, L1⟩ (l2.trans l24)
      refine unpT (n := 2) (hT1.le l24) rfl (R'.le (Nat.zero_le _)).h ?_
      refine inPyL L4 ⟨rfl, getL L4 (by omega) (big (by omega)) (by simpa using hx2) (unpT (n := 2) (hT2.le (l2.trans l24)) rfl (R'.le (Nat.zero_le _)).h ?_)⟩
      refine neKey hkv1 hkv2 rfl (trB ?_)
      have H : ∀ {u9}, Le u4 u9 → ∀ p ∈ [(D2, o2)], u9 p.1 = some p.2 := fun l p hp => by rw [List.mem_singleton.mp hp]; exact l _ _ (l24 _ _ e2)
      cases hkk : decide (k1 ≠ k2) with
      | true =>
        refine q false u4 ⟨(fun z => nomatch z), fun z => ?_⟩ l04
        have := (shps_get z ei ei').1
        exact absurd (hk1.trans (this.trans hk2.symm)) (of_decide_eq_true hkk)
      | false =>
        have hkk' : k1 = k2 := by simpa using hkk
        have hO4 := hO.le l04
        refine ⟨kp (by decide), kp (by decide), (c_derefS (R'.le (by omega)) hO4 (hs1.le l04) (ht1.le l04) ⟨kp (by decide), (c_derefS (R'.le (by omega)) hO4 (hs2.le l04) (ht2.le l04) fun t5 => addI fun t6 => ?_).ru⟩).ru⟩
        refine (ih _ u4 _ _ _ _ w1 w2 _ t6 _ R' hO4 (ht1.le l04) (ht2.le l04) (W.wf _ (List.getElem_mem hi1)) (W'.wf _ (List.getElem_mem hi2)) (.inl hap) (by omega) fun r u5 hr5 l45 => trB ?_).ru
        cases r with
        | false =>
          refine q false u5 ⟨(fun z => nomatch z), fun z => ?_⟩ (l04.trans l45)
          exact absurd (hr5.mpr (shps_get z ei ei').2) (by decide)
        | true =>
          refine fun t7 => iaddI fun t8 => ⟨H l45, t8, _, _, _, _, rfl, l24.trans l45, ?_⟩
          exact shps_snoc hsh ei ei' (hk1.symm.trans (hkk'.trans hk2)) (hr5.mp rfl)
    · rintro vs1 u3 ⟨tt, s5, s6, s7, s8, rfl, l3, hsh⟩ -
      rw [List.take_of_length_le (by rw [X2.1]; omega), List.take_of_length_le (by rw [X2.1]; omega)] at hsh
      exact q true u3 ⟨fun _ => hsh, fun _ => rfl⟩ (l02.trans l3)
end
end Mine
end
section
open PySem PySem.W PySem.Calls PyProof.Rows Builtin Builtin.ObjectAttr PySem.SeqAt
set_option Elab.async false
set_option maxRecDepth 100000
set_option linter.unusedVariables false
namespace Mine
theorem word_ne {f g : Frm} {b : Bool} (e : (f.word != g.word) = b) : b = true → shp f ≠ shp g := fun hb z => by
  subst hb
  have := shp_word z
  rw [this] at e
  simp at e
theorem word_leaf_arr {l : Lf} : l.word ≠ so "array" := by cases l <;> (show so _ ≠ so "array") <;> decide +kernel
section
variable {c : Cx} {A : Around} {u u' : PM} {O : Nat → Addr} {f g : Frm} {v w : Value} {rows : List FRow} {srows : List Row} {B B' : Addr → Prop} {r : Bool} {Q : Value → PM → Prop} {t t' : Tok}
theorem same_step {N : Nat} (d : Nat) (ih : ∀ d', d = d' + 1 → SameOk c O N d') : SameOk c O N d := fun A u B B' f g v w dp t Q R hO hf hg hwf hwg hap hdp q => F_same_at R.lt fun A' D => by
  have R' : Room A' (2 * d + 3) := R.step D
  refine ⟨kp (by decide), (c_kind (R'.le (by omega)) (hf.isK hO) (vk125 f) (vk147 f) fun t1 => ⟨kp (by decide), (c_kind (R'.le (by omega)) (hg.isK hO) (vk125 g) (vk147 g) fun t2 => ?_).ru⟩).ru⟩
  rw [vkw, vkw]
  refine neS' rfl (trB ?_)
  cases hw : (f.word != g.word) with
  | true => exact q false u ⟨(fun z => nomatch z), fun z => absurd z (word_ne hw rfl)⟩ (Le.refl u)
  | false =>
    have hw' : f.word = g.word := by simpa using hw
    cases hff : f with
    | arr rows =>
      subst hff
      cases hgg : g with
      | leaf l => subst hgg; exact absurd hw'.symm word_leaf_arr
      | arr rows' =>
        subst hgg
        obtain ⟨a, dx, F, srows, rfl, hB, M, hr⟩ := hf.arrs
        obtain ⟨b, dx', F', srows', rfl, hB', M', hr'⟩ := hg.arrs
        obtain ⟨d', rfl⟩ : ∃ d', d = d' + 1 := by cases hwf; exact ⟨_, rfl⟩
        refine fun t3 => eqS' (r := true) (by kernel_rfl) (trB ?_)
        refine isA M M' fun r hr0 => trB ?_
        cases r with
        | true =>
          refine q true u ⟨fun _ => ?_, fun _ => rfl⟩ (Le.refl u)
          have e := hr0.mp rfl
          rcases hap with h | ⟨_, h⟩
          · subst e; exact (h _ hB hB').elim
          · rw [h]
        | false =>
          have hne : a ≠ b := fun e => by have := hr0.mpr e; cases this
          have hap' : Apart B B' := by
            rcases hap with h | ⟨h, _⟩
            · exact h
            · injection h with h; exact absurd h hne
          refine ⟨kp (by decide), (same_arrays (R'.le (by omega)) (ih d' rfl) hO M M' hr hr' (WR.of hwf) (WR.of hwg) (fun x h1 h2 => hap' x h1.1 h2.1) (by omega) fun r u' h l => q r u' ?_ l).ru⟩
          rw [h, shp, shp]; simp
    | leaf l =>
      subst hff
      cases hgg : g with
      | arr rows' => subst hgg; exact absurd hw' word_leaf_arr
      | leaf l' =>
        subst hgg
        cases hf with
        | obj i hi =>
          cases hg with
          | leaf _ hp' hno' =>
            have hww : (Lf.obj i).word = l'.word := hw'
            cases l' <;> first | (exfalso; have := word_tag hww; simp [Lf.tag] at this; done) | exact absurd rfl (hno' _)
          | obj j hj =>
            refine fun t3 => eqS' (r := false) (by kernel_rfl) (trB fun t4 => eqS' (r := true) (by kernel_rfl) (trB ?_))
            by_cases e : i = j
            · subst e; exact isR (q true u ⟨fun _ => rfl, fun _ => rfl⟩ (Le.refl u))
            · have ne : O i ≠ O j := by
                have := hO.ne
                rcases (show (i = 0 ∧ j = 1) ∨ (i = 1 ∧ j = 0) by omega) with ⟨rfl, rfl⟩ | ⟨rfl, rfl⟩
                · exact this
                · exact this.symm
              obtain ⟨_, _, _, _, _, _, _, I, _⟩ := hO.o i hi
              obtain ⟨_, _, _, _, _, _, _, J, _⟩ := hO.o j hj
              refine isO ne I.at_ J.at_ (by simp) (q false u ⟨(fun z => nomatch z), fun z => ?_⟩ (Le.refl u))
              have := shp_leaf_inj z
              injection this with this
              exact absurd this e
        | leaf _ hp hno =>
          have hp' : l'.pay w := by
            cases hg with
            | leaf _ h _ => exact h
            | obj j hj =>
              have hww : l.word = (Lf.obj j).word := hw'
              cases l <;> first | (exfalso; have := word_tag hww; simp [Lf.tag] at this; done) | exact absurd rfl (hno _)
          refine fun t3 => eqS' (r := false) (beq_eq_false_iff_ne.mpr word_leaf_arr) (trB fun t4 => eqS' (r := false) (by cases l <;> first | exact absurd rfl (hno _) | kernel_rfl) (trB ?_))
          refine eq_leaf hp hp' hw' hno fun b hb => q b u ⟨fun z => by rw [hb.mp z], fun z => hb.mpr (shp_leaf_inj z)⟩ (Le.refl u)
theorem c_same_at {N : Nat} : ∀ d, SameOk c O N d
  | 0 => same_step 0 fun d' e => by omega
  | d + 1 => same_step (d + 1) fun d' e => by
    have : d' = d := by omega
    subst this; exact c_same_at d'
/-- same(a, b) -/
theorem c_same {N d : Nat} (R : Room A (2 * d + 5)) (hd : d < 40) (hO : ObjsOk c u O) (hf : TV c u O B f v) (hg : TV c u O B' g w) (hwf : WF N d f) (hwg : WF N d g) (hap : Apart B B' ∨ (v = w ∧ f = g)) (q : ∀ b u', (b = true ↔ shp f = shp g) → Le u u' → Q (.bool b) u') : RUc c A (.ref 377) [v, w] u Q := F_same R.lt fun A' D =>
  ⟨kp (by decide), fun t => (c_same_at d A' u B B' f g v w 0 t _ (R.step D) hO hf hg hwf hwg hap (by omega) q).ru⟩
end
end Mine
end
section
open PySem PySem.W PySem.Calls PyProof.Rows Builtin Builtin.ObjectAttr PySem.SeqAt
set_option Elab.async false
set_option maxRecDepth 100000
set_option linter.unusedVariables false
namespace Mine
section
variable {c : Cx} {A : Around} {u u' : PM} {O : Nat → Addr} {f g : Frm} {v w hv : Value} {rows : List FRow} {srows : List Row} {B B' : Addr → Prop} {r : Bool} {Q : Value → PM → Prop} {t t' : Tok}
theorem c_check {dp : Int} (R : Room A 1) (h : dp ≤ 40) (q : Q .none u) : RUc c A (.ref 701) [.int dp t] u Q := F_check_depth R.lt fun A' D =>
  fun t1 => gtI' (r := false) (decide_eq_false (by omega)) (trB q)
theorem c_signI {n : Int} (R : Room A 1) (q : ∀ t, Q (.int 0 t) u) : RUc c A (.ref 680) [.int n t, .int n t'] u Q := F_sign_of R.lt fun A' D =>
  ltI' (r := false) (decide_eq_false (by omega)) (trB (gtI' (r := false) (decide_eq_false (by omega)) (trB fun t => q t)))
theorem c_signB {b : Bool} (R : Room A 1) (q : ∀ t, Q (.int 0 t) u) : RUc c A (.ref 680) [.bool b, .bool b] u Q := F_sign_of R.lt fun A' D =>
  ltB (r := false) (by cases b <;> rfl) (trB (gtB (r := false) (by cases b <;> rfl) (trB fun t => q t)))
theorem c_to_boolN (R : Room A 2) (q : Q (.bool false) u) : RUc c A (.ref 638) [.none] u Q := F_to_bool R.lt fun A' D =>
  ⟨kp (by decide), (c_kind (k := .leaf "NoneType") (R.step D) .none rfl rfl fun t1 => fun t2 => eqS' (r := true) (by kernel_rfl) (trB q)).ru⟩
theorem c_to_boolB {b : Bool} (R : Room A 2) (q : Q (.bool b) u) : RUc c A (.ref 638) [.bool b] u Q := F_to_bool R.lt fun A' D =>
  ⟨kp (by decide), (c_kind (k := .leaf "bool") (R.step D) (.bool b) rfl rfl fun t1 => fun t2 => eqS' (r := false) (by kernel_rfl) (trB fun t3 => eqS' (r := false) (by kernel_rfl) (trB fun t4 => eqS' (r := false) (by kernel_rfl) (trB fun t5 => eqS' (r := false) (by kernel_rfl) (trB fun t6 =>
    neBy (r := b) (fun h tk E => by have := RcNeAt.bool_int (A := A') (s := sh c h tk) b 0 t6; cases b <;> exact this) q))))).ru⟩
theorem c_cobj {x : Addr} {dp : Value} (R : Room A 1) (q : ∀ t, Q (.int 0 t) u) : RUc c A (.ref 715) [hv, .ref x, .ref x, dp] u Q := F_compare_objects R.lt fun A' D => isR (trB fun t => q t)
/-- first in ('null', 'bool') -/
theorem inNB {K : Bool → PM → Prop} {x : Str} {tx : Tok} (R : Room A 0) (hx : (so "null" == x || so "bool" == x) = true) (hK : ∀ u2, Le u u2 → K true u2) (ta tb : Tok) : RU c A (newTuple [.str (so "null") ta, .str (so "bool") tb]) u (fun y u2 => RU c A (compareOp .In (.str x tx) y) u2 fun r u3 => RU c A (truthy r) u3 K) :=
  tupG rfl fun Y u2 TY l2 => inTup (fun y => match y with | .str z _ => z == x | _ => false) TY (fun h tk E y hy => by
    rcases List.mem_cons.mp hy with rfl | hy
    · exact EqAt.str_str _ _ _ _
    · rw [List.mem_singleton.mp hy]; exact EqAt.str_str _ _ _ _) (trB (by
    have : ([Value.str (so "null") ta, Value.str (so "bool") tb].any fun y => match y with | .str z _ => z == x | _ => false) = true := by
      simp only [List.any_cons, List.any_nil, Bool.or_false]
      exact hx
    rw [this]; exact hK u2 l2))
/-- compare: of leaves that are alike -/
theorem c_compare {dp : Int} {l : Lf} (R : Room A 4) (hO : ObjsOk c u O) (hf : TV c u O B (.leaf l) v) (hg : TV c u O B' (.leaf l) w) (hns : ∀ s, l ≠ .str s) (hdp : dp ≤ 40) (q : ∀ t u', Le u u' → Q (.int 0 t) u') : RUc c A (.ref 744) [hv, v, w, .int dp t] u Q := F_compare R.lt fun A' D => by
  have R' := R.step D
  refine ⟨kp (by decide), (c_check (R'.le (by omega)) hdp ?_).ru⟩
  refine ⟨kp (by decide), (c_kind (R'.le (by omega)) (hf.isK hO) (vk125 _) (vk147 _) fun t1 => ⟨kp (by decide), (c_kind (R'.le (by omega)) (hg.isK hO) (vk125 _) (vk147 _) fun t2 => tupG rfl fun X u1 TX l1 => unpT (n := 2) TX rfl (R'.le (Nat.zero_le _)).h ?_).ru⟩).ru⟩
  cases hf with
  | obj i hi =>
    cases hg with
    | obj _ _ =>
      exact fun t3 => eqS' (r := false) (by kernel_rfl) (trB fun t4 => eqS' (r := false) (by kernel_rfl) (trB fun t5 => eqS' (r := false) (by kernel_rfl) (trB fun t6 => eqS' (r := false) (by kernel_rfl) (trB fun t7 => eqS' (r := true) (by kernel_rfl) (trB fun t8 => eqS' (r := true) (by kernel_rfl) (trB ⟨kp (by decide), (c_cobj (R'.le (by omega)) fun t => q t u1 l1).ru⟩))))))
    | leaf _ h hno => exact absurd rfl (hno _)
  | leaf _ h1 hno =>
    cases hg with
    | obj i hi => exact absurd rfl (hno _)
    | leaf _ h2 _ =>
      have hu : A'.in1.units < cLine := by have := lt_cLine R' (n := 1) (by decide); exact this
      cases l with
      | obj i => exact absurd rfl (hno _)
      | str s => exact absurd rfl (hns _)
      | int n =>
        obtain ⟨ta, rfl⟩ := h1; obtain ⟨tb, rfl⟩ := h2
        exact fun t3 => eqS' (r := true) (by kernel_rfl) (trB fun t4 => eqS' (r := true) (by kernel_rfl) (trB ⟨kp (by decide), (c_signI (R'.le (by omega)) fun t => q t u1 l1).ru⟩))
      | nul =>
        cases h1; cases h2
        exact fun t3 => eqS' (r := false) (by kernel_rfl) (trB fun t4 => eqS' (r := false) (by kernel_rfl) (trB fun t5 => eqS' (r := true) (by kernel_rfl) (trB fun t6 => eqS' (r := false) (by kernel_rfl) (trB fun t7 => eqS' (r := false) (by kernel_rfl) (trB fun t8 => eqS' (r := false) (by kernel_rfl) (trB
          (fun ta tb => inNB (R'.le (Nat.zero_le _)) (by kernel_rfl) (fun u2 l2 => ⟨kp (by decide), kp (by decide), (c_to_boolN (R'.le (by omega)) ⟨kp (by decide), (c_to_boolN (R'.le (by omega)) (c_signB (R'.le (by omega)) fun t => q t u2 (l1.trans l2)).ru).ru⟩).ru⟩) ta tb)))))))
      | bool b =>
        cases h1; cases h2
        exact fun t3 => eqS' (r := false) (by kernel_rfl) (trB fun t4 => eqS' (r := false) (by kernel_rfl) (trB fun t5 => eqS' (r := false) (by kernel_rfl) (trB fun t6 => eqS' (r := false) (by kernel_rfl) (trB fun t7 => eqS' (r := false) (by kernel_rfl) (trB
          (fun ta tb => inNB (R'.le (Nat.zero_le _)) (by kernel_rfl) (fun u2 l2 => ⟨kp (by decide), kp (by decide), (c_to_boolB (R'.le (by omega)) ⟨kp (by decide), (c_to_boolB (R'.le (by omega)) (c_signB (R'.le (by omega)) fun t => q t u2 (l1.trans l2)).ru).ru⟩).ru⟩) ta tb))))))
end
end Mine
end
section
open PySem PySem.W PySem.Calls PyProof.Rows Builtin Builtin.ObjectAttr PySem.SeqAt
set_option Elab.async false
set_option maxRecDepth 100000
set_option linter.unusedVariables false
namespace Mine
section
variable {c : Cx} {A : Around} {u u' : PM} {O : Nat → Addr} {f g : Frm} {v w hv : Value} {rows : List FRow} {srows : List Row} {B B' : Addr → Prop} {r : Bool} {Q : Value → PM → Prop} {t t' : Tok}
noncomputable def LooseOk (c : Cx) (O : Nat → Addr) (N d : Nat) : Prop := ∀ (A : Around) (u : PM) (B B' : Addr → Prop) (f g : Frm) (v w hv : Value) (dp : Int) (t : Tok) (Q : Value → PM → Prop), Room A (2 * d + 7) → ObjsOk c u O → TV c u O B f v → TV c u O B' g w → WF N d f → WF N d g → (Apart B B' ∨ v = w) → dp + d ≤ 40 → shp f = shp g →
  (∀ u', Le u u' → Q (.bool true) u') → T_loose_equal c A [some hv, some v, some w, some (.int dp t), none, none] u (fun f _ u' => Q (retOf f) u')
/-- equal_arrays, of arrays that are alike -/
theorem equal_arrays {N d : Nat} {rows rows' : List FRow} {srows srows' : List Row} {a b dx dx' : Addr} {F F' : AF} {dp : Int} (R : Room A (2 * d + 9)) (ih : LooseOk c O N d) (hO : ObjsOk c u O) (M : ArrM c u a dx F srows) (M' : ArrM c u b dx' F' srows') (hr : All2 (SR c u O B) rows srows) (hr' : All2 (SR c u O B') rows' srows')
    (W : WR N d rows) (W' : WR N d rows') (hap : Apart B B' ∨ a = b) (hdp : dp + d + 1 ≤ 40) (hs : shps rows = shps rows') (q : ∀ u', Le u u' → Q (.bool true) u') : RUc c A (.ref 751) [hv, .ref a, .ref b, .int dp t] u Q := F_equal_arrays R.lt fun A' D => by
  have R' : Room A' (2 * d + 8) := R.step D
  have W4 := W.len
  have W4' := W'.len
  have hl := hr.len
  have hl' := hr'.len
  have hrl := shps_len hs
  refine isA M M' fun r hr0 => trB ?_
  cases r with
  | true => exact q u (Le.refl u)
  | false =>
    have hap' : Apart B B' := by
      rcases hap with h | h
      · exact h
      · have := hr0.mpr h; cases this
    refine count_of M fun t1 => count_of M' fun t2 => neI' (r := false) (by simp; omega) (trB ⟨kp (by decide), (c_slots (R'.le (by omega)) M fun D1 o1 xs1 u1 l1 e1 L1 hD1 X1 => ?_).ru⟩)
    refine ⟨_, _, _, _, (fun tgt _ => iterList (R'.le (Nat.zero_le _)).h e1 L1), fun i vs1 u3 => ∃ s4 s5, vs1 = [some hv, some (.ref a), some (.ref b), some (.int dp t), s4, s5] ∧ Le u1 u3, ⟨none, none, rfl, Le.refl _⟩, ?_, ?_⟩
    · rintro i x vs1 u3 u4 hi ⟨s4, s5, rfl, l3⟩ - l34 hx
      have hi1 : i < rows.length := by rw [X1.1] at hi; omega
      have hi2 : i < rows'.length := by omega
      have l14 := l3.trans l34
      have l04 := l1.trans l14
      have ei : rows[i]? = some rows[i] := by simp [hi1]
      have ei' : rows'[i]? = some rows'[i] := by simp [hi2]
      obtain ⟨hke, hse⟩ := shps_get hs ei ei'
      obtain ⟨⟨k1, s1⟩, hy, hk1, w1, hs1, ht1⟩ := hr.get i _ ei
      obtain ⟨⟨k2, s2⟩, hy', hk2, w2, hs2, ht2⟩ := hr'.get i _ ei'
      have hkk : k1 = k2 := hk1.trans (hke.trans hk2.symm)
      subst hkk
      obtain ⟨x1, hx1, T1, kv1, rfl, hT1, hkv1⟩ := X1.2 i _ hy
      rw [hx1] at hx
      cases hx
      have M4 := M'.grow l04
      have hin : ∃ r ∈ srows', r.1 = k1 := ⟨_, List.mem_of_getElem? hy', rfl⟩
      refine unpT (n := 2) (hT1.le l14) rfl (R'.le (Nat.zero_le _)).h ?_
      have mh := M4
      obtain ⟨_, _, _, _, _, S4, _⟩ := mh
      refine fun pl => mHas S4 ⟨kp (by decide), (c_has (b := true) (R'.le (by omega)) M4 hkv1 ⟨fun _ => hin, fun _ => rfl⟩ fun u5 l45 => trB ?_).ru⟩
      have l05 := l04.trans l45
      have hO5 := hO.le l05
      have M5 := M4.grow l45
      have mh := M5
      obtain ⟨_, _, _, _, _, S5, _⟩ := mh
      refine ⟨kp (by decide), kp (by decide), (c_derefS (R'.le (by omega)) hO5 (hs1.le l05) (ht1.le l05) ⟨kp (by decide), fun pl => mSlot S5 ⟨kp (by decide), (c_slot (R'.le (by omega)) M5 hkv1 hin fun s u6 l56 hm => ?_).ru⟩⟩).ru⟩
      have hse' : s = s2 := by
        obtain ⟨j, hj, hje⟩ := List.getElem_of_mem hm
        have hnd : (srows'.map (·.1)).Nodup := by rw [keys_eq hr']; exact W'.nd
        obtain ⟨hi3, hi4⟩ := List.getElem?_eq_some_iff.mp hy'
        have : j = i := by
          have h1 : (srows'.map (·.1))[j]'(by simpa using hj) = (srows'.map (·.1))[i]'(by simpa using hi3) := by simp [hje, hi4]
          exact (List.getElem_inj hnd).mp h1
        subst this
        rw [hi4] at hje
        injection hje with _ h
        exact h.symm
      subst hse'
      have l06 := l05.trans l56
      have hO6 := hO.le l06
      refine (c_derefS (R'.le (by omega)) hO6 (hs2.le l06) (ht2.le l06) fun t5 => addI fun t6 => ?_).ru
      refine (F_loose_equal (A := A') (R'.lt) fun A'' D' => ih A'' u6 _ _ _ _ w1 w2 hv _ t6 _ (R'.step D') hO6 (ht1.le l06) (ht2.le l06) (W.wf _ (List.getElem_mem hi1)) (W'.wf _ (List.getElem_mem hi2)) (.inl hap') (by omega) hse fun u7 l67 => trB ?_).ru
      exact ⟨fun p hp => by rw [List.mem_singleton.mp hp]; exact l67 _ _ (l56 _ _ (l45 _ _ (l14 _ _ e1))), _, _, rfl, l14.trans (l45.trans (l56.trans l67))⟩
    · rintro vs1 u3 ⟨s4, s5, rfl, l3⟩ -
      exact q u3 (l1.trans l3)
theorem loose_step {N : Nat} (d : Nat) (ih : ∀ d', d = d' + 1 → LooseOk c O N d') : LooseOk c O N d := fun A u B B' f g v w hv dp t Q R hO hf hg hwf hwg hap hdp hs q => by
  refine ⟨kp (by decide), (c_check (R.le (by omega)) (by omega) ?_).ru⟩
  refine ⟨kp (by decide), (c_kind (R.le (by omega)) (hf.isK hO) (vk125 _) (vk147 _) fun t1 => ⟨kp (by decide), (c_kind (R.le (by omega)) (hg.isK hO) (vk125 _) (vk147 _) fun t2 => tupG rfl fun X u1 TX l1 => unpT (n := 2) TX rfl (R.le (Nat.zero_le _)).h ?_).ru⟩).ru⟩
  have hO1 := hO.le l1
  have hf1 := hf.le l1
  have hg1 := hg.le l1
  cases hff : f with
  | arr rows =>
    subst hff
    cases hgg : g with
    | leaf l => subst hgg; exact absurd (shp_word hs).symm word_leaf_arr
    | arr rows' =>
      subst hgg
      obtain ⟨a, dx, F, srows, rfl, hB, M, hr⟩ := hf1.arrs
      obtain ⟨b, dx', F', srows', rfl, hB', M', hr'⟩ := hg1.arrs
      obtain ⟨d', rfl⟩ : ∃ d', d = d' + 1 := by cases hwf; exact ⟨_, rfl⟩
      have hs' : shps rows = shps rows' := by rw [shp, shp] at hs; simpa using hs
      refine fun t3 => eqS' (r := false) (by kernel_rfl) (trB fun t4 => eqS' (r := true) (by kernel_rfl) (trB fun t5 => eqS' (r := true) (by kernel_rfl) (trB ⟨kp (by decide), ?_⟩)))
      refine (equal_arrays (R.le (by omega)) (ih d' rfl) hO1 M M' hr hr' (WR.of hwf) (WR.of hwg) ?_ (by omega) hs' fun u' l => q u' (l1.trans l)).ru
      rcases hap with h | h
      · exact .inl fun x h1 h2 => h x h1.1 h2.1
      · injection h with h; exact .inr h
  | leaf l =>
    subst hff
    cases hgg : g with
    | arr rows' => subst hgg; exact absurd (shp_word hs) word_leaf_arr
    | leaf l' =>
      subst hgg
      have hll := shp_leaf_inj hs
      subst hll
      have notS : (∀ s, l ≠ .str s) → RU c A (call (.ref 744) [hv, v, w, .int dp t]) u1 (fun x u2 => ∀ tz, RU c A (compareOp .Eq x (.int 0 tz)) u2 Q) := fun hns =>
        (c_compare (R.le (by omega)) hO1 hf1 hg1 hns (by omega) fun t6 u2 l2 tz => eqI' (r := true) (by decide) (q u2 (l1.trans l2))).ru
      cases l with
      | str s =>
        have hp1 : (Lf.str s).pay v := by cases hf1 with | leaf _ h _ => exact h
        have hp2 : (Lf.str s).pay w := by cases hg1 with | leaf _ h _ => exact h
        obtain ⟨ta, rfl⟩ := hp1; obtain ⟨tb, rfl⟩ := hp2
        exact fun t3 => eqS' (r := true) (by kernel_rfl) (trB fun t4 => eqS' (r := true) (by kernel_rfl) (trB (eqS' (r := true) (beq_self_eq_true _) (trB (q u1 l1)))))
      | nul => exact fun t3 => eqS' (r := false) (by kernel_rfl) (trB fun t4 => eqS' (r := false) (by kernel_rfl) (trB ⟨kp (by decide), notS (by simp)⟩))
      | bool b => exact fun t3 => eqS' (r := false) (by kernel_rfl) (trB fun t4 => eqS' (r := false) (by kernel_rfl) (trB ⟨kp (by decide), notS (by simp)⟩))
      | int n => exact fun t3 => eqS' (r := false) (by kernel_rfl) (trB fun t4 => eqS' (r := false) (by kernel_rfl) (trB ⟨kp (by decide), notS (by simp)⟩))
      | obj i => exact fun t3 => eqS' (r := false) (by kernel_rfl) (trB fun t4 => eqS' (r := false) (by kernel_rfl) (trB ⟨kp (by decide), notS (by simp)⟩))
theorem loose_body {N : Nat} : ∀ d, LooseOk c O N d
  | 0 => loose_step 0 fun d' e => by omega
  | d + 1 => loose_step (d + 1) fun d' e => by
    have : d' = d := by omega
    subst this; exact loose_body d'
/-- loose_equal(host, a, b), of what is alike -/
theorem c_loose {N d : Nat} (R : Room A (2 * d + 8)) (hd : d ≤ 40) (hO : ObjsOk c u O) (hf : TV c u O B f v) (hg : TV c u O B' g w) (hwf : WF N d f) (hwg : WF N d g) (hap : Apart B B' ∨ v = w) (hs : shp f = shp g) (q : ∀ u', Le u u' → Q (.bool true) u') : RUc c A (.ref 759) [hv, v, w] u Q :=
  F_loose_equal_3 R.lt fun A' D => loose_body d A' u B B' f g v w hv 0 _ _ (R.step D) hO hf hg hwf hwg hap (by omega) hs q
end
end Mine
end
section
open PySem PySem.W PySem.Calls PyProof.Rows
set_option Elab.async false
set_option maxRecDepth 100000
set_option linter.unusedVariables false
namespace Mine
/-! the text of a shape tells the shape -/
noncomputable def LL : List Lf := [.nul, .bool false, .bool true, .int 0, .int 1, .int 2, .int 3, .int 4, .int 5, .int 6, .int 7, .int 8, .str (so ""), .str (so "1"), .str (so "x"), .str (so "0"), .str (so "2"), .str (so "3"), .str (so "4"), .str (so "5"), .str (so "6"), .str (so "7"), .str (so "8"), .str (so "9"), .obj 0, .obj 1]
noncomputable def LLT : List (List Nat) := [[40, 39, 110, 117, 108, 108, 39, 44, 32, 78, 111, 110, 101, 41], [40, 39, 98, 111, 111, 108, 39, 44, 32, 70, 97, 108, 115, 101, 41], [40, 39, 98, 111, 111, 108, 39, 44, 32, 84, 114, 117, 101, 41], [40, 39, 105, 110, 116, 39, 44, 32, 48, 41], [40, 39, 105, 110, 116, 39, 44, 32, 49, 41], [40, 39, 105, 110, 116, 39, 44, 32, 50, 41], [40, 39, 105, 110, 116, 39, 44, 32, 51, 41], [40, 39, 105, 110, 116, 39, 44, 32, 52, 41], [40, 39, 105, 110, 116, 39, 44, 32, 53, 41], [40, 39, 105, 110, 116, 39, 44, 32, 54, 41], [40, 39, 105, 110, 116, 39, 44, 32, 55, 41], [40, 39, 105, 110, 116, 39, 44, 32, 56, 41], [40, 39, 115, 116, 114, 105, 110, 103, 39, 44, 32, 39, 39, 41], [40, 39, 115, 116, 114, 105, 110, 103, 39, 44, 32, 39, 49, 39, 41], [40, 39, 115, 116, 114, 105, 110, 103, 39, 44, 32, 39, 120, 39, 41], [40, 39, 115, 116, 114, 105, 110, 103, 39, 44, 32, 39, 48, 39, 41], [40, 39, 115, 116, 114, 105, 110, 103, 39, 44, 32, 39, 50, 39, 41], [40, 39, 115, 116, 114, 105, 110, 103, 39, 44, 32, 39, 51, 39, 41], [40, 39, 115, 116, 114, 105, 110, 103, 39, 44, 32, 39, 52, 39, 41], [40, 39, 115, 116, 114, 105, 110, 103, 39, 44, 32, 39, 53, 39, 41], [40, 39, 115, 116, 114, 105, 110, 103, 39, 44, 32, 39, 54, 39, 41], [40, 39, 115, 116, 114, 105, 110, 103, 39, 44, 32, 39, 55, 39, 41], [40, 39, 115, 116, 114, 105, 110, 103, 39, 44, 32, 39, 56, 39, 41], [40, 39, 115, 116, 114, 105, 110, 103, 39, 44, 32, 39, 57, 39, 41], [40, 39, 111, 98, 106, 101, 99, 116, 39, 44, 32, 39, 65, 39, 44, 32, 48, 41], [40, 39, 111, 98, 106, 101, 99, 116, 39, 44, 32, 39, 65, 39, 44, 32, 49, 41]]
noncomputable def KST : List (List Nat) := [[48, 44, 32], [55, 44, 32], [45, 51, 44, 32], [53, 44, 32], [57, 44, 32], [49, 48, 44, 32], [49, 49, 44, 32], [39, 97, 39, 44, 32], [39, 107, 39, 44, 32], [39, 57, 97, 39, 44, 32], [39, 98, 39, 44, 32]]
noncomputable def PA : List Nat := [40, 39, 97, 114, 114, 97, 121, 39, 44, 32, 40]
noncomputable abbrev cp (s : Str) : List Nat := s.cps.toList
noncomputable def tx (f : Frm) : List Nat := cp (PyData.shown (shp f))
theorem LLT_eq : LL.map (fun l => tx (.leaf l)) = LLT := by kernel_rfl
theorem KST_eq : KS.map (fun k => cp (PyData.shown k.data) ++ [44, 32]) = KST := by kernel_rfl
noncomputable def apart (a b : List Nat) : Bool := !(a.isPrefixOf b) && !(b.isPrefixOf a)
noncomputable def pfree : List (List Nat) → Bool
  | [] => true
  | a :: r => r.all (apart a) && pfree r
theorem LLT_free : pfree (PA :: LLT) = true := by decide +kernel
theorem KST_free : pfree KST = true := by decide +kernel
theorem apart_no {a b r r' : List Nat} (h : apart a b = true) (e : a ++ r = b ++ r') : False := by
  unfold apart at h
  simp only [Bool.and_eq_true, Bool.not_eq_true', ← Bool.not_eq_true, List.isPrefixOf_iff_prefix] at h
  have h1 : a <+: a ++ r := List.prefix_append a r
  have h2 : b <+: a ++ r := e ▸ List.prefix_append b r'
  rcases List.prefix_or_prefix_of_prefix h1 h2 with z | z
  · exact h.1 z
  · exact h.2 z
theorem apart_symm {a b : List Nat} (h : apart a b = true) : apart b a = true := by unfold apart at h ⊢; rw [Bool.and_comm]; exact h
theorem pfree_at : ∀ {L : List (List Nat)}, pfree L = true → ∀ {i j : Nat} {a b : List Nat}, i < j → L[i]? = some a → L[j]? = some b → apart a b = true
  | [], _, i, j, a, b, _, h, _ => by cases h
  | x :: L, h, 0, j + 1, a, b, _, h1, h2 => by
    obtain ⟨g1, g2⟩ := Bool.and_eq_true_iff.mp h
    cases h1
    exact List.all_eq_true.mp g1 b (List.mem_of_getElem? (show L[j]? = some b from h2))
  | x :: L, h, i + 1, j + 1, a, b, hij, h1, h2 => pfree_at (Bool.and_eq_true_iff.mp h).2 (Nat.lt_of_succ_lt_succ hij) h1 h2
/-- words of a prefix-free list: the sum tells the word -/
theorem pfree_tells {L : List (List Nat)} (h : pfree L = true) {i j : Nat} {a b r r' : List Nat} (h1 : L[i]? = some a) (h2 : L[j]? = some b) (e : a ++ r = b ++ r') : i = j ∧ r = r' := by
  rcases Nat.lt_trichotomy i j with z | z | z
  · exact (apart_no (pfree_at h z h1 h2) e).elim
  · subst z
    rw [h1] at h2; cases h2
    exact ⟨rfl, List.append_cancel_left e⟩
  · exact (apart_no (apart_symm (pfree_at h z h2 h1)) e).elim
theorem lf_at {l : Lf} (h : l.ok 8) : ∃ i : Nat, LL[i]? = some l := by
  cases l with
  | nul => exact ⟨0, rfl⟩
  | bool b => cases b with | false => exact ⟨1, rfl⟩ | true => exact ⟨2, rfl⟩
  | int n =>
    have h : n ≤ 8 := h
    match n, h with
    | 0, _ => exact ⟨3, rfl⟩
    | 1, _ => exact ⟨4, rfl⟩
    | 2, _ => exact ⟨5, rfl⟩
    | 3, _ => exact ⟨6, rfl⟩
    | 4, _ => exact ⟨7, rfl⟩
    | 5, _ => exact ⟨8, rfl⟩
    | 6, _ => exact ⟨9, rfl⟩
    | 7, _ => exact ⟨10, rfl⟩
    | 8, _ => exact ⟨11, rfl⟩
    | n + 9, h => omega
  | str s =>
    have h : s ∈ SS := h
    obtain ⟨i, hi, e⟩ := List.getElem_of_mem h
    refine ⟨12 + i, ?_⟩
    have e1 : SS[i]? = some s := by rw [← e]; exact List.getElem?_eq_getElem hi
    have e2 : ∀ j : Nat, (LL.drop 12)[j]? = LL[12 + j]? := fun j => List.getElem?_drop
    have e3 : LL.drop 12 = SS.map Lf.str ++ [.obj 0, .obj 1] := rfl
    rw [← e2, e3, List.getElem?_append_left (by simpa using hi), List.getElem?_map, e1]; rfl
  | obj i =>
    have h : i < 2 := h
    match i, h with
    | 0, _ => exact ⟨24, rfl⟩
    | 1, _ => exact ⟨25, rfl⟩
theorem leaf_at {l : Lf} {i : Nat} (h : LL[i]? = some l) : LLT[i]? = some (tx (.leaf l)) := by rw [← LLT_eq, List.getElem?_map, h]; rfl
theorem leaf_tells {l l' : Lf} {r r' : List Nat} (h : l.ok 8) (h' : l'.ok 8) (e : tx (.leaf l) ++ r = tx (.leaf l') ++ r') : l = l' ∧ r = r' := by
  obtain ⟨i, hi⟩ := lf_at h
  obtain ⟨j, hj⟩ := lf_at h'
  obtain ⟨rfl, e2⟩ := pfree_tells (Bool.and_eq_true_iff.mp LLT_free).2 (leaf_at hi) (leaf_at hj) e
  rw [hi] at hj; cases hj
  exact ⟨rfl, e2⟩
theorem leaf_arr {l : Lf} {r r' : List Nat} (h : l.ok 8) (e : tx (.leaf l) ++ r = PA ++ r') : False := by
  obtain ⟨i, hi⟩ := lf_at h
  exact apart_no (List.all_eq_true.mp (Bool.and_eq_true_iff.mp LLT_free).1 _ (List.mem_of_getElem? (leaf_at hi))) e.symm
theorem key_tells {k k' : Key} {r r' : List Nat} (h : k ∈ KS) (h' : k' ∈ KS) (e : (cp (PyData.shown k.data) ++ [44, 32]) ++ r = (cp (PyData.shown k'.data) ++ [44, 32]) ++ r') : k = k' ∧ r = r' := by
  obtain ⟨i, hi, e1⟩ := List.getElem_of_mem h
  obtain ⟨j, hj, e2⟩ := List.getElem_of_mem h'
  have g : ∀ (i : Nat) (hi : i < KS.length), KST[i]? = some (cp (PyData.shown (KS[i]).data) ++ [44, 32]) := fun i hi => by rw [← KST_eq, List.getElem?_map, List.getElem?_eq_getElem hi]; rfl
  have z := pfree_tells KST_free (g i hi) (g j hj) (by rw [e1, e2]; exact e)
  obtain ⟨rfl, z⟩ := z
  exact ⟨e1.symm.trans e2, z⟩
/-! arrays -/
noncomputable def rtx (x : FRow) : List Nat := 40 :: ((cp (PyData.shown x.1.data) ++ [44, 32]) ++ (tx x.2.2 ++ [41]))
noncomputable def J2 : List FRow → List Nat
  | [] => [41]
  | [z] => rtx z ++ [41]
  | z :: w :: r => rtx z ++ (44 :: 32 :: J2 (w :: r))
noncomputable def J1 : List FRow → List Nat
  | [] => [41]
  | [z] => rtx z ++ [44, 41]
  | z :: w :: r => rtx z ++ (44 :: 32 :: J2 (w :: r))
theorem cp_app (x y : Str) : cp (x ++ y) = cp x ++ cp y := Array.toList_append
theorem row_txt (x : FRow) : cp (PyData.shown (.tuple [x.1.data, shp x.2.2])) = rtx x := by
  rw [PyData.shown_tuple, PyData.shownAll_cons, PyData.shownAll_cons, PyData.shownAll_nil]
  show cp (("(" : Str) ++ (PyData.shown x.1.data ++ ", " ++ PyData.shown (shp x.2.2)) ++ ")") = _
  rw [cp_app, cp_app, cp_app, cp_app]
  unfold rtx tx
  show [40] ++ (cp (PyData.shown x.1.data) ++ [44, 32] ++ cp (PyData.shown (shp x.2.2))) ++ [41] = _
  simp
theorem join_txt : ∀ (x y : FRow) (r : List FRow), cp (Str.join ", " (PyData.shownAll (shps (x :: y :: r)))) ++ [41] = J1 (x :: y :: r)
  | x, y, r => by
    have h : ∀ (y : FRow) (r : List FRow), cp (Str.join ", " (PyData.shownAll (shps (y :: r)))) ++ [41] = J2 (y :: r) := by
      intro y r
      induction r generalizing y with
      | nil =>
        rw [shps_map]
        show cp (Str.join ", " (PyData.shownAll [.tuple [y.1.data, shp y.2.2]])) ++ [41] = rtx y ++ [41]
        rw [PyData.shownAll_cons, PyData.shownAll_nil]
        show cp (PyData.shown (.tuple [y.1.data, shp y.2.2])) ++ [41] = _
        rw [row_txt]
      | cons z r ih =>
        have := ih z
        rw [shps_map] at this ⊢
        show cp (Str.join ", " (PyData.shownAll (.tuple [y.1.data, shp y.2.2] :: (z :: r).map fun r => .tuple [r.1.data, shp r.2.2]))) ++ [41] = rtx y ++ (44 :: 32 :: J2 (z :: r))
        rw [PyData.shownAll_cons, ← this]
        show cp (PyData.shown (.tuple [y.1.data, shp y.2.2]) ++ ", " ++ Str.join ", " _) ++ [41] = _
        rw [cp_app, cp_app, row_txt]
        show rtx y ++ [44, 32] ++ cp (Str.join ", " (PyData.shownAll _)) ++ [41] = _
        simp
    have := h y r
    rw [shps_map] at this ⊢
    show cp (Str.join ", " (PyData.shownAll (.tuple [x.1.data, shp x.2.2] :: (y :: r).map fun r => .tuple [r.1.data, shp r.2.2]))) ++ [41] = rtx x ++ (44 :: 32 :: J2 (y :: r))
    rw [PyData.shownAll_cons, ← this]
    show cp (PyData.shown (.tuple [x.1.data, shp x.2.2]) ++ ", " ++ Str.join ", " _) ++ [41] = _
    rw [cp_app, cp_app, row_txt]
    show rtx x ++ [44, 32] ++ cp (Str.join ", " (PyData.shownAll _)) ++ [41] = _
    simp
theorem tup_txt (rows : List FRow) : cp (PyData.shown (.tuple (shps rows))) = 40 :: J1 rows := by
  rw [PyData.shown_tuple]
  match rows with
  | [] => rw [shps]; rfl
  | [x] =>
    rw [shps_map]
    show cp (("(" : Str) ++ Str.join ", " (PyData.shownAll [.tuple [x.1.data, shp x.2.2]]) ++ ",)") = _
    rw [PyData.shownAll_cons, PyData.shownAll_nil]
    show cp (("(" : Str) ++ PyData.shown (.tuple [x.1.data, shp x.2.2]) ++ ",)") = _
    rw [cp_app, cp_app, row_txt]
    show [40] ++ rtx x ++ [44, 41] = 40 :: (rtx x ++ [44, 41])
    simp
  | x :: y :: r =>
    have e := join_txt x y r
    have hl : ((shps (x :: y :: r)).length == 1) = false := by rw [shps_map]; simp
    rw [hl]
    show cp (("(" : Str) ++ Str.join ", " (PyData.shownAll (shps (x :: y :: r))) ++ ")") = _
    rw [cp_app, cp_app, ← e]
    show [40] ++ _ ++ [41] = _
    simp
theorem arr_txt (rows : List FRow) : tx (.arr rows) = PA ++ (J1 rows ++ [41]) := by
  unfold tx
  rw [shp, PyData.shown_tuple, PyData.shownAll_cons, PyData.shownAll_cons, PyData.shownAll_nil]
  show cp (("(" : Str) ++ (PyData.shown (.str (so "array")) ++ ", " ++ PyData.shown (.tuple (shps rows))) ++ ")") = _
  rw [cp_app, cp_app, cp_app, cp_app, tup_txt]
  have e : cp ("(" : Str) ++ cp (PyData.shown (.str (so "array"))) ++ cp (", " : Str) ++ [40] = PA := by kernel_rfl
  rw [← e]
  show cp "(" ++ (cp (PyData.shown (.str (so "array"))) ++ cp ", " ++ 40 :: J1 rows) ++ [41] = _
  simp
/-- the text tells the shape -/
theorem tells {d : Nat} : ∀ {f : Frm}, WF 8 d f → ∀ {e : Nat} {g : Frm} {r r' : List Nat}, WF 8 e g → tx f ++ r = tx g ++ r' → shp f = shp g ∧ r = r' := by
  intro f hf
  induction hf with
  | leaf h =>
    intro e g r r' hg eq
    cases hg with
    | leaf h' => obtain ⟨e1, e2⟩ := leaf_tells h h' eq; exact ⟨by rw [e1], e2⟩
    | arr h1 h2 h3 h4 => rw [arr_txt, List.append_assoc] at eq; exact (leaf_arr h eq).elim
  | @arr d rows h1 h2 h3 h4 ih =>
    intro e g r r' hg eq
    cases hg with
    | leaf h' => rw [arr_txt, List.append_assoc] at eq; exact (leaf_arr h' eq.symm).elim
    | @arr e rows' g1 g2 g3 g4 =>
      have row : ∀ (x x' : FRow) (s s' : List Nat), x ∈ rows → x' ∈ rows' → rtx x ++ s = rtx x' ++ s' → (PyData.tuple [x.1.data, shp x.2.2] = .tuple [x'.1.data, shp x'.2.2]) ∧ s = s' := fun x x' s s' hx hx' z => by
        have z' : (cp (PyData.shown x.1.data) ++ [44, 32]) ++ (tx x.2.2 ++ ([41] ++ s)) = (cp (PyData.shown x'.1.data) ++ [44, 32]) ++ (tx x'.2.2 ++ ([41] ++ s')) := by
          have this : ((cp (PyData.shown x.1.data) ++ [44, 32]) ++ (tx x.2.2 ++ [41])) ++ s = ((cp (PyData.shown x'.1.data) ++ [44, 32]) ++ (tx x'.2.2 ++ [41])) ++ s' := (List.cons.inj z).2
          simpa only [List.append_assoc] using this
        obtain ⟨z1, z2⟩ := key_tells (h3 x hx) (g3 x' hx') z'
        obtain ⟨z3, z4⟩ := ih x hx (g4 x' hx') z2
        exact ⟨by rw [z1, z3], (List.cons.inj z4).2⟩
      have two : ∀ (l l' : List FRow) (s s' : List Nat), (∀ x ∈ l, x ∈ rows) → (∀ x ∈ l', x ∈ rows') → l ≠ [] → l' ≠ [] → J2 l ++ s = J2 l' ++ s' → shps l = shps l' ∧ s = s' := by
        intro l
        induction l with
        | nil => intro l' s s' _ _ h; exact absurd rfl h
        | cons x l ihl =>
          intro l' s s' hl hl' _ hn z
          cases l' with
          | nil => exact absurd rfl hn
          | cons x' l' =>
            have hx := hl x (List.mem_cons_self ..)
            have hx' := hl' x' (List.mem_cons_self ..)
            cases l with
            | nil =>
              cases l' with
              | nil =>
                simp only [J2, List.append_assoc] at z
                obtain ⟨z1, z2⟩ := row _ _ _ _ hx hx' z
                exact ⟨by rw [shps_map, shps_map]; simp only [List.map_cons, List.map_nil, z1], (List.cons.inj z2).2⟩
              | cons y l' =>
                simp only [J2, List.append_assoc] at z
                exact absurd (List.cons.inj (row _ _ _ _ hx hx' z).2).1 (by decide)
            | cons w l =>
              cases l' with
              | nil =>
                simp only [J2, List.append_assoc] at z
                exact absurd (List.cons.inj (row _ _ _ _ hx hx' z).2).1 (by decide)
              | cons y l' =>
                simp only [J2, List.append_assoc] at z
                obtain ⟨z1, z2⟩ := row _ _ _ _ hx hx' z
                obtain ⟨z3, z4⟩ := ihl (y :: l') s s' (fun x h => hl x (List.mem_cons_of_mem _ h)) (fun x h => hl' x (List.mem_cons_of_mem _ h)) (by simp) (by simp) (List.cons.inj (List.cons.inj z2).2).2
                refine ⟨?_, z4⟩
                rw [shps_map, shps_map] at z3 ⊢
                rw [List.map_cons, List.map_cons (l := y :: l'), z1, z3]
      simp only [arr_txt, List.append_assoc] at eq
      have eq := List.append_cancel_left eq
      have main : shps rows = shps rows' ∧ [41] ++ r = [41] ++ r' := by
        have r40 : ∀ (x : FRow) (s : List Nat), ∃ q, rtx x ++ s = 40 :: q := fun x s => ⟨_, rfl⟩
        match rows, rows', row, two, eq with
        | [], [], _, _, eq => exact ⟨rfl, (List.cons.inj eq).2⟩
        | [], [x], _, _, eq => simp only [J1, List.append_assoc] at eq; obtain ⟨q, e⟩ := r40 x ([44, 41] ++ ([41] ++ r')); rw [e] at eq; exact absurd (List.cons.inj eq).1 (by decide)
        | [], x :: y :: l, _, _, eq => simp only [J1, List.append_assoc] at eq; obtain ⟨q, e⟩ := r40 x (44 :: 32 :: J2 (y :: l) ++ ([41] ++ r')); rw [e] at eq; exact absurd (List.cons.inj eq).1 (by decide)
        | [x], [], _, _, eq => simp only [J1, List.append_assoc] at eq; obtain ⟨q, e⟩ := r40 x ([44, 41] ++ ([41] ++ r)); rw [e] at eq; exact absurd (List.cons.inj eq).1 (by decide)
        | x :: y :: l, [], _, _, eq => simp only [J1, List.append_assoc] at eq; obtain ⟨q, e⟩ := r40 x (44 :: 32 :: J2 (y :: l) ++ ([41] ++ r)); rw [e] at eq; exact absurd (List.cons.inj eq).1 (by decide)
        | [x], [x'], row, _, eq =>
          simp only [J1, List.append_assoc] at eq
          obtain ⟨z1, z2⟩ := row _ _ _ _ (List.mem_cons_self ..) (List.mem_cons_self ..) eq
          exact ⟨by rw [shps_map, shps_map]; simp only [List.map_cons, List.map_nil, z1], (List.cons.inj (List.cons.inj z2).2).2⟩
        | [x], x' :: y :: l, row, _, eq =>
          simp only [J1, List.append_assoc] at eq
          obtain ⟨z1, z2⟩ := row _ _ _ _ (List.mem_cons_self ..) (List.mem_cons_self ..) eq
          exact absurd (List.cons.inj (List.cons.inj z2).2).1 (by decide)
        | x' :: y :: l, [x], row, _, eq =>
          simp only [J1, List.append_assoc] at eq
          obtain ⟨z1, z2⟩ := row _ _ _ _ (List.mem_cons_self ..) (List.mem_cons_self ..) eq
          exact absurd (List.cons.inj (List.cons.inj z2).2).1 (by decide)
        | x :: y :: l, x' :: y' :: l', row, two, eq =>
          simp only [J1, List.append_assoc] at eq
          obtain ⟨z1, z2⟩ := row _ _ _ _ (List.mem_cons_self ..) (List.mem_cons_self ..) eq
          obtain ⟨z3, z4⟩ := two (y :: l) (y' :: l') _ _ (fun x h => List.mem_cons_of_mem _ h) (fun x h => List.mem_cons_of_mem _ h) (by simp) (by simp) (List.cons.inj (List.cons.inj z2).2).2
          refine ⟨?_, z4⟩
          rw [shps_map, shps_map] at z3 ⊢
          rw [List.map_cons, List.map_cons (l := y' :: l'), z1, z3]
      rw [shp, shp, main.1]
      exact ⟨rfl, List.append_cancel_left main.2⟩
theorem shown_tells {d e : Nat} {f g : Frm} (hf : WF 8 d f) (hg : WF 8 e g) : PyData.shown (shp f) = PyData.shown (shp g) ↔ shp f = shp g := by
  refine ⟨fun h => ?_, fun h => by rw [h]⟩
  exact (tells hf hg (r := []) (r' := []) (by unfold tx; rw [h])).1
end Mine
end
section
open PySem PySem.W PySem.Calls PyProof.Rows Builtin Builtin.ObjectAttr PySem.SeqAt
set_option Elab.async false
set_option maxRecDepth 100000
set_option linter.unusedVariables false
namespace Mine
structure Nice (d : PyData) (D : Nat) : Prop where
  s : d.showable = true
  h : d.hasDict = false
  d : d.depth ≤ D
theorem nice_all {ds : List PyData} {D : Nat} (h : ∀ d ∈ ds, Nice d D) : PyData.showableAll ds = true ∧ PyData.hasDictAll ds = false ∧ PyData.depthAll ds ≤ D := by
  induction ds with
  | nil => simp [PyData.showableAll, PyData.hasDictAll, PyData.depthAll]
  | cons x r ih =>
    obtain ⟨a, b, e⟩ := ih fun d hd => h d (List.mem_cons_of_mem _ hd)
    have n := h x (List.mem_cons_self ..)
    simp only [PyData.showableAll, PyData.hasDictAll, PyData.depthAll, n.s, n.h, a, b]
    exact ⟨rfl, rfl, Nat.max_le.mpr ⟨n.d, e⟩⟩
theorem nice_tup {ds : List PyData} {D : Nat} (h : ∀ d ∈ ds, Nice d D) : Nice (.tuple ds) (D + 1) := by
  obtain ⟨a, b, e⟩ := nice_all h
  exact ⟨by simp only [PyData.showable, a], by simp only [PyData.hasDict, b], by simp only [PyData.depth]; omega⟩
theorem nice_str (s : Str) (D : Nat) : Nice (.str s) D := ⟨by simp only [PyData.showable], by simp only [PyData.hasDict], by simp only [PyData.depth]; omega⟩
theorem nice_none (D : Nat) : Nice .none D := ⟨by simp only [PyData.showable], by simp only [PyData.hasDict], by simp only [PyData.depth]; omega⟩
theorem nice_bool (b : Bool) (D : Nat) : Nice (.bool b) D := ⟨by simp only [PyData.showable], by simp only [PyData.hasDict], by simp only [PyData.depth]; omega⟩
theorem nice_int (i : Int) (D : Nat) (h : i.natAbs ≤ 1000) : Nice (.int i) D := ⟨by
  simp only [PyData.showable, decide_eq_true_eq]
  exact Nat.lt_of_le_of_lt (Nat.log2_le_self _) (by omega), by simp only [PyData.hasDict], by simp only [PyData.depth]; omega⟩
theorem nice_key {k : Key} (h : k ∈ KS) (D : Nat) : Nice k.data D := by
  cases k with
  | i n =>
    refine nice_int n D ?_
    have : ∀ k ∈ KS, (match k with | .i n => decide (n.natAbs ≤ 1000) | .s _ => true) = true := by decide +kernel
    exact of_decide_eq_true (this _ h)
  | s x => exact nice_str x D
theorem pair_nice {a b : PyData} {D : Nat} (h1 : Nice a D) (h2 : Nice b D) : Nice (.tuple [a, b]) (D + 1) := nice_tup fun d hd => by
  rcases List.mem_cons.mp hd with rfl | hd
  · exact h1
  · rw [List.mem_singleton.mp hd]; exact h2
theorem Nice.up {d : PyData} {D E : Nat} (h : Nice d D) (e : D ≤ E) : Nice d E := ⟨h.s, h.h, Nat.le_trans h.d e⟩
theorem shp_nice {d : Nat} {f : Frm} (h : WF 8 d f) : Nice (shp f) (3 * d + 1) := by
  induction h with
  | @leaf d l h =>
    refine Nice.up (D := 1) ?_ (by omega)
    cases l with
    | nul => rw [shp_leaf (by simp)]; exact pair_nice (nice_str _ _) (nice_none _)
    | bool b => rw [shp_leaf (by simp)]; exact pair_nice (nice_str _ _) (nice_bool _ _)
    | int n => rw [shp_leaf (by simp)]; exact pair_nice (nice_str _ _) (nice_int _ _ (by have h : n ≤ 8 := h; omega))
    | str s => rw [shp_leaf (by simp)]; exact pair_nice (nice_str _ _) (nice_str _ _)
    | obj i =>
      rw [shp]
      have h : i < 2 := h
      refine nice_tup fun d hd => ?_
      rcases List.mem_cons.mp hd with rfl | hd
      · exact nice_str _ _
      rcases List.mem_cons.mp hd with rfl | hd
      · exact nice_str _ _
      · rw [List.mem_singleton.mp hd]; exact nice_int _ _ (by omega)
  | @arr d rows h1 h2 h3 h4 ih =>
    rw [shp]
    refine Nice.up (pair_nice (D := 3 * d + 3) (nice_str _ _) ?_) (by omega)
    refine nice_tup fun x hx => ?_
    rw [shps_map] at hx
    obtain ⟨r, hr, rfl⟩ := List.mem_map.mp hx
    exact pair_nice (nice_key (h3 r hr) _) (ih r hr)
/-! lengths -/
noncomputable def lenB : Nat → Nat
  | 0 => 30
  | d + 1 => 40 + 4 * (lenB d + 20)
theorem lenB_pos (d : Nat) : 30 ≤ lenB d := by cases d with | zero => exact Nat.le_refl _ | succ d => unfold lenB; omega
theorem rtx_len {x : FRow} {n : Nat} (hk : x.1 ∈ KS) (h : (tx x.2.2).length ≤ n) : (rtx x).length ≤ n + 10 := by
  have : ∀ k ∈ KS, (cp (PyData.shown k.data)).length ≤ 4 := by
    intro k hk
    obtain ⟨i, hi, e⟩ := List.getElem_of_mem hk
    have h2 : ∀ w ∈ KST, w.length ≤ 6 := by decide +kernel
    have h3 : cp (PyData.shown k.data) ++ [44, 32] ∈ KST := by rw [← KST_eq]; exact List.mem_map.mpr ⟨k, hk, rfl⟩
    have := h2 _ h3
    simp at this; omega
  have hk := this _ hk
  unfold rtx
  simp only [List.length_cons, List.length_append, List.length_nil]
  omega
theorem J2_len {n : Nat} : ∀ {rows : List FRow}, (∀ x ∈ rows, (rtx x).length ≤ n) → (J2 rows).length ≤ rows.length * (n + 2) + 1
  | [], _ => by simp [J2]
  | [z], h => by have := h z (List.mem_cons_self ..); simp [J2]; omega
  | z :: w :: r, h => by
    have h1 := h z (List.mem_cons_self ..)
    have h2 := J2_len (rows := w :: r) fun x hx => h x (List.mem_cons_of_mem _ hx)
    simp only [J2, List.length_append, List.length_cons] at h2 ⊢
    have : (r.length + 1 + 1) * (n + 2) = (r.length + 1) * (n + 2) + (n + 2) := Nat.succ_mul _ _
    omega
theorem J1_len {n : Nat} : ∀ {rows : List FRow}, (∀ x ∈ rows, (rtx x).length ≤ n) → (J1 rows).length ≤ rows.length * (n + 2) + 1
  | [], _ => by simp [J1]
  | [z], h => by have := h z (List.mem_cons_self ..); simp [J1]; omega
  | z :: w :: r, h => by
    have h1 := h z (List.mem_cons_self ..)
    have h2 := J2_len (rows := w :: r) fun x hx => h x (List.mem_cons_of_mem _ hx)
    simp only [J1, List.length_append, List.length_cons] at h2 ⊢
    have : (r.length + 1 + 1) * (n + 2) = (r.length + 1) * (n + 2) + (n + 2) := Nat.succ_mul _ _
    omega
theorem tx_len {d : Nat} {f : Frm} (h : WF 8 d f) : (tx f).length ≤ lenB d := by
  induction h with
  | @leaf d l h =>
    obtain ⟨i, hi⟩ := lf_at h
    have h2 : ∀ w ∈ LLT, w.length ≤ 30 := by decide +kernel
    exact Nat.le_trans (h2 _ (List.mem_of_getElem? (leaf_at hi))) (lenB_pos d)
  | @arr d rows h1 h2 h3 h4 ih =>
    have := J1_len (n := lenB d + 10) fun x hx => rtx_len (h3 x hx) (ih x hx)
    have hm : rows.length * (lenB d + 10 + 2) ≤ 4 * (lenB d + 10 + 2) := Nat.mul_le_mul_right _ h1
    rw [arr_txt]
    simp only [List.length_append, List.length_cons, List.length_nil]
    have hp : PA.length = 11 := rfl
    unfold lenB
    omega
theorem shown_fits {d : Nat} {f : Frm} (h : WF 8 d f) (hd : d ≤ 4) : (PyData.shown (shp f)).length ≤ sizeLine := by
  have e : (PyData.shown (shp f)).length = (tx f).length := by unfold tx cp; simp [Str.length]
  have mono : ∀ d, d ≤ 4 → lenB d ≤ 20000 := by decide
  rw [e, sizeLine_eq]
  have := tx_len h
  have := mono d hd
  omega
section
variable {c : Cx} {A : Around} {u : PM} {Q : Value → PM → Prop}
/-- repr of a shape -/
theorem c_repr {d k : Nat} {f : Frm} {v : Value} (R : Room A k) (h : RD u v (shp f)) (hw : WF 8 d f) (hd : d ≤ 4) (q : ∀ t, Q (.str (PyData.shown (shp f)) t) u) : RU c A (call (.builtin "repr") [v]) u Q := by
  have n := shp_nice hw
  have hv : ∃ a, v = .ref a := by
    obtain ⟨r, e⟩ := shp_head f
    rw [e] at h
    cases h; exact ⟨_, rfl⟩
  obtain ⟨a, rfl⟩ := hv
  exact reprD R (fun hp E => h.reads E) n.s n.h (Nat.le_trans n.d (by omega)) (shown_fits hw hd) q
end
end Mine
end
section
open PySem PySem.W PySem.Calls PyProof.Rows Builtin Builtin.ObjectAttr PySem.SeqAt
set_option Elab.async false
set_option maxRecDepth 100000
set_option linter.unusedVariables false
namespace Mine
/-- a list of n lists of n bools -/
noncomputable def brow (b : Nat → Nat → Bool) (n k : Nat) : List Value := (List.range n).map fun j => .bool (b k j)
noncomputable def Mat (u : PM) (r : Addr) (n : Nat) (b : Nat → Nat → Bool) : Prop := ∃ xs, Lst u r xs ∧ xs.length = n ∧ ∀ k, k < n → ∃ l, xs[k]? = some (.ref l) ∧ Lst u l (brow b n k)
theorem Mat.le {u u' : PM} {r : Addr} {n : Nat} {b : Nat → Nat → Bool} (h : Mat u r n b) (l : Le u u') : Mat u' r n b := let ⟨xs, h1, h2, h3⟩ := h; ⟨xs, h1.le l, h2, fun k hk => let ⟨a, e, x⟩ := h3 k hk; ⟨a, e, x.le l⟩⟩
theorem brow_at {b : Nat → Nat → Bool} {n k j : Nat} (h : j < n) : (brow b n k)[j]? = some (.bool (b k j)) := by simp [brow, h]
theorem brow_len {b : Nat → Nat → Bool} {n k : Nat} : (brow b n k).length = n := by simp [brow]
theorem brow_eq {b b' : Nat → Nat → Bool} {n k k' : Nat} (h : ∀ j, j < n → b k j = b' k' j) : brow b n k = brow b' n k' := by
  unfold brow
  refine List.map_congr_left fun j hj => ?_
  rw [h j (by simpa using hj)]
section
variable {c : Cx} {A : Around} {u u' : PM} {Q : Value → PM → Prop}
theorem lists_same {l l' : Addr} {xs : List Value} (R : Room A 0) (h : Lst u l xs) (h' : Lst u l' xs) (q : Q (.bool false) u) : RU c A (compareOp .NotEq (.ref l) (.ref l')) u Q :=
  neBy (r := false) (fun hp tk E => by
    have := RcNeAt.lists (A := A) (s := sh c hp tk) (e := fun _ => true) (h.isList E) (h'.isList E) rfl (by have := lt_cLine R (n := 0) (by decide); omega) (fun j h1 h2 => EqAt.same _)
    have e : (!(List.range xs.toArray.size).all fun _ => true) = false := by simp
    rwa [e] at this) q
theorem Mat.row {r : Addr} {n : Nat} {b : Nat → Nat → Bool} {k : Nat} {t : Tok} {Q : Value → PM → Prop} (M : Mat u r n b) (hk : k < n) (hn : n < 1000000) (q : ∀ l, Lst u l (brow b n k) → Q (.ref l) u) : RU c A (getitemInPython (.ref r)) u fun z u3 => z = false ∧ RU c A (getItem (.ref r) (.int k t)) u3 Q := by
  obtain ⟨xs, h1, h2, h3⟩ := M
  obtain ⟨l, e, L⟩ := h3 k hk
  exact inPyL h1 ⟨rfl, getL h1 (by omega) (by omega) (by simpa using e) (q l L)⟩
theorem row_at {l : Addr} {n : Nat} {b : Nat → Nat → Bool} {k j : Nat} {t : Tok} {Q : Value → PM → Prop} (L : Lst u l (brow b n k)) (hj : j < n) (hn : n < 1000000) (q : Q (.bool (b k j)) u) : RU c A (getitemInPython (.ref l)) u fun z u3 => z = false ∧ RU c A (getItem (.ref l) (.int j t)) u3 Q :=
  inPyL L ⟨rfl, getL L (by omega) (by omega) (by simpa using brow_at hj) q⟩
/-- _law_is_equivalence(rows) -/
theorem c_equiv {r : Addr} {n : Nat} {b : Nat → Nat → Bool} (R : Room A 1) (M : Mat u r n b) (hn : n < 1000000) (h1 : ∀ k, k < n → b k k = true) (h2 : ∀ k j, k < n → j < n → b k j = b j k) (h3 : ∀ k j, k < n → j < n → b k j = true → ∀ i, i < n → b k i = b j i)
    (q : ∀ u', Le u u' → Q (.bool true) u') : RUc c A (.ref 818) [.ref r] u Q := F__law_is_equivalence R.lt fun A' D => by
  have R' := R.step D
  obtain ⟨xs, hx, hxl, _⟩ := id M
  refine ⟨kprT, kprB, lenL hx (by omega) fun t1 => rng1 fun g og hg Lg => ?_⟩
  have l1 := upd_le hg (o := og)
  rw [hxl] at Lg
  have eg : upd u g og g = some og := upd_self
  generalize upd u g og = u1 at l1 eg
  have M1 := M.le l1
  refine ⟨_, _, _, _, (fun tgt _ => iterRange R'.h eg Lg hn), fun i vs1 u2 => ∃ s2 s3, vs1 = [some (.ref r), some (.ref g), s2, s3] ∧ Le u1 u2, ⟨none, none, rfl, Le.refl _⟩, ?_, ?_⟩
  · rintro k v vs1 u2 u3 hk ⟨s2, s3, rfl, l2⟩ - l23 ⟨tk, rfl⟩
    have l3 := l2.trans l23
    refine ⟨_, _, _, _, (fun tgt _ => iterRange R'.h (l3 _ _ eg) Lg hn), fun i vs1 u2 => ∃ s3, vs1 = [some (.ref r), some (.ref g), some (.int k tk), s3] ∧ Le u1 u2, ⟨s3, rfl, l3⟩, ?_, ?_⟩
    · rintro j v vs1 u4 u5 hj ⟨s3, rfl, l4⟩ - l45 ⟨tj, rfl⟩
      have l5 := l4.trans l45
      have M5 := M1.le l5
      refine M5.row hk hn fun lk Lk => row_at Lk hk hn (trB ?_)
      rw [h1 k hk]
      refine M5.row hk hn fun lk' Lk' => row_at Lk' hj hn (M5.row hj hn fun lj Lj => row_at Lj hk hn (neB (trB ?_)))
      rw [h2 k j hk hj, bne_self_eq_false]
      refine M5.row hk hn fun lk2 Lk2 => row_at Lk2 hj hn (trB ?_)
      cases hb : b k j with
      | false => exact ⟨trivial, _, rfl, l5⟩
      | true =>
        refine M5.row hk hn fun lk3 Lk3 => M5.row hj hn fun lj3 Lj3 => lists_same R' Lk3 ?_ (trB ⟨trivial, _, rfl, l5⟩)
        rw [brow_eq (h3 k j hk hj hb)]; exact Lj3
    · rintro vs1 u4 ⟨s3, rfl, l4⟩ -
      exact ⟨trivial, _, _, rfl, l4⟩
  · rintro vs1 u2 ⟨s2, s3, rfl, l2⟩ -
    exact q u2 (l1.trans l2)
end
end Mine
end
section
open PySem PySem.W PySem.Calls PyProof.Rows Builtin Builtin.ObjectAttr PySem.SeqAt
set_option Elab.async false
set_option maxRecDepth 100000
set_option linter.unusedVariables false
namespace Mine
section
variable {c : Cx} {A : Around} {u u' : PM} {Q : Value → PM → Prop}
/-- a list over a list -/
theorem comp2 {el : ET} {l : Addr} {xs : List Value} {n src : Nat} {b : Nat → Nat → Bool} {ss : List (Option Value)} (R : Room A 0) (hv : nth ss src = some (.ref l)) (L : Lst u l xs) (hl : xs.length = n) (hn : n ≤ 1000)
    (hel : ∀ (k j : Nat) x y u1 (Q : Value → PM → Prop), k < n → j < n → xs[k]? = some x → xs[j]? = some y → Le u u1 → (∀ u2, Le u1 u2 → Q (.bool (b k j)) u2) → el c A [some y, some x] u1 Q) (q : ∀ r u1, Mat u1 r n b → Le u u1 → Q (.ref r) u1) :
    tComp 0 (tLoc src) (gSlot 0) bTrue (tComp 0 (tLoc 1) (gSlot 0) bTrue el 1 [0]) 1 [src] c A ss u Q := tLocI hv (by
  obtain ⟨o, e, Lo⟩ := id L
  refine ⟨_, _, _, _, (fun tgt _ => iterList R.h e Lo), lenSz (by omega), fun i acc vs1 u1 => ∃ pl, vs1 = [pl, some (.ref l)] ∧ Le u u1 ∧ acc.length = i ∧ ∀ k, k < i → ∃ a, acc[k]? = some (.ref a) ∧ Lst u1 a (brow b n k), ⟨none, by simp [hv], Le.refl _, rfl, fun k hk => absurd hk (by omega)⟩, ?_, ?_⟩
  · rintro k acc v vs1 u2 u3 hk ⟨pl, rfl, l2, ha, X⟩ - l23 hx
    rw [hl] at hk
    have l3 := l2.trans l23
    refine ⟨_, _, _, _, (fun tgt _ => iterList R.h (l3 _ _ e) Lo), lenSz (by omega), fun j acc2 vs2 u4 => ∃ pl, vs2 = [pl, some v] ∧ Le u3 u4 ∧ acc2 = (List.range j).map fun j => .bool (b k j), ⟨none, rfl, Le.refl _, rfl⟩, ?_, ?_⟩
    · rintro j acc2 w vs2 u4 u5 hj ⟨pl2, rfl, l4, rfl⟩ - l45 hy
      rw [hl] at hj
      have l5 := l3.trans (l4.trans l45)
      refine hel k j v w u5 _ hk hj hx hy l5 fun u6 l56 => ⟨fun p hp => ?_, _, rfl, l4.trans (l45.trans l56), ?_⟩
      · rw [List.mem_singleton.mp hp]; exact l5.trans l56 _ _ e
      · rw [List.range_succ, List.map_append]; rfl
    · rintro acc2 vs2 u4 D oD ⟨pl2, rfl, l4, rfl⟩ - hD hD0 LD
      rw [hl] at LD
      have l5 := l4.trans (upd_le hD (o := oD))
      refine ⟨fun p hp => ?_, _, rfl, l3.trans l5, by simp [ha], fun i hi => ?_⟩
      · rw [List.mem_singleton.mp hp]; exact l3.trans l5 _ _ e
      · by_cases z : i = k
        · subst z
          exact ⟨D, by simp [← ha], oD, upd_self, LD⟩
        · obtain ⟨a, h1, h2⟩ := X i (by omega)
          exact ⟨a, by rw [List.getElem?_append_left (by omega)]; exact h1, h2.le (l23.trans l5)⟩
  · rintro acc vs1 u2 D oD ⟨pl, -, l2, ha, X⟩ - hD hD0 LD
    rw [hl] at ha X
    exact q D _ ⟨acc, ⟨oD, upd_self, LD⟩, ha, fun k hk => let ⟨a, h1, h2⟩ := X k hk; ⟨a, h1, h2.le (upd_le hD)⟩⟩ (l2.trans (upd_le hD)))
/-- two such lists, alike -/
theorem mats_same {r r' : Addr} {n : Nat} {b : Nat → Nat → Bool} (R : Room A 0) (M : Mat u r n b) (M' : Mat u r' n b) (q : Q (.bool false) u) : RU c A (compareOp .NotEq (.ref r) (.ref r')) u Q := by
  obtain ⟨xs, h1, h2, h3⟩ := M
  obtain ⟨ys, h1', h2', h3'⟩ := M'
  refine neBy (r := false) (fun hp tk E => ?_) q
  have := RcNeAt.lists (A := A) (s := sh c hp tk) (e := fun _ => true) (h1.isList E) (h1'.isList E) (by simp [h2, h2']) (by have := lt_cLine R (n := 0) (by decide); omega) (fun j g1 g2 => by
    have gj : j < n := by simpa [h2] using g1
    obtain ⟨a, e1, L1⟩ := h3 j gj
    obtain ⟨a', e2, L2⟩ := h3' j gj
    have f1 : xs.toArray[j] = .ref a := by
      have : xs[j]? = some xs.toArray[j] := by simp [show j < xs.length by omega]
      rw [e1] at this; exact (Option.some.inj this).symm
    have f2 : ys.toArray[j] = .ref a' := by
      have : ys[j]? = some ys.toArray[j] := by simp [show j < ys.length by omega]
      rw [e2] at this; exact (Option.some.inj this).symm
    rw [f1, f2]
    by_cases z : a = a'
    · subst z; exact EqAt.same _
    · refine EqAt.of_refs z ?_
      have t := RcAt.lists (A := A.in1) (s := sh c hp tk) (e := fun _ => true) (L1.isList E) (L2.isList E) rfl (by have := lt_cLine R (n := 1) (by decide); exact this) (fun j g1 g2 => EqAt.same _)
      have e : ((List.range (brow b n j).toArray.size).all fun _ => true) = true := by simp
      rwa [e] at t)
  have e : (!(List.range xs.toArray.size).all fun _ => true) = false := by simp
  rwa [e] at this
theorem nils_same {l l' : Addr} (R : Room A 0) (h : Lst u l []) (h' : Lst u l' []) (q : Q (.bool true) u) : RU c A (compareOp .Eq (.ref l) (.ref l')) u Q :=
  eqBy (r := true) (fun hp tk E => by
    have := RcAt.lists (A := A) (s := sh c hp tk) (e := fun _ => true) (h.isList E) (h'.isList E) rfl (by have := lt_cLine R (n := 0) (by decide); omega) (fun j h1 h2 => EqAt.same _)
    exact this) q
theorem keepP {l : Addr} {o : Obj} (eo : u l = some o) (h : Le u u') : ∀ p ∈ [(l, o)], u' p.1 = some p.2 := fun p hp => by rw [List.mem_singleton.mp hp]; exact h _ _ eo
/-- for k, x in enumerate(list) -/
theorem tEnum {l : Addr} {xs : List Value} {i : Nat} {g : TT} {b : ST} {ss : List (Option Value)} {Q : Flow → List (Option Value) → PM → Prop} (R : Room A 0) {o : Obj} (hv : nth ss i = some (.ref l)) (eo : u l = some o) (Lo : LstO o xs) (J : Nat → List (Option Value) → PM → Prop) (h0 : J 0 ss u)
    (step : ∀ (k : Nat) x t vs1 u2 u3 T, xs[k]? = some x → J k vs1 u2 → Le u u2 → Le u2 u3 → Tup u3 T [.int k t, x] → g c A vs1 u3 (.ref T) fun vs2 u4 => b c A vs2 u4 fun f vs3 u5 => match f with
      | .next | .cont => (∀ p ∈ [(l, o)], u5 p.1 = some p.2) ∧ Le u u5 ∧ J (k + 1) vs3 u5
      | .brk => Q .next vs3 u5
      | .ret v => Q (.ret v) vs3 u5) (fin : ∀ vs1 u2, J xs.length vs1 u2 → Le u u2 → Q .next vs1 u2) : tFor (tCall (tVal (.type "enumerate")) (lCons (tLoc i) lNil)) 1 g b c A ss u Q :=
  ⟨kprT, tLocI hv (enumCall ⟨o, eo, Lo⟩ fun e it oi he hi hne h0e h0i Li => by
    refine ⟨_, _, _, _, iterEnum R.h eo Lo Li he hi hne h0e h0i, fun k vs1 u2 => Le u u2 ∧ J k vs1 u2, ⟨Le.refl u, h0⟩, ?_, ?_⟩
    · rintro k v vs1 u2 u3 hk ⟨l2, j2⟩ - l23 ⟨T, t, x, rfl, hx, hT⟩
      exact step k x t vs1 u2 u3 T hx j2 l2 l23 hT
    · rintro vs1 u2 ⟨l2, j2⟩ -
      exact fin vs1 u2 j2 l2)⟩
end
end Mine
end
section
open PySem PySem.W PySem.Calls PyProof.Rows Builtin Builtin.ObjectAttr PySem.SeqAt
set_option Elab.async false
set_option maxRecDepth 100000
set_option linter.unusedVariables false
namespace Mine
structure Things (c : Cx) (u : PM) (O : Nat → Addr) (fs : List Frm) (ts : List Value) (Bs : Nat → Addr → Prop) : Prop where
  len : ts.length = fs.length
  at_ : ∀ (k : Nat) v, ts[k]? = some v → ∃ f, fs[k]? = some f ∧ TV c u O (Bs k) f v
  ap : ∀ k j : Nat, k ≠ j → Apart (Bs k) (Bs j)
theorem Things.le {c : Cx} {u u' : PM} {O : Nat → Addr} {fs : List Frm} {ts : List Value} {Bs : Nat → Addr → Prop} (h : Things c u O fs ts Bs) (l : Le u u') : Things c u' O fs ts Bs := ⟨h.len, fun k v e => let ⟨f, a, b⟩ := h.at_ k v e; ⟨f, a, b.le l⟩, h.ap⟩
noncomputable def ShV (f : Frm) (v : Value) : Prop := ∃ t, v = .str (PyData.shown (shp f)) t
noncomputable def shd (fs : List Frm) (k : Nat) : Str := PyData.shown (shp (fs.getD k frm0))
noncomputable def sb (fs : List Frm) (k j : Nat) : Bool := shd fs k == shd fs j
theorem shd_at {fs : List Frm} {k : Nat} {f : Frm} (h : fs[k]? = some f) : shd fs k = PyData.shown (shp f) := by unfold shd; rw [List.getD_eq_getElem?_getD, h]; rfl
theorem TV.all {c : Cx} {u : PM} {O : Nat → Addr} {B : Addr → Prop} {f : Frm} {v : Value} (h : TV c u O B f v) : TV c u O tt f v := h.more fun _ _ => trivial
section
variable {c : Cx} {A : Around} {u u' : PM} {O : Nat → Addr} {Q : Value → PM → Prop}
theorem gc2 {i j : Nat} {v w : Value} {ss : List (Option Value)} {K : List (Option Value) → PM → Prop} (h : K (setN (setN ss i v) j w) u) : gCons (gSlot i) (gCons (gSlot j) gNil) c A ss u [v, w] K := h
theorem ifI {t : BT'} {p q : ST} {ss : List (Option Value)} {K : Flow → List (Option Value) → PM → Prop} (h : t c A ss u fun x u1 => match x with
  | true => p c A ss u1 K
  | false => q c A ss u1 K) : tIf t p q c A ss u K := h
theorem borI {a b : BT'} {ss : List (Option Value)} {K : Bool → PM → Prop} (h : a c A ss u fun x u1 => match x with
  | false => b c A ss u1 K
  | true => K true u1) : bOr a b c A ss u K := h
theorem cmpI {op : CmpOp} {a b : ET} {ss : List (Option Value)} {K : Bool → PM → Prop} (h : a c A ss u fun x u1 => b c A ss u1 fun y u2 => RU c A (compareOp op x y) u2 fun r u3 => RU c A (truthy r) u3 K) : bCmp op a b c A ss u K := h
theorem seqI {a b : ST} {ss : List (Option Value)} {K : Flow → List (Option Value) → PM → Prop} (h : a c A ss u fun f vs' u' => match f with
  | .next => b c A vs' u' K
  | f => K f vs' u') : tSeq a b c A ss u K := h
/-- _law_are_right(forms, things) -/
theorem c_right {fl tl : Addr} {fs : List Frm} {xs ts : List Value} {Bs : Nat → Addr → Prop} (R : Room A 17) (hO : ObjsOk c u O) (Lf' : Lst u fl xs) (hf : All2 (FV u) fs xs) (Lt : Lst u tl ts) (T : Things c u O fs ts Bs) (hw : ∀ f ∈ fs, WF 8 4 f) (hn : fs.length ≤ 100)
    (q : ∀ u', Le u u' → Q (.bool true) u') : RUc c A (.ref 823) [.ref fl, .ref tl] u Q := F__law_are_right R.lt fun A' D => by
  have R' : Room A' 16 := R.step D
  have hxl := hf.len
  have htl := T.len
  have R0 := R'.le (Nat.zero_le _)
  refine ⟨kp (by decide), c_Host (R'.le (by omega)) fun hx hdx u1 hvs nl l1 HI hn5 HL => ?_⟩
  have Lf1 := Lf'.le l1
  have hf1 := hf.mono (P' := FV u1) fun _ _ _ h => h.le l1
  obtain ⟨of', ef, Lof⟩ := id Lf1
  -- the shapes
  refine ⟨_, _, _, _, (fun tgt _ => iterList R0.h ef Lof), lenSz (by omega), fun i acc vs1 u2 => ∃ pl, vs1 = [pl] ∧ Le u1 u2 ∧ All2 ShV (fs.take i) acc, ⟨none, rfl, Le.refl _, by simp; exact .nil⟩, ?_, ?_⟩
  · rintro i acc v vs1 u2 u3 hi ⟨pl, rfl, l2, X⟩ - l23 hv
    rw [hxl] at hi
    have ei : fs[i]? = some fs[i] := by simp [hi]
    obtain ⟨y, hy, F⟩ := hf1.get i _ ei
    rw [hy] at hv; cases hv
    have l3 := l2.trans l23
    have W := hw _ (List.getElem_mem hi)
    refine ⟨kprB, kp (by decide), (c_shape 4 A' u3 _ _ _ (R'.le (by omega)) (F.le l3) W fun x u4 hx l34 => c_repr R' hx W (by omega) fun t => ⟨keepP ef (l3.trans l34), _, rfl, l3.trans l34, ?_⟩).ru⟩
    rw [List.take_add_one, ei]
    exact X.app (.cons ⟨t, rfl⟩ .nil)
  rintro sh vs1 u2 ds ods ⟨pl, -, l2, X⟩ - hds - Lds
  rw [List.take_of_length_le (by rw [hxl]; exact Nat.le_refl _)] at X
  have hsl := X.len
  have l23 := l2.trans (upd_le hds (o := ods))
  have Ls : Lst (upd u2 ds ods) ds sh := ⟨ods, upd_self, Lds⟩
  generalize upd u2 ds ods = u3 at l23 Ls
  refine tupG rfl fun Tp u4 HT l34 => unpT (n := 2) HT rfl R0.h ?_
  have l14 := l23.trans l34
  have l04 := l1.trans l14
  have Ls4 := Ls.le l34
  have Lf4 := Lf1.le l14
  have hf4 := hf1.mono (P' := FV u4) fun _ _ _ h => h.le l14
  have Lt4 := Lt.le l04
  have T4 := T.le l04
  have hO4 := hO.le l04
  have HI4 := HI.le l14
  have HL4 := HL.le l14
  clear Lf1 hf1 l34 Ls HT ef Lof
  obtain ⟨ot, et, Lot⟩ := id Lt4
  have Xat : ∀ (k : Nat) f, fs[k]? = some f → ∃ t, sh[k]? = some (.str (shd fs k) t) := fun k f e => by
    obtain ⟨y, hy, t, rfl⟩ := X.get k f e
    exact ⟨t, by rw [shd_at e]; exact hy⟩
  refine gc2 (seqI ?_)
  refine tEnum R0 (i := 1) rfl et Lot (fun k vs1 u5 => ∃ s4 s5, vs1 = [some (.ref fl), some (.ref tl), some (.ref hx), some (.ref ds), s4, s5, none, none, none]) ⟨none, none, rfl⟩ ?_ ?_
  · rintro k v t vs1 u5 u6 Tp k_x ⟨s4, s5, rfl⟩ l45 l56 HT
    have l46 := l45.trans l56
    have T6 := T4.le l46
    have hO6 := hO4.le l46
    obtain ⟨f, ef, V⟩ := T6.at_ k v k_x
    have hk : k < fs.length := (List.getElem?_eq_some_iff.mp ef).1
    have W := hw f (List.mem_of_getElem? ef)
    obtain ⟨y, hy, F⟩ := (hf4.mono (P' := FV u6) fun _ _ _ h => h.le l46).get k f ef
    obtain ⟨t', hs⟩ := Xat k f ef
    refine unpT (n := 2) HT rfl R0.h ?_
    refine ⟨kprB, kp (by decide), (c_plain (R'.le (by omega)) (by omega) hO6 V.all W fun x u7 hx7 l67 => c_repr R' hx7 W (by omega) fun t2 => ?_).ru⟩
    have l47 := l46.trans l67
    refine inPyL (Ls4.le l47) ⟨rfl, getL (Ls4.le l47) (by omega) (by omega) (by simpa using hs) (neS' (r := false) (by rw [shd_at ef, bne_self_eq_false]) (trB ?_))⟩
    refine ⟨kp (by decide), inPyL (Lf4.le l47) ⟨rfl, getL (Lf4.le l47) (by omega) (by omega) (by simpa using hy) (c_words (R'.le (by omega)) (hO4.le l47) (F.le l67) (V.le l67) fun u8 l78 => trB ?_).ru⟩⟩
    exact ⟨keepP et (l47.trans l78), l47.trans l78, _, _, rfl⟩
  rintro vs1 u5 ⟨s4, s5, rfl⟩ l45
  have T5 := T4.le l45
  have hO5 := hO4.le l45
  have Lt5 := Lt4.le l45
  have hn' : fs.length ≤ 1000 := by omega
  have sames : ∀ (k j : Nat) x y u1, ts[k]? = some x → ts[j]? = some y → Things c u1 O fs ts Bs → ∃ f g, fs[k]? = some f ∧ fs[j]? = some g ∧ TV c u1 O (Bs k) f x ∧ TV c u1 O (Bs j) g y ∧ WF 8 4 f ∧ WF 8 4 g ∧ (Apart (Bs k) (Bs j) ∨ (x = y ∧ f = g)) := fun k j x y u1 hx hy T => by
    obtain ⟨f, ef, V⟩ := T.at_ k x hx
    obtain ⟨g, eg, V'⟩ := T.at_ j y hy
    refine ⟨f, g, ef, eg, V, V', hw _ (List.mem_of_getElem? ef), hw _ (List.mem_of_getElem? eg), ?_⟩
    by_cases z : k = j
    · subst z
      rw [hx] at hy; rw [ef] at eg
      cases hy; cases eg
      exact .inr ⟨rfl, rfl⟩
    · exact .inl (T.ap k j z)
  refine seqI ?_
  refine comp2 (b := sb fs) R0 rfl Lt5 htl hn' (fun k j x y u6 Q' hk hj hx hy l56 q' => ?_) fun r u6 M l56 => ?_
  · obtain ⟨f, g, ef, eg, V, V', W, W', ap⟩ := sames k j x y u6 hx hy (T5.le l56)
    refine ⟨kp (by decide), (c_same (d := 4) (R'.le (by omega)) (by omega) (hO5.le l56) V V' W W' ap fun b u7 hb l67 => ?_).ru⟩
    have : b = sb fs k j := by
      unfold sb
      rw [shd_at ef, shd_at eg]
      have := hb.trans (shown_tells W W').symm
      cases b with
      | true => exact (beq_iff_eq.mpr (this.mp rfl)).symm
      | false =>
        symm
        rw [beq_eq_false_iff_ne]
        exact fun z => Bool.noConfusion (this.mpr z)
    rw [this]
    exact q' u7 l67
  refine seqI ?_
  have l46 := l45.trans l56
  refine ifI (borI (cmpI (tLocI (i := 7) (v := .ref r) rfl ?_)))
  refine comp2 (b := sb fs) R0 rfl (Ls4.le l46) hsl hn' (fun k j x y u7 Q' hk hj hx hy l67 q' => ?_) fun r' u7 M' l67 => ?_
  · obtain ⟨f, ef⟩ : ∃ f, fs[k]? = some f := ⟨fs[k], by simp [hk]⟩
    obtain ⟨g, eg⟩ : ∃ g, fs[j]? = some g := ⟨fs[j], by simp [hj]⟩
    obtain ⟨t1, e1⟩ := Xat k f ef
    obtain ⟨t2, e2⟩ := Xat j g eg
    rw [hx] at e1; rw [hy] at e2
    cases e1; cases e2
    exact eqS' rfl (q' u7 (Le.refl _))
  refine mats_same R0 (M.le l67) M' (trB ⟨kp (by decide), ?_⟩)
  have sbs : ∀ k j, sb fs k j = true → shd fs k = shd fs j := fun k j h => eq_of_beq h
  refine (c_equiv (n := fs.length) (b := sb fs) (R'.le (by omega)) (M.le l67) (by omega) (fun k hk => beq_self_eq_true _) (fun k j hk hj => by unfold sb; exact Bool.beq_comm ..) (fun k j hk hj h i hi => by unfold sb; rw [sbs k j h]) fun u8 l78 => trB ?_).ru
  have l48 := l46.trans (l67.trans l78)
  have M8 := M.le (l67.trans l78)
  have Lt8 := Lt4.le l48
  have T8 := T4.le l48
  have hO8 := hO4.le l48
  obtain ⟨o8, e8, Lo8⟩ := id Lt8
  dsimp only [bFalse, tNil, Bool.not_true]
  refine seqI ?_
  refine tEnum R0 (i := 1) rfl e8 Lo8 (fun k vs1 u9 => ∃ s4 s5 s6 s8, vs1 = [some (.ref fl), some (.ref tl), some (.ref hx), some (.ref ds), s4, s5, s6, some (.ref r), s8]) ⟨_, _, _, _, rfl⟩ ?_ ?_
  · rintro k v t vs1 u9 u10 Tp hkx ⟨s4, s5, s6, s8, rfl⟩ l89 l910 HT
    refine unpT (n := 2) HT rfl R0.h (gc2 (seqI ?_))
    have l810 := l89.trans l910
    have hk : k < fs.length := by have := (List.getElem?_eq_some_iff.mp hkx).1; omega
    refine tEnum R0 (i := 1) rfl (l810 _ _ e8) Lo8 (fun j vs1 u9 => ∃ s6 s8, vs1 = [some (.ref fl), some (.ref tl), some (.ref hx), some (.ref ds), some (.int k t), some v, s6, some (.ref r), s8]) ⟨_, _, rfl⟩ ?_ ?_
    · rintro j w t' vs1 u11 u12 Tp' hjx ⟨s6, s8, rfl⟩ l1011 l1112 HT'
      have l1012 := l1011.trans l1112
      have l812 := l810.trans l1012
      have hj : j < fs.length := by have := (List.getElem?_eq_some_iff.mp hjx).1; omega
      refine unpT (n := 2) HT' rfl R0.h (gc2 ?_)
      refine (M8.le l812).row hk (by omega) fun lk Lk => row_at Lk hj (by omega) (trB ?_)
      cases hb : sb fs k j with
      | false => exact ⟨keepP e8 l812, l1012, _, _, rfl⟩
      | true =>
        obtain ⟨f, g, ef, eg, V, V', W, W', ap⟩ := sames k j v w u12 hkx hjx (T8.le l812)
        have hs : shp f = shp g := (shown_tells W W').mp (by have := sbs k j hb; rwa [shd_at ef, shd_at eg] at this)
        refine ⟨kp (by decide), (c_loose (d := 4) (R'.le (by omega)) (by omega) (hO8.le l812) V V' W W' (ap.imp id fun z => z.1) hs fun u13 l1213 => trB ?_).ru⟩
        exact ⟨keepP e8 (l812.trans l1213), l1012.trans l1213, _, _, rfl⟩
    · rintro vs1 u11 ⟨s6, s8, rfl⟩ l1011
      exact ⟨keepP e8 (l810.trans l1011), l810.trans l1011, _, _, _, _, rfl⟩
  · rintro vs1 u9 ⟨s4, s5, s6, s8, rfl⟩ l89
    have l49 := l48.trans l89
    refine getA kHost (HI4.le l49) (i := 5) (by kernel_rfl) hn5 rfl (lstN sz0 fun le oe he _ Le' => ?_)
    exact nils_same R0 (HL4.le (l49.trans (upd_le he))) ⟨oe, upd_self, Le'⟩ (q _ (l04.trans (l49.trans (upd_le he))))
end
end Mine
end
section
open PySem PySem.W PySem.Calls PyProof.Rows Builtin Builtin.ObjectAttr PySem.SeqAt
set_option Elab.async false
set_option maxRecDepth 100000
set_option linter.unusedVariables false
namespace Mine
/-- a reference is set; all else stands -/
structure Sw (c : Cx) (u u' : PM) (x0 d0 : Addr) : Prop where
  eq : ∀ b, b ≠ d0 → u' b = u b
  I : ∃ w vs, Ins c u x0 d0 125 nRef (some w :: vs)
  J : ∃ vs, Ins c u' x0 d0 125 nRef vs
section
variable {c : Cx} {u u' : PM} {x0 d0 : Addr}
theorem Sw.cut (S : Sw c u u' x0 d0) {o : List Addr} (h1 : x0 ∉ o) (h2 : d0 ∉ o) : Sw c (rst u o) (rst u' o) x0 d0 := ⟨fun b hb => by
  show (if b ∈ o then Option.none else u' b) = if b ∈ o then Option.none else u b
  rw [S.eq b hb], let ⟨w, vs, I⟩ := S.I; ⟨w, vs, I.rst h1 h2⟩, let ⟨vs, I⟩ := S.J; ⟨vs, I.rst h1 h2⟩⟩
theorem Sw.keep (S : Sw c u u' x0 d0) {b : Addr} {o : Obj} (h : b ≠ d0) (e : u b = some o) : u' b = some o := (S.eq b h).trans e
theorem Sw.dct (S : Sw c u u' x0 d0) : ∃ o es ep w, u d0 = some o ∧ o.data = .dict es ep ∧ nsFind es (so "value") = some w := by
  obtain ⟨w, vs, I⟩ := S.I
  obtain ⟨o, e, es, ep, hd, _, _, hm⟩ := I.dct
  exact ⟨o, es, ep, w, e, hd, (hm _).trans (by unfold slot; rfl)⟩
theorem Sw.insD (S : Sw c u u' x0 d0) {x dx D : Addr} {ns : List Str} {vs : List (Option Value)} (I : Ins c u x dx D ns vs) (hn : so "value" ∉ ns) : dx ≠ d0 := fun z => by
  obtain ⟨o, es, ep, w, e, hd, hf⟩ := S.dct
  obtain ⟨o', e', es', ep', hd', _, _, hm⟩ := I.dct
  rw [z, e] at e'; cases e'
  rw [hd] at hd'; cases hd'
  have := hm (so "value")
  rw [hf, slot_none hn] at this; cases this
theorem Sw.insX (S : Sw c u u' x0 d0) {x dx D : Addr} {ns : List Str} {vs : List (Option Value)} (I : Ins c u x dx D ns vs) : x ≠ d0 := fun z => by
  obtain ⟨o, es, ep, w, e, hd, hf⟩ := S.dct
  have := I.at_
  rw [z, e] at this; cases this; cases hd
theorem Sw.ins (S : Sw c u u' x0 d0) {x dx D : Addr} {ns : List Str} {vs : List (Option Value)} (I : Ins c u x dx D ns vs) (h : dx ≠ d0) : Ins c u' x dx D ns vs :=
  ⟨S.keep (S.insX I) I.at_, let ⟨o, e, d⟩ := I.dct; ⟨o, S.keep h e, d⟩, I.len, I.h0⟩
theorem Sw.ml (S : Sw c u u' x0 d0) {l : Addr} {xs : List Value} (m : ML c u l xs) : l ≠ d0 := fun z => by
  obtain ⟨o, es, ep, w, e, hd, hf⟩ := S.dct
  obtain ⟨n, e'⟩ := m.e
  rw [z, e] at e'; cases e'; cases hd
theorem Sw.isK (S : Sw c u u' x0 d0) {v : Value} {k : VK} (h : IsK c u v k) : IsK c u' v k := by
  cases k with
  | leaf T => exact h
  | ref =>
    obtain ⟨x, dx, vs, rfl, I⟩ := h
    by_cases z : dx = d0
    · subst z
      obtain ⟨vs', J⟩ := S.J
      exact ⟨x, _, vs', rfl, S.keep (S.insX I) I.at_, J.dct, J.len, J.h0⟩
    · exact ⟨x, dx, vs, rfl, S.ins I z⟩
  | abs => obtain ⟨x, dx, vs, rfl, I⟩ := h; exact ⟨x, dx, vs, rfl, S.ins I (S.insD I (by decide))⟩
  | obj => obtain ⟨x, dx, vs, rfl, I⟩ := h; exact ⟨x, dx, vs, rfl, S.ins I (S.insD I (by decide))⟩
  | arr => obtain ⟨x, dx, vs, rfl, I⟩ := h; exact ⟨x, dx, vs, rfl, S.ins I (S.insD I (by decide))⟩
theorem Sw.lvl (S : Sw c u u' x0 d0) {vs : List Value} {lv : List Bool} (h : LvL c u vs lv) : LvL c u' vs lv := ⟨h.1, fun i b e => let ⟨v, h1, k, h2, h3⟩ := h.2 i b e; ⟨v, h1, k, S.isK h2, h3⟩⟩
theorem Sw.arr (S : Sw c u u' x0 d0) {a dx : Addr} {F : AF} {rows : List Row} (M : ArrM c u a dx F rows) : ArrM c u' a dx F rows := by
  obtain ⟨h, ks, vs, hs', ns, A, P⟩ := M
  have hdx := S.insD A.ins (by decide)
  have hm : ∀ {l : Addr} {xs : List Value}, ML c u l xs → ML c u' l xs := fun m => ⟨let ⟨n, e⟩ := m.e; ⟨n, S.keep (S.ml m) e⟩, m.h⟩
  have hw : F.w ≠ d0 := fun z => by
    obtain ⟨o, es, ep, w, e, hd, hf⟩ := S.dct
    have := A.wd
    rw [z, e] at this; cases this; cases hd
    cases hf
  have S' := S.cut (o := F.own dx) (by
    obtain ⟨w, vs', I⟩ := S.I
    intro z
    rcases List.mem_cons.mp z with z | z
    · obtain ⟨o, e, es, ep, hd, _⟩ := A.ins.dct
      have := I.at_
      rw [z, e] at this; cases this; cases hd
    rcases List.mem_cons.mp z with z | z
    · exact I.xL A.K.lst z
    rcases List.mem_cons.mp z with z | z
    · exact I.xL A.V.lst z
    rcases List.mem_cons.mp z with z | z
    · exact I.xL A.H.lst z
    · exact I.xL A.N.lst (List.mem_singleton.mp z)) (by
    intro z
    rcases List.mem_cons.mp z with z | z
    · exact hdx z.symm
    rcases List.mem_cons.mp z with z | z
    · exact S.ml A.K z.symm
    rcases List.mem_cons.mp z with z | z
    · exact S.ml A.V z.symm
    rcases List.mem_cons.mp z with z | z
    · exact S.ml A.H z.symm
    · exact S.ml A.N (List.mem_singleton.mp z).symm)
  refine ⟨h, ks, vs, hs', ns, ⟨S.ins A.ins hdx, S.keep hw A.wd, A.ws, hm A.K, hm A.V, hm A.H, hm A.N, A.nd, A.wdx⟩, ?_⟩
  cases P with
  | pk lv h1 h2 h3 h4 h5 => exact .pk lv h1 h2 h3 (S'.lvl h4) h5
  | hs kk sz h1 h2 h3 h4 h5 h7 h8 h9 h10 => exact .hs kk sz h1 h2 h3 (S'.lvl h4) h5 h7 h8 h9 h10
theorem Sw.lst (S : Sw c u u' x0 d0) {l : Addr} {xs : List Value} (L : Lst u l xs) : Lst u' l xs := by
  obtain ⟨o, e, L⟩ := L
  refine ⟨o, S.keep (fun z => ?_) e, L⟩
  obtain ⟨o', es, ep, w, e', hd, hf⟩ := S.dct
  obtain ⟨n, rfl⟩ := L
  rw [z, e'] at e; cases e; cases hd
end
end Mine
end
section
open PySem PySem.W PySem.Calls PyProof.Rows Builtin Builtin.ObjectAttr PySem.SeqAt
set_option Elab.async false
set_option maxRecDepth 100000
set_option linter.unusedVariables false
namespace Mine
noncomputable def dAgain (n : Int) : PyData := .tuple [.str (so "again"), .int n]
noncomputable def dOne (k : Key) (d : PyData) : PyData := .tuple [.str (so "array"), .tuple [.tuple [k.data, d]]]
/-- arrays of one row, each below the last -/
inductive PL (c : Cx) (u : PM) : Nat → List Addr → Addr → PyData → Prop
  | again {n : Nat} {above : List Addr} {a dx : Addr} (up : Nat) (hd : ∃ vs, Ins c u a dx 253 nArr vs) (h : above[up]? = some a) (hn : ∀ i, i < up → above[i]? ≠ some a) : PL c u n above a (dAgain (above.length - up))
  | one {n : Nat} {above : List Addr} {a dx : Addr} {F : AF} {k : Key} {x dr w : Addr} {vs : List (Option Value)} {d : PyData} (ha : a ∉ above) (M : ArrM c u a dx F [(k, .ref x)]) (I : Ins c u x dr 125 nRef (some (.ref w) :: vs)) (h : PL c u n (above ++ [a]) w d) : PL c u (n + 1) above a (dOne k d)
section
variable {c : Cx} {A : Around} {u u' : PM} {Q : Value → PM → Prop}
theorem PL.le {n : Nat} {above : List Addr} {a : Addr} {d : PyData} (h : PL c u n above a d) (l : Le u u') : PL c u' n above a d := by
  induction h with
  | again up hd h hn => exact .again up (let ⟨vs, I⟩ := hd; ⟨vs, I.le l⟩) h hn
  | one ha M I h ih => exact .one ha (M.grow l) (I.le l) ih
theorem PL.isA {n : Nat} {above : List Addr} {a : Addr} {d : PyData} (h : PL c u n above a d) : ∃ dx vs, Ins c u a dx 253 nArr vs := by
  cases h with
  | again up hd h hn => obtain ⟨vs, I⟩ := hd; exact ⟨_, vs, I⟩
  | one ha M I h => obtain ⟨_, ks, vs, hs', ns, S, _⟩ := M; exact ⟨_, _, S.ins⟩
theorem szLe {n : Nat} (h : n ≤ 1000) : n ≤ sizeLine := by rw [sizeLine_eq]; omega
theorem rd1 {x : Value} {d : PyData} (h : RD u x d) : All2 (fun d v => RD u v d) [d] [x] := .cons h .nil
/-- plain_at(array, above) -/
theorem ring_plain {n : Nat} {above : List Addr} {a : Addr} {d : PyData} (h : PL c u n above a d) : ∀ {A : Around} {u' : PM} {ab : Addr} {Q : Value → PM → Prop}, Room A (n + 5) → Le u u' → Lst u' ab (above.map .ref) → (∀ y ∈ above, ∃ dx, u y = some (instObj 253 dx)) → above.length + n ≤ 100 →
    (∀ x u2, RD u2 x d → Le u' u2 → Q x u2) → RUc c A (.ref 412) [.ref a, .ref ab] u' Q := by
  induction h with
  | @again n above a dx up hd h hn =>
    intro A u' ab Q R l0 hab hx hz q
    refine F_plain_at R.lt fun A' D => ?_
    have R' : Room A' (n + 4) := R.step D
    obtain ⟨vs, I⟩ := hd
    have hk : IsK c u' (.ref a) .arr := ⟨_, _, _, rfl, I.le l0⟩
    have hab' : (above.map Value.ref).length = above.length := by simp
    refine ⟨kprB, isiK hk (by decide) (b := false) rfl (trB ⟨kprB, isiK hk (by decide) (b := true) rfl (trB ?_)⟩)⟩
    refine ⟨kprT, kprB, lenL hab (big (by omega)) fun t1 => rng1 fun rg o1 hrg Lrg => ?_⟩
    refine ⟨_, _, _, _, (fun tgt _ => iterRange (R'.le (Nat.zero_le _)).h upd_self Lrg (by omega)), fun i vs1 u1 => ∃ s2, vs1 = [some (.ref a), some (.ref ab), s2, none, none, none] ∧ Le u' u1 ∧ i ≤ up, ⟨none, rfl, upd_le hrg, Nat.zero_le _⟩, ?_, ?_⟩
    · rintro i v vs1 u2 u3 hi ⟨s2, rfl, l2, hup⟩ - l23 ⟨t2, rfl⟩
      have l3 := l2.trans l23
      rw [hab'] at hi
      have hg : (above.map Value.ref)[i]? = some (.ref above[i]) := by simp [hi]
      refine inPyL (hab.le l3) ⟨rfl, getL (hab.le l3) (by omega) (big (by omega)) hg ?_⟩
      by_cases z : i = up
      · subst z
        have e : above[i] = a := by
          have : above[i]? = some above[i] := by simp [hi]
          rw [h] at this; exact (Option.some.inj this).symm
        rw [e]
        refine isR (trB fun t4 => ⟨kprB, lenL (hab.le l3) (big (by omega)) fun t5 => subI fun t6 => tupG rfl fun T u4 hT l34 => q _ u4 ?_ (l3.trans l34)⟩)
        rw [hab'] at hT
        exact .mk hT (all2_2 (.str _ _) (.int _ _))
      · obtain ⟨dxb, hub⟩ := hx above[i] (List.getElem_mem hi)
        have hne : above[i] ≠ a := fun z' => hn i (by omega) (by simp [hi, z'])
        exact isO hne ((l0.trans l3) _ _ hub) ((l0.trans l3) _ _ I.at_) (by simp) (trB ⟨trivial, _, rfl, l3, by omega⟩)
    · rintro vs1 u2 ⟨s2, rfl, l2, hup⟩ -
      rw [hab'] at hup
      have := (List.getElem?_eq_some_iff.mp h).1
      omega
  | @one n above a dx F k x dr w vs d ha M I hp ih =>
    intro A u' ab Q R l0 hab hx hz q
    refine F_plain_at R.lt fun A' D => ?_
    have R' : Room A' (n + 5) := (R.step D).le (by omega)
    have M' := M.grow l0
    have I' := I.le l0
    obtain ⟨dxa, vsa, Ia⟩ := (PL.one ha M I hp).isA
    obtain ⟨dxw, vsw, Iw⟩ := hp.isA
    have hk : IsK c u' (.ref a) .arr := ⟨_, _, _, rfl, Ia.le l0⟩
    have hab' : (above.map Value.ref).length = above.length := by simp
    refine ⟨kprB, isiK hk (by decide) (b := false) rfl (trB ⟨kprB, isiK hk (by decide) (b := true) rfl (trB ?_)⟩)⟩
    refine ⟨kprT, kprB, lenL hab (big (by omega)) fun t1 => rng1 fun rg o1 hrg Lrg => ?_⟩
    refine ⟨_, _, _, _, (fun tgt _ => iterRange (R'.le (Nat.zero_le _)).h upd_self Lrg (by omega)), fun i vs1 u1 => ∃ s2, vs1 = [some (.ref a), some (.ref ab), s2, none, none, none] ∧ Le u' u1, ⟨none, rfl, upd_le hrg⟩, ?_, ?_⟩
    · rintro i v vs1 u2 u3 hi ⟨s2, rfl, l2⟩ - l23 ⟨t2, rfl⟩
      have l3 := l2.trans l23
      rw [hab'] at hi
      have hg : (above.map Value.ref)[i]? = some (.ref above[i]) := by simp [hi]
      obtain ⟨dxb, hub⟩ := hx above[i] (List.getElem_mem hi)
      have hne : above[i] ≠ a := fun z' => ha (z' ▸ List.getElem_mem hi)
      exact inPyL (hab.le l3) ⟨rfl, getL (hab.le l3) (by omega) (big (by omega)) hg (isO hne ((l0.trans l3) _ _ hub) ((l0.trans l3) _ _ Ia.at_) (by simp) (trB ⟨trivial, _, rfl, l3⟩))⟩
    · rintro vs1 u2 ⟨s2, rfl, l2⟩ -
      refine lstN sz0 fun P oP hP hP0 ⟨nP, eP⟩ => ?_
      subst eP
      have l3 := l2.trans (upd_le hP (o := lstOf [] nP))
      have hPu : u' P = none := l2.none hP
      have k3 : Le u' (rst (upd u2 P (lstOf [] nP)) [P]) := rst_of l3 fun x hx => by rw [List.mem_singleton.mp hx]; exact hPu
      have e3 : upd u2 P (lstOf [] nP) P = some (lstOf [] nP) := upd_self
      generalize upd u2 P (lstOf [] nP) = u3 at l3 e3 k3
      refine ⟨kp (by decide), RU.frame (o := [P]) (fun x hx => by rw [List.mem_singleton.mp hx, e3]; simp) ((c_slots (R'.le (by omega)) (M'.grow k3) fun Ds oD ys u4' l34' eD' LD hD0 hX' u4 l44 p4 => ?_).ru)⟩
      have k4 := k3.trans (l34'.trans l44)
      have e4 : u4 P = some (lstOf [] nP) := (p4 P (by simp)).trans e3
      have eD := l44 _ _ eD'
      have hX := hX'.le l44
      have hyl : ys.length = 1 := hX.1
      refine ⟨_, _, _, _, (fun tgt _ => iterList (R'.le (Nat.zero_le _)).h (rst_le _ _ eD) LD), fun i vs1 u1 => ∃ s2 s4 s5 n xs', vs1 = [some (.ref a), some (.ref ab), s2, some (.ref P), s4, s5] ∧ Le (rst u4 [P]) (rst u1 [P]) ∧ u1 P = some (lstOf xs' n) ∧ All2 (fun d v => RD (rst u1 [P]) v d) ([PyData.tuple [k.data, d]].take i) xs',
        ⟨s2, none, none, nP, [], rfl, Le.refl _, e4, .nil⟩, ?_, ?_⟩
      · rintro i v vs1 u5 u6 hi ⟨s2, s4, s5, n', xs', rfl, k5, e5, A5⟩ - l56 hv
        have hi0 : i = 0 := by omega
        subst hi0
        cases A5
        have b56 : Le (rst u5 [P]) (rst u6 [P]) := rstS fun x ob hb e => ⟨l56 _ _ e, hb⟩
        have k6 := k5.trans b56
        have e6 := l56 _ _ e5
        obtain ⟨xv, hx1, T, kv, rfl, hT, hkv⟩ := hX.2 0 _ rfl
        rw [hx1] at hv
        cases hv
        have ku6 := k4.trans k6
        refine unpT (n := 2) ((hT.le k6).le rst_le) rfl (R'.le (Nat.zero_le _)).h ?_
        have Iw6 : IsK c u6 (.ref w) .arr := ⟨_, _, _, rfl, ((Iw.le l0).le ku6).le rst_le⟩
        refine fun pl => mApd ⟨_, e6, _, rfl⟩ ⟨kprB, kp (by decide), kp (by decide), (c_derefR (R'.le (by omega)) ((I'.le ku6).le rst_le) Iw6 rfl rfl ?_).ru⟩
        refine lstN sz0 fun L1 oL1 hL1 hL10 LL1 => ?_
        have l67 := upd_le hL1 (o := oL1)
        have b67 : Le (rst u6 [P]) (rst (upd u6 L1 oL1) [P]) := rstS fun x ob hb e => ⟨l67 _ _ e, hb⟩
        refine addL ((hab.le (ku6.trans rst_le)).le l67) ⟨oL1, upd_self, LL1⟩ (szLe (by rw [List.length_map]; show above.length + 1 ≤ 1000; omega)) fun L2 oL2 hL2 hL20 LL2 => ?_
        have eL2 : upd (upd u6 L1 oL1) L2 oL2 L2 = some oL2 := upd_self
        have l78 := upd_le hL2 (o := oL2)
        have b68 := b67.trans (show Le (rst (upd u6 L1 oL1) [P]) (rst (upd (upd u6 L1 oL1) L2 oL2) [P]) from rstS fun x ob hb e => ⟨l78 _ _ e, hb⟩)
        have e8 := l78 _ _ (l67 _ _ e6)
        have hL2P : L2 ≠ P := fun z => by rw [z, l67 _ _ e6] at hL2; cases hL2
        generalize upd (upd u6 L1 oL1) L2 oL2 = u8 at b68 e8 eL2
        have ku8 := ku6.trans b68
        have Lab : Lst (rst u8 [P]) L2 ((above ++ [a]).map .ref) := ⟨oL2, rst_some (by simpa using hL2P) eL2, by simpa using LL2⟩
        refine RU.frame (o := [P]) (fun x hx => by rw [List.mem_singleton.mp hx, e8]; simp) ((ih (R'.le (by omega)) (l0.trans ku8) Lab (fun y hy => ?_) (by simp; omega) fun x u9' hx9 l89' u9 l99 p9 => ?_).ru)
        · rcases List.mem_append.mp hy with hy | hy
          · exact hx y hy
          · rw [List.mem_singleton.mp hy]; exact ⟨_, Ia.at_⟩
        · have b89 := l89'.trans l99
          have e9 : u9 P = some (lstOf [] n') := (p9 P (by simp)).trans e8
          refine tupN sz0 fun T2 oT2 hT2 hoT2 => ?_
          have hTP : T2 ≠ P := fun z => by rw [z, e9] at hT2; cases hT2
          refine apdL ((upd_ne hTP.symm).trans e9) hP0 (lenSz (by simp)) fun n'' => ?_
          have b910 : Le (rst u9 [P]) (rst (upd (upd u9 T2 oT2) P (lstOf ([] ++ [.ref T2]) n'')) [P]) := rstS fun y oy hb' e => by
            have h1 : y ≠ P := fun z => hb' (by simp [z])
            have h2 : y ≠ T2 := fun z => by rw [z, hT2] at e; cases e
            exact ⟨(upd_ne h1).trans ((upd_ne h2).trans e), hb'⟩
          have hT10 : Tup (rst (upd (upd u9 T2 oT2) P (lstOf ([] ++ [.ref T2]) n'')) [P]) T2 [kv, x] := ⟨oT2, rst_some (by simpa using hTP) ((upd_ne hTP).trans upd_self), hoT2⟩
          have b510 := b56.trans (b68.trans (b89.trans b910))
          have k10 := k5.trans b510
          refine ⟨fun p hp => ?_, _, _, _, n'', _, rfl, k10, upd_self, ?_⟩
          · rw [List.mem_singleton.mp hp]; exact rst_le _ _ (k10 _ _ eD)
          · exact rd1 (.mk hT10 (all2_2 hkv.rd ((hx9.le l99).le b910)))
      · rintro vs1 u5 ⟨s2, s4, s5, n', xs', rfl, k5, e5, A5⟩ -
        rw [hyl] at A5
        have hal := A5.len
        refine fun t3 => ⟨kprT, tupL ⟨_, e5, _, rfl⟩ (lenSz (by simp at hal; omega)) fun a3 o3 ha3 ho3 => tupG rfl fun a4 u6 T6 l56 => q _ u6 ?_ (((k4.trans k5).trans rst_le).trans ((upd_le ha3).trans l56))⟩
        exact .mk T6 (all2_2 (.str _ _) (.mk (u := u6) ⟨o3, l56 _ _ upd_self, ho3⟩ (A5.mono fun x y _ z => (z.le rst_le).le ((upd_le ha3).trans l56))))
end
end Mine
end
section
open PySem PySem.W PySem.Calls PyProof.Rows Builtin Builtin.ObjectAttr PySem.SeqAt
set_option Elab.async false
set_option maxRecDepth 100000
set_option linter.unusedVariables false
namespace Mine
noncomputable def dRing (m : Nat) : Nat → PyData
  | 0 => dAgain m
  | i + 1 => dOne (.s (so "to")) (dRing m i)
theorem nice_again (m : Nat) (h : m ≤ 3) (D : Nat) : Nice (dAgain m) (D + 1) := nice_tup fun d hd => by
  rcases List.mem_cons.mp hd with rfl | hd
  · exact nice_str _ _
  · rw [List.mem_singleton.mp hd]; exact nice_int _ _ (by omega)
theorem nice_one {nm : Str} {d : PyData} {D : Nat} (h : Nice d D) : Nice (dOne (.s nm) d) (D + 3) := nice_tup fun x hx => by
  rcases List.mem_cons.mp hx with rfl | hx
  · exact nice_str _ _
  · rw [List.mem_singleton.mp hx]
    refine nice_tup (D := D + 1) fun x hx => ?_
    rw [List.mem_singleton.mp hx]
    exact pair_nice (nice_str _ _) h
theorem nice_ring (m : Nat) (h : m ≤ 3) : ∀ i, Nice (dRing m i) (3 * i + 1)
  | 0 => nice_again m h 0
  | i + 1 => (nice_one (nice_ring m h i)).up (by omega)
theorem ring_fits {m : Nat} (h : m = 1 ∨ m = 2 ∨ m = 3) : (PyData.shown (dRing m m)).length ≤ sizeLine ∧ (PyData.shown (dOne (.s (so "in")) (dRing m m))).length ≤ sizeLine := by
  have e : (PyData.shown (dRing 1 1)).length ≤ 1000 ∧ (PyData.shown (dRing 2 2)).length ≤ 1000 ∧ (PyData.shown (dRing 3 3)).length ≤ 1000 ∧ (PyData.shown (dOne (.s (so "in")) (dRing 1 1))).length ≤ 1000 ∧ (PyData.shown (dOne (.s (so "in")) (dRing 2 2))).length ≤ 1000 ∧ (PyData.shown (dOne (.s (so "in")) (dRing 3 3))).length ≤ 1000 := by decide +kernel
  obtain ⟨e1, e2, e3, e4, e5, e6⟩ := e
  rcases h with rfl | rfl | rfl
  · exact ⟨szLe e1, szLe e4⟩
  · exact ⟨szLe e2, szLe e5⟩
  · exact ⟨szLe e3, szLe e6⟩
section
variable {c : Cx} {A : Around} {u u' : PM} {Q : Value → PM → Prop}
/-- from_pairs([(name, reference)]) -/
theorem pair_arr {nm : Str} {tn : Tok} {x d : Addr} {vs : List (Option Value)} (R : Room A 10) (I : Ins c u x d 125 nRef vs) (q : ∀ a dx F u', ArrM c u' a dx F [(.s nm, .ref x)] → Le u u' → u a = none → Q (.ref a) u') :
    RU c A (newTuple [.str nm tn, .ref x]) u (fun T u1 => RU c A (newList [T]) u1 fun L u2 => RU c A (call (.ref 349) [L]) u2 Q) :=
  tupG rfl fun T u1 HT l1 => lstN sz0 fun L o hL _ LL => (c_from_pairs R ⟨o, upd_self, LL⟩ (rows := [(.s nm, .ref x)]) ⟨rfl, fun i r e => by
    have l2 := upd_le hL (o := o)
    cases i with
    | zero => cases e; exact ⟨_, rfl, T, .str nm tn, rfl, HT.le l2, tn, rfl⟩
    | succ i => cases e⟩ (by simp) (by simp) (fun r hr => by
    rw [List.mem_singleton.mp hr]
    exact ⟨.ref, ⟨x, d, vs, rfl, (I.le l1).le (upd_le hL)⟩, rfl⟩) fun a dx F u3 M l3 ha => q a dx F u3 M (l1.trans ((upd_le hL).trans l3)) ((l1.trans (upd_le hL)).none ha)).ru
/-- references, each with its own dict -/
structure Refs (c : Cx) (u : PM) (xs : List Value) (dl : List Addr) : Prop where
  len : xs.length = dl.length
  nd : dl.Nodup
  at_ : ∀ (k : Nat) d, dl[k]? = some d → ∃ a w vs, xs[k]? = some (.ref a) ∧ Ins c u a d 125 nRef (some w :: vs)
theorem Refs.le {xs : List Value} {dl : List Addr} (h : Refs c u xs dl) (l : Le u u') : Refs c u' xs dl := ⟨h.len, h.nd, fun k d e => let ⟨a, w, vs, h1, h2⟩ := h.at_ k d e; ⟨a, w, vs, h1, h2.le l⟩⟩
/-- the arrays so far: array j is what reference j holds, and holds reference j + 1 -/
structure Ring (c : Cx) (u : PM) (m : Nat) (xs : List Value) (dl al : List Addr) : Prop where
  nd : al.Nodup
  at_ : ∀ (j : Nat) a, al[j]? = some a → (∃ x dx F, xs[(j + 1) % m]? = some (.ref x) ∧ ArrM c u a dx F [(.s (so "to"), .ref x)]) ∧ ∃ x d vs, xs[j]? = some (.ref x) ∧ dl[j]? = some d ∧ Ins c u x d 125 nRef (some (.ref a) :: vs)
theorem Ring.le {m : Nat} {xs : List Value} {dl al : List Addr} (h : Ring c u m xs dl al) (l : Le u u') : Ring c u' m xs dl al := ⟨h.nd, fun j a e => let ⟨⟨x, dx, F, h1, h2⟩, y, d, vs, h3, h4, h5⟩ := h.at_ j a e; ⟨⟨x, dx, F, h1, h2.grow l⟩, y, d, vs, h3, h4, h5.le l⟩⟩
theorem Ring.next {m : Nat} {xs : List Value} {dl al : List Addr} {x d a dx y : Addr} {F : AF} {w : Value} {vs vs' : List (Option Value)} (G : Ring c u m xs dl al) (X : Refs c u xs dl) (hk : dl[al.length]? = some d) (hx : xs[al.length]? = some (.ref x)) (I : Ins c u x d 125 nRef (some w :: vs))
    (hy : xs[(al.length + 1) % m]? = some (.ref y)) (M : ArrM c u a dx F [(.s (so "to"), .ref y)]) (ha : a ∉ al) (eq : ∀ b, b ≠ d → u' b = u b) (J : Ins c u' x d 125 nRef (some (.ref a) :: vs')) : Ring c u' m xs dl (al ++ [a]) ∧ Refs c u' xs dl := by
  have S : Sw c u u' x d := ⟨eq, ⟨w, vs, I⟩, ⟨_, J⟩⟩
  have other : ∀ {k : Nat} {d' : Addr}, dl[k]? = some d' → k ≠ al.length → d' ≠ d := fun {k d'} h1 h2 z => by
    subst z
    obtain ⟨i1, e1⟩ := List.getElem?_eq_some_iff.mp h1
    obtain ⟨i2, e2⟩ := List.getElem?_eq_some_iff.mp hk
    exact h2 ((List.getElem_inj X.nd).mp (e1.trans e2.symm))
  refine ⟨⟨?_, fun j b e => ?_⟩, X.len, X.nd, fun k d' e => ?_⟩
  · exact List.nodup_append.mpr ⟨G.nd, by simp, fun p hp q hq => by rw [List.mem_singleton.mp hq]; exact fun z => ha (z ▸ hp)⟩
  · rcases Nat.lt_trichotomy j al.length with z | z | z
    · rw [List.getElem?_append_left z] at e
      obtain ⟨⟨x1, dx1, F1, h1, h2⟩, x2, d2, vs2, h3, h4, h5⟩ := G.at_ j b e
      exact ⟨⟨x1, dx1, F1, h1, S.arr h2⟩, x2, d2, vs2, h3, h4, S.ins h5 (other h4 (by omega))⟩
    · subst z
      have : b = a := by simpa using e.symm
      subst this
      exact ⟨⟨y, dx, F, hy, S.arr M⟩, x, d, vs', hx, hk, J⟩
    · rw [List.getElem?_eq_none (by simp; omega)] at e; cases e
  · by_cases z : k = al.length
    · subst z
      rw [hk] at e; cases e
      exact ⟨x, _, vs', hx, J⟩
    · obtain ⟨a', w', vs2, h1, h2⟩ := X.at_ k d' e
      exact ⟨a', w', vs2, h1, S.ins h2 (other e z)⟩
/-- a ring as plain sees it -/
theorem Ring.pl {m : Nat} {xs : List Value} {dl al pre : List Addr} (G : Ring c u m xs dl al) (hm : al.length = m) (h0 : 0 < m) (hp : ∀ a ∈ al, a ∉ pre) : ∀ (i : Nat) (a : Addr), i ≤ m → al[(m - i) % m]? = some a → PL c u i (pre ++ al.take (m - i)) a (dRing m i)
  | 0, a, _, e => by
    rw [Nat.sub_zero, Nat.mod_self] at e
    obtain ⟨⟨x, dx, F, _, M⟩, _⟩ := G.at_ 0 a e
    obtain ⟨_, ks, vs, hs', ns, S, _⟩ := M
    rw [Nat.sub_zero, List.take_of_length_le (by omega)]
    have := PL.again (c := c) (u := u) (n := 0) (above := pre ++ al) (a := a) pre.length ⟨_, S.ins⟩ (by rw [List.getElem?_append_right (Nat.le_refl _), Nat.sub_self]; exact e) fun i hi z => by
      rw [List.getElem?_append_left hi] at z
      exact hp a (List.mem_of_getElem? e) (List.mem_of_getElem? z)
    have e2 : (((pre ++ al).length : Nat) : Int) - (pre.length : Int) = (m : Int) := by rw [List.length_append, hm]; omega
    rw [e2] at this
    exact this
  | i + 1, a, hi, e => by
    have hj : (m - (i + 1)) % m = m - (i + 1) := Nat.mod_eq_of_lt (by omega)
    rw [hj] at e
    obtain ⟨⟨x, dx, F, hx, M⟩, _⟩ := G.at_ _ a e
    have ej : m - (i + 1) + 1 = m - i := by omega
    rw [ej] at hx
    have hlt : (m - i) % m < al.length := by rw [hm]; exact Nat.mod_lt _ h0
    have eb : al[(m - i) % m]? = some al[(m - i) % m] := by simp [hlt]
    obtain ⟨_, x', d, vs, hx', _, I⟩ := G.at_ _ _ eb
    rw [hx] at hx'; cases hx'
    refine .one ?_ M I ?_
    · intro z
      rcases List.mem_append.mp z with z | z
      · exact hp a (List.mem_of_getElem? e) z
      · obtain ⟨k, hk, ek⟩ := List.getElem_of_mem z
        obtain ⟨i1, e1⟩ := List.getElem?_eq_some_iff.mp e
        rw [List.length_take] at hk
        rw [List.getElem_take] at ek
        have := (List.getElem_inj G.nd).mp (ek.trans e1.symm)
        omega
    · have := Ring.pl G hm h0 hp i _ (by omega) eb
      have et : pre ++ al.take (m - (i + 1)) ++ [a] = pre ++ al.take (m - i) := by
        rw [← ej, List.take_add_one, e]; simp
      rw [et]; exact this
end
end Mine
end
section
open PySem PySem.W PySem.Calls PyProof.Rows Builtin Builtin.ObjectAttr PySem.SeqAt
set_option Elab.async false
set_option maxRecDepth 100000
set_option linter.unusedVariables false
namespace Mine
section
variable {c : Cx} {A : Around} {u u' : PM} {Q : Value → PM → Prop}
theorem idx_mod {m k : Nat} (h : 0 < m) : Int.fmod ((k : Int) + 1) (m : Int) = (((k + 1) % m : Nat) : Int) := by
  rw [Int.fmod_eq_emod_of_nonneg _ (by omega)]
  push_cast
  rfl
theorem c_plainR {n : Nat} {a : Addr} {d : PyData} (R : Room A (n + 6)) (P : PL c u n [] a d) (hn : n ≤ 100) (q : ∀ x u', RD u' x d → Le u u' → Q x u') : RUc c A (.ref 405) [.ref a] u Q := F_plain R.lt fun A' D =>
  ⟨kp (by decide), lstN sz0 fun l o hl _ L => (ring_plain P (R.step D) (upd_le hl) ⟨o, upd_self, L⟩ (fun y hy => nomatch hy) (by simpa using hn) fun x u' h l' => q x u' h ((upd_le hl).trans l')).ru⟩
theorem reprT {k D : Nat} {d : PyData} {v : Value} (R : Room A k) (hd : ∃ ds, d = .tuple ds) (h : RD u v d) (n : Nice d D) (hD : D ≤ 5000) (hz : d.shown.length ≤ sizeLine) (q : ∀ t, Q (.str d.shown t) u) : RU c A (call (.builtin "repr") [v]) u Q := by
  obtain ⟨ds, rfl⟩ := hd
  have hv : ∃ a, v = .ref a := by cases h; exact ⟨_, rfl⟩
  obtain ⟨a, rfl⟩ := hv
  exact reprD R (fun hp E => h.reads E) n.s n.h (Nat.le_trans n.d hD) hz q
/-- _law_ring_right(many) -/
theorem c_ring {m : Nat} {t : Tok} (R : Room A 17) (hm : m = 1 ∨ m = 2 ∨ m = 3) (q : ∀ u', Q (.bool true) u') : RUc c A (.ref 828) [.int m t] u Q := F__law_ring_right R.lt fun A' D => by
  have R' : Room A' 16 := R.step D
  have R0 := R'.le (Nat.zero_le _)
  have h0 : 0 < m := by omega
  have h3 : m ≤ 3 := by omega
  refine seqI ?_
  -- the references
  refine ⟨kprT, rng1 fun g og hg Lg => ⟨_, _, _, _, (fun tgt _ => iterRange R0.h upd_self Lg (by omega)), szLe (by omega), fun i acc vs1 u1 => ∃ pl dl, vs1 = [pl] ∧ dl.length = i ∧ Refs c u1 acc dl, ⟨none, [], rfl, rfl, rfl, List.nodup_nil, fun k d e => by cases e⟩, ?_, ?_⟩⟩
  · rintro i acc v vs1 u2 u3 hi ⟨pl, dl, rfl, hdl, X⟩ - l23 ⟨ti, rfl⟩
    refine ⟨kp (by decide), c_Ref0 (R'.le (by omega)) fun x dx u4 vs l34 hx hdx I => ⟨trivial, _, dl ++ [dx], rfl, by simp [hdl], ?_⟩⟩
    have X4 := (X.le l23).le l34
    refine ⟨by simp [X.len], List.nodup_append.mpr ⟨X.nd, by simp, fun p hp q hq => ?_⟩, fun k d e => ?_⟩
    · rw [List.mem_singleton.mp hq]
      intro z
      subst z
      obtain ⟨k, hk, ek⟩ := List.getElem_of_mem hp
      obtain ⟨a, w, vs', h1, h2⟩ := (X.le l23).at_ k p (by simp [hk, ek])
      obtain ⟨o, eo, _⟩ := h2.dct
      rw [hdx] at eo; cases eo
    · rcases Nat.lt_trichotomy k dl.length with z | z | z
      · rw [List.getElem?_append_left z] at e
        obtain ⟨a, w, vs', h1, h2⟩ := X4.at_ k d e
        exact ⟨a, w, vs', by rw [List.getElem?_append_left (by rw [X.len]; exact z)]; exact h1, h2⟩
      · subst z
        have : d = dx := by simpa using e.symm
        subst this
        exact ⟨x, _, vs, by rw [← X.len]; simp, I⟩
      · rw [List.getElem?_eq_none (by simp; omega)] at e; cases e
  rintro xs vs1 u2 rl orl ⟨pl, dl, -, hdl, X⟩ - hrl - Lrl
  have X3 := X.le (upd_le hrl (o := orl))
  have L3 : Lst (upd u2 rl orl) rl xs := ⟨orl, upd_self, Lrl⟩
  generalize upd u2 rl orl = u3 at X3 L3
  have hxl : xs.length = m := X.len.trans hdl
  clear X
  have xat : ∀ {u : PM} {k : Nat}, Refs c u xs dl → k < m → ∃ d x w vs, dl[k]? = some d ∧ xs[k]? = some (.ref x) ∧ Ins c u x d 125 nRef (some w :: vs) := fun {u k} X hk => by
    have e : dl[k]? = some dl[k] := by simp [hdl, hk]
    obtain ⟨a, w, vs, h1, h2⟩ := X.at_ k _ e
    exact ⟨_, a, w, vs, e, h1, h2⟩
  refine seqI ⟨kprT, rng1 fun g2 og2 hg2 Lg2 => ⟨_, _, _, _, (fun tgt _ => iterRange R0.h upd_self Lg2 (by omega)), fun k vs u => ∃ pl al, vs = [some (.int m t), pl, some (.ref rl), none, none, none] ∧ Lst u rl xs ∧ Refs c u xs dl ∧ Ring c u m xs dl al ∧ al.length = k,
    ⟨none, [], rfl, L3.le (upd_le hg2), X3.le (upd_le hg2), ⟨List.nodup_nil, fun j a e => by cases e⟩, rfl⟩, ?_, ?_⟩⟩
  · rintro k v vs1 u4 u5 hk ⟨pl, al, rfl, L4, X4, G4, hal⟩ - l45 ⟨tk, rfl⟩
    have L5 := L4.le l45
    have X5 := X4.le l45
    have G5 := G4.le l45
    have hk1 : (k + 1) % m < m := Nat.mod_lt _ h0
    obtain ⟨d, x, w, vs, hd, hx, I⟩ := xat X5 hk
    obtain ⟨d', y, w', vs', hd', hy, I'⟩ := xat X5 hk1
    refine ⟨kp (by decide), fun t1 t2 => addI fun t3 => modI (by omega) fun t4 => ?_⟩
    rw [idx_mod h0]
    refine inPyL L5 ⟨rfl, getL L5 (by omega) (by omega) (by rw [Int.toNat_natCast]; exact hy) (pair_arr (R'.le (by omega)) I' fun a dx F u6 M l56 ha => ?_)⟩
    have L6 := L5.le l56
    refine inPyL L6 ⟨rfl, getL L6 (by omega) (by omega) (by simpa using hx) (setA kRef (I.le l56) (i := 0) (by kernel_rfl) fun o J => ?_)⟩
    have hna : a ∉ al := fun z => by
      obtain ⟨j, hj, ej⟩ := List.getElem_of_mem z
      obtain ⟨_, _, _, _, _, _, I2⟩ := G5.at_ j a (by simp [hj, ej])
      obtain ⟨⟨_, dx2, F2, _, M2⟩, _⟩ := G5.at_ j a (by simp [hj, ej])
      obtain ⟨_, ks, vs, hs', ns, S, _⟩ := M2
      have := S.ins.at_
      rw [ha] at this; cases this
    subst hal
    obtain ⟨G7, X7⟩ := (G5.le l56).next (X5.le l56) hd hx (I.le l56) hy M hna (fun b hb => upd_ne hb) J
    have S : Sw c u6 (upd u6 d o) x d := ⟨fun b hb => upd_ne hb, ⟨w, vs, I.le l56⟩, ⟨_, J⟩⟩
    exact ⟨trivial, _, al ++ [a], rfl, S.lst L6, X7, G7, by simp⟩
  rintro vs1 u4 ⟨pl, al, rfl, L4, X4, G4, hal⟩ -
  refine seqI fun s1 => tupG rfl fun T u5 HT l45 => ?_
  have D5 : RD u5 (.ref T) (dRing m 0) := .mk HT (all2_2 (.str _ _) (.int _ _))
  dsimp only [gSlot]
  refine seqI ⟨kprT, rng1 fun g3 og3 hg3 Lg3 => ⟨_, _, _, _, (fun tgt _ => iterRange R0.h upd_self Lg3 (by omega)), fun k vs u => ∃ pl y, vs = [some (.int m t), pl, some (.ref rl), some y, none, none] ∧ Le u4 u ∧ RD u y (dRing m k),
    ⟨pl, _, rfl, l45.trans (upd_le hg3), D5.le (upd_le hg3)⟩, ?_, ?_⟩⟩
  · rintro k v vs1 u6 u7 hk ⟨pl, y, rfl, l46, Dy⟩ - l67 ⟨tk, rfl⟩
    refine fun s2 s3 => tupG rfl fun T1 u8 HT1 l78 => tupG rfl fun T2 u9 HT2 l89 => tupG rfl fun T3 u10 HT3 l910 => ⟨trivial, _, _, rfl, l46.trans (l67.trans (l78.trans (l89.trans l910))), ?_⟩
    have Dy10 := Dy.le (l67.trans (l78.trans (l89.trans l910)))
    exact .mk HT3 (all2_2 (.str _ _) (.mk (HT2.le l910) (rd1 (.mk (HT1.le (l89.trans l910)) (all2_2 (.str _ _) Dy10)))))
  rintro vs1 u6 ⟨pl, y, rfl, l46, Dy⟩ -
  have L6 := L4.le l46
  have G6 := G4.le l46
  obtain ⟨a0, ea⟩ : ∃ a0, al[0]? = some a0 := ⟨al[0], by simp [hal, h0]⟩
  obtain ⟨⟨x1, dx1, F1, hx1, M1⟩, x0, d0, vs0, hx0, hd0, I0⟩ := G6.at_ 0 a0 ea
  refine seqI fun s4 => inPyL L6 ⟨rfl, getL L6 (by decide) (by decide) hx0 (getA kRef I0 (i := 0) (by kernel_rfl) rfl rfl ⟨kp (by decide), fun s5 s6 => inPyL L6 ⟨rfl, getL L6 (by decide) (by decide) hx0 (pair_arr (R'.le (by omega)) I0 fun ar dxr Fr u7 Mr l67 har => tupG rfl fun T u8 HT l78 => unpT (n := 2) HT rfl R0.h ?_)⟩⟩)⟩
  have l68 := l67.trans l78
  have G8 := G6.le l68
  have I8 := I0.le l68
  have M8 := Mr.grow l78
  have D8 := Dy.le l68
  have ins0 : ∀ a ∈ al, ∃ dx, u6 a = some (instObj 253 dx) := fun a ha => by
    obtain ⟨j, hj, ej⟩ := List.getElem_of_mem ha
    obtain ⟨⟨_, dx2, F2, _, M2⟩, _⟩ := G6.at_ j a (by simp [hj, ej])
    obtain ⟨_, ks, vs, hs', ns, S, _⟩ := M2
    exact ⟨_, S.ins.at_⟩
  have hnr : ∀ a ∈ al, a ∉ [ar] := fun a ha z => by
    obtain ⟨dx, e⟩ := ins0 a ha
    rw [List.mem_singleton.mp z, har] at e; cases e
  have P0 := G8.pl (pre := []) hal h0 (fun a _ => List.not_mem_nil) m a0 (Nat.le_refl _) (by rw [Nat.sub_self, Nat.zero_mod]; exact ea)
  have P1 := G8.pl (pre := [ar]) hal h0 hnr m a0 (Nat.le_refl _) (by rw [Nat.sub_self, Nat.zero_mod]; exact ea)
  rw [Nat.sub_self, List.take_zero] at P0 P1
  have PR : PL c u8 (m + 1) [] ar (dOne (.s (so "in")) (dRing m m)) := .one List.not_mem_nil M8 I8 P1
  have hv : ∃ z, y = .ref z := by
    have e : ∃ ds, dRing m m = .tuple ds := by rcases hm with rfl | rfl | rfl <;> exact ⟨_, rfl⟩
    obtain ⟨ds, e⟩ := e
    rw [e] at D8
    cases D8; exact ⟨_, rfl⟩
  obtain ⟨z, rfl⟩ := hv
  clear Dy
  have hT : ∃ ds, dRing m m = .tuple ds := by rcases hm with rfl | rfl | rfl <;> exact ⟨_, rfl⟩
  obtain ⟨f1, f2⟩ := ring_fits hm
  have n1 := nice_ring m h3 m
  refine seqI ⟨kprB, kp (by decide), (c_plainR (R'.le (by omega)) PR (by omega) fun x u9 Dx l89 => reprT R0 ⟨_, rfl⟩ Dx (nice_one n1) (by omega) f2 fun t5 => ?_).ru⟩
  refine ⟨kprB, fun s7 s8 => tupG rfl fun T1 u10 HT1 l910 => tupG rfl fun T2 u11 HT2 l1011 => tupG rfl fun T3 u12 HT3 l1112 => ?_⟩
  have D9 := D8.le l89
  have D12 : RD u12 (.ref T3) (dOne (.s (so "in")) (dRing m m)) := .mk HT3 (all2_2 (.str _ _) (.mk (HT2.le l1112) (rd1 (.mk (HT1.le (l1011.trans l1112)) (all2_2 (.str _ _) (D9.le (l910.trans (l1011.trans l1112))))))))
  refine reprT R0 ⟨_, rfl⟩ D12 (nice_one n1) (by omega) f2 fun t6 => neS' (r := false) (bne_self_eq_false _) (trB ?_)
  have l812 := l89.trans (l910.trans (l1011.trans l1112))
  refine ⟨kprB, kp (by decide), (c_plainR (R'.le (by omega)) (P0.le l812) (by omega) fun x u13 Dx l1213 => reprT R0 hT Dx n1 (by omega) f1 fun t5 => ?_).ru⟩
  refine ⟨kprB, reprT R0 hT (D8.le (l812.trans l1213)) n1 (by omega) f1 fun t6 => eqS' (r := true) (beq_self_eq_true _) (trB ?_)⟩
  obtain ⟨dxa, vsa, Ia⟩ := (P0.le (l812.trans l1213)).isA
  have hk : IsK c u13 (.ref a0) .arr := ⟨_, _, _, rfl, Ia⟩
  refine ⟨kp (by decide), (F_same R'.lt fun A2 E2 => ?_).ru⟩
  have R2 := R'.step E2
  refine ⟨kp (by decide), fun s9 => (F_same_at R2.lt fun A3 E3 => ?_).ru⟩
  have R3 := R2.step E3
  refine ⟨kp (by decide), (c_kind (R3.le (by omega)) hk rfl rfl fun t1 => ⟨kp (by decide), (c_kind (R3.le (by omega)) hk rfl rfl fun t2 => neS' (r := false) (bne_self_eq_false _) (trB ?_)).ru⟩).ru⟩
  exact fun t3 => eqS' (r := true) (by kernel_rfl) (trB (isR (trB (q u13))))
end
end Mine
end
section
open PySem PySem.W PySem.Calls PyProof.Rows Builtin Builtin.ObjectAttr PySem.SeqAt
set_option Elab.async false
set_option maxRecDepth 100000
set_option linter.unusedVariables false
namespace Mine
/-- the script: a list that stands ahead of the call -/
noncomputable def Scr (u : PM) (l : Addr) (xs : List Value) : Prop := ∃ o, u l = some o ∧ o.cls = .type "list" ∧ ∃ n, o.data = .seq xs.toArray n
section
variable {c : Cx} {A : Around} {u u' : PM} {Q : Value → PM → Prop} {O : Nat → Addr}
theorem Scr.le {l : Addr} {xs : List Value} (h : Scr u l xs) (k : Le u u') : Scr u' l xs := let ⟨o, e, r⟩ := h; ⟨o, k _ _ e, r⟩
theorem Scr.isList {h : Heap} {l : Addr} {xs : List Value} (x : Scr u l xs) (E : Emb u h) : h.IsList l xs.toArray := let ⟨o, e, c, n, d⟩ := x; ⟨o, E _ _ e, c, n, d⟩
theorem inPyS {l : Addr} {xs : List Value} {Q : Bool → PM → Prop} (hl : Scr u l xs) (h : Q false u) : RU c A (getitemInPython (.ref l)) u Q := fun hp tk B E => by
  have hT : (sh c hp tk).TypeIs (.ref l) "list" := (hl.isList E).typeIs
  unfold getitemInPython
  exact wpAny_bind (wpAny_specialOf hT list_getitem_lookup (wpAny_pure (OutX.same h E B)))
theorem slcX {l b' : Addr} {o : Obj} {xs : List Value} {lo hi st : Value} {plo phi pst : Option Int} (hl : Scr u l xs) (hb : u b' = some o) (ho : o.cls = .type "slice" ∧ o.data = .fields #[lo, hi, st]) (p1 : IsPart lo plo) (p2 : IsPart hi phi) (p3 : IsPart st pst) (h0 : pst ≠ some 0) (hs : xs.length ≤ sizeLine)
    (q : ∀ a o, u a = none → c.h0.get? a = none → LstO o (slicePick xs.toArray plo phi pst).toList → Q (.ref a) (upd u a o)) : RU c A (getItem (.ref l) (.ref b')) u Q := fun hp tk B E =>
  wpAny_getItem_list_slice (hl.isList E) ⟨o, E _ _ hb, ho.1, ho.2⟩ p1 p2 p3 h0 (push_out B E rfl (q _ _ (emb_new E) (h0none B) ⟨0, by simp [lstOf]⟩)) (by simpa using hs)
theorem sumS {l : Addr} {xs : List Value} {ns : List Int} (hh : A.handled = none) (hl : Scr u l xs) (hi : IntsAre xs ns) (q : ∀ n t, Q (.int n t) u) : RU c A (call (.builtin "sum") [.ref l]) u Q := fun h tk B E => by
  obtain ⟨ys, e⟩ := hi.allInts.items
  exact sum_intListG (s := sh c h tk) hh (e ▸ hl.isList E) fun h' tk' t' hk => still_out B E hk (q _ _)
/-- the arrays in a thing are on the heap -/
theorem TV.here {B : Addr → Prop} {f : Frm} {v : Value} (h : TV c u O B f v) : TV c u O (fun b => B b ∧ u b ≠ none) f v := by
  induction h with
  | leaf l h hno => exact .leaf l h hno
  | obj i hi => exact .obj i hi
  | arr hB M hl hr hf ih =>
    refine .arr ⟨hB, ?_⟩ M hl hr fun i k r f e => (ih i k r f e).more fun b hb => ⟨⟨hb.1.1, hb.2⟩, hb.1.2⟩
    obtain ⟨_, ks, vs, hs', ns, S, _⟩ := M
    rw [S.ins.at_]; simp
/-- the things made so far -/
structure Made (c : Cx) (u : PM) (O : Nat → Addr) (fs : List Frm) (ts : List Value) (i : Nat) : Prop where
  len : ts.length = i
  ex : ∃ Bs : Nat → Addr → Prop, (∀ k v, ts[k]? = some v → ∃ f, fs[k]? = some f ∧ TV c u O (Bs k) f v) ∧ (∀ k j : Nat, k ≠ j → Apart (Bs k) (Bs j)) ∧ (∀ k b, Bs k b → u b ≠ none) ∧ ∀ k, i ≤ k → ∀ b, ¬ Bs k b
theorem Made.le {fs : List Frm} {ts : List Value} {i : Nat} (h : Made c u O fs ts i) (l : Le u u') : Made c u' O fs ts i := ⟨h.len, let ⟨Bs, h1, h2, h3, h4⟩ := h.ex; ⟨Bs, fun k v e => let ⟨f, a, b⟩ := h1 k v e; ⟨f, a, b.le l⟩, h2, fun k b hb z => h3 k b hb (by
  cases e : u b with
  | none => rfl
  | some o => rw [l _ _ e] at z; cases z), h4⟩⟩
theorem Made.next {fs : List Frm} {ts : List Value} {i : Nat} {f : Frm} {v : Value} (h : Made c u O fs ts i) (hf : fs[i]? = some f) (l : Le u u') (T : TV c u' O (fun b => u b = none) f v) : Made c u' O fs (ts ++ [v]) (i + 1) := by
  have h' := h.le l
  obtain ⟨Bs, h1, h2, h3, h4⟩ := h.ex
  have h1' : ∀ k v, ts[k]? = some v → ∃ f, fs[k]? = some f ∧ TV c u' O (Bs k) f v := fun k v e => let ⟨f, a, b⟩ := h1 k v e; ⟨f, a, b.le l⟩
  have h3' : ∀ k b, Bs k b → u' b ≠ none := fun k b hb z => h3 k b hb (l.none z)
  refine ⟨by simp [h.len], fun k b => (k = i ∧ u b = none ∧ u' b ≠ none) ∨ (k ≠ i ∧ Bs k b), fun k w e => ?_, fun k j hkj b hb hb' => ?_, fun k b hb => ?_, fun k hk b hb => ?_⟩
  · rcases Nat.lt_trichotomy k i with z | z | z
    · rw [List.getElem?_append_left (by rw [h.len]; exact z)] at e
      obtain ⟨g, hg, V⟩ := h1' k w e
      exact ⟨g, hg, V.more fun b hb => .inr ⟨by omega, hb⟩⟩
    · subst z
      have : w = v := by rw [← h.len] at e; simpa using e.symm
      subst this
      exact ⟨f, hf, T.here.more fun b hb => .inl ⟨rfl, hb⟩⟩
    · rw [List.getElem?_eq_none (by simp [h.len]; omega)] at e; cases e
  · rcases hb with ⟨z, hb⟩ | ⟨z, hb⟩
    · rcases hb' with ⟨z', hb'⟩ | ⟨z', hb'⟩
      · exact hkj (z.trans z'.symm)
      · exact h3 j b hb' hb.1
    · rcases hb' with ⟨z', hb'⟩ | ⟨z', hb'⟩
      · exact h3 k b hb hb'.1
      · exact h2 k j hkj b hb hb'
  · rcases hb with ⟨z, hb⟩ | ⟨z, hb⟩
    · exact hb.2
    · exact h3' k b hb
  · rcases hb with ⟨z, hb⟩ | ⟨z, hb⟩
    · omega
    · exact h4 k (by omega) b hb
end
end Mine
end
section
open PySem PySem.W PySem.Calls PyProof.Rows Builtin Builtin.ObjectAttr PySem.SeqAt
set_option Elab.async false
set_option maxRecDepth 100000
set_option linter.unusedVariables false
namespace Mine
section
variable {c : Cx} {A : Around} {u u' : PM} {Q : Value → PM → Prop} {O : Nat → Addr}
theorem mod3 (n : Int) : ∃ m : Nat, (m = 1 ∨ m = 2 ∨ m = 3) ∧ 1 + Int.fmod n 3 = (m : Int) := by
  have h1 := Int.fmod_nonneg_of_pos n (b := 3) (by decide)
  have h2 := Int.fmod_lt_of_pos n (b := 3) (by decide)
  exact ⟨(1 + Int.fmod n 3).toNat, by omega, by omega⟩
theorem Made.zero {fs : List Frm} : Made c u O fs [] 0 := ⟨rfl, fun _ _ => False, ⟨(fun k v e => by cases e), fun _ _ _ _ h _ => h, fun _ _ h => h.elim, fun _ _ _ h => h⟩⟩
/-- law(script) -/
theorem c_law {l : Addr} {xs : List Value} {ns : List Int} (R : Room A 19) (hS : Scr u l xs) (hi : IntsAre xs ns) (hl : xs.length ≤ 1000) (q : ∀ u', Q (.bool true) u') : RUc c A (.ref 833) [.ref l] u Q := F_law R.lt fun A' D => by
  have R' : Room A' 18 := R.step D
  have R0 := R'.le (Nat.zero_le _)
  refine seqI ⟨kp (by decide), fun t1 t2 => c_Klass (R'.le (by omega)) fun kx kdx u1 kvs l1 K hk0 => ?_⟩
  dsimp only [gSlot]
  refine seqI ⟨kp (by decide), fun t3 => c_Obj (R'.le (by omega)) fun o1 d1 u2 vs1 l12 ho1 hd1 I1 => ⟨kp (by decide), fun t4 => c_Obj (R'.le (by omega)) fun o2 d2 u3 vs2 l23 ho2 hd2 I2 => lstN sz0 fun ol ool hol _ Lol => ?_⟩⟩
  have l34 := upd_le hol (o := ool)
  have L4 : Lst (upd u3 ol ool) ol [.ref o1, .ref o2] := ⟨ool, upd_self, Lol⟩
  have O4 : ObjsOk c (upd u3 ol ool) (fun i => if i = 0 then o1 else o2) := ⟨fun i hi => by
    rcases (show i = 0 ∨ i = 1 by omega) with rfl | rfl
    · exact ⟨d1, kx, kdx, vs1, kvs, t3, t1, (I1.le l23).le l34, (K.le (l12.trans l23)).le l34, hk0⟩
    · exact ⟨d2, kx, kdx, vs2, kvs, t4, t1, I2.le l34, (K.le (l12.trans l23)).le l34, hk0⟩, fun z => by
    have z : o1 = o2 := z
    have := I1.at_
    rw [z, ho2] at this; cases this⟩
  have hS4 := hS.le (l1.trans (l12.trans (l23.trans l34)))
  generalize upd u3 ol ool = u4 at l34 L4 O4 hS4
  generalize hOf : (fun i : Nat => if i = 0 then o1 else o2) = O at O4
  have e0 : O 0 = o1 := by rw [← hOf]; rfl
  have e1 : O 1 = o2 := by rw [← hOf]; rfl
  rw [← e0, ← e1] at L4
  clear hOf e0 e1 I1 I2
  dsimp only [gSlot]
  refine seqI (lstN sz0 fun P oP hP hP0 ⟨nP, eP⟩ => ?_)
  subst eP
  have k5 : Le u4 (rst (upd u4 P (lstOf [] nP)) [P]) := rst_of (upd_le hP) fun x hx => by rw [List.mem_singleton.mp hx]; exact hP
  have p5 : upd u4 P (lstOf [] nP) P = some (lstOf [] nP) := upd_self
  generalize upd u4 P (lstOf [] nP) = u5 at k5 p5
  refine ⟨kp (by decide), RU.frame (o := [P]) (fun x hx => by rw [List.mem_singleton.mp hx, p5]; simp) ((c_first (R'.le (by omega)) fun fv u6' F0' l56' u6 l66 p6 => ?_).ru)⟩
  have k6 := k5.trans (l56'.trans l66)
  have F6 := F0'.le l66
  have q6 : u6 P = some (lstOf [] nP) := (p6 P (by simp)).trans p5
  refine tupN sz0 fun T oT hT hoT => unpT (n := 2) ⟨oT, upd_self, hoT⟩ rfl R0.h ?_
  have k67 : Le (rst u6 [P]) (rst (upd u6 T oT) [P]) := rstS fun x ob hb e => ⟨upd_le hT _ _ e, hb⟩
  have k7 := k6.trans k67
  have F7 := F6.le k67
  have q7 := upd_le hT (o := oT) _ _ q6
  generalize upd u6 T oT = u7 at k7 F7 q7
  refine seqI ⟨kprT, fun s1 s2 s3 s4 s5 s6 s7 => lstN sz0 fun E oE hE _ LE => ?_⟩
  have hEP : E ≠ P := fun z => by rw [z, q7] at hE; cases hE
  have k78 : Le (rst u7 [P]) (rst (upd u7 E oE) [P]) := rstS fun x ob hb e => ⟨upd_le hE _ _ e, hb⟩
  have k8 := k7.trans k78
  have F8 := F7.le k78
  have q8 := upd_le hE (o := oE) _ _ q7
  have eE : rst (upd u7 E oE) [P] E = some oE := rst_some (by simpa using hEP) upd_self
  have eE' : upd u7 E oE E = some oE := upd_self
  generalize upd u7 E oE = u8 at k8 F8 q8 eE eE'
  refine enumCall ⟨oE, eE', LE⟩ fun e it oi he hi' hne h0e h0i Li => ?_
  refine ⟨_, _, _, _, iterEnum R0.h eE' LE Li he hi' hne h0e h0i, fun k vs1 u => ∃ s5 s6 fv f n ys fs, vs1 = [some (.ref l), some (.ref kx), some (.ref ol), some (.ref P), some fv, s5, s6, none] ∧ Le (rst u8 [P]) (rst u [P]) ∧ u P = some (lstOf ys n) ∧ FV (rst u [P]) f fv ∧ WF (k + 1) 4 f ∧ fs.length = k - 2 ∧ All2 (FV (rst u [P])) fs ys ∧ ∀ f ∈ fs, WF 8 4 f,
    ⟨none, none, fv, frm0, nP, [], [], rfl, Le.refl _, q8, F8, frm0_ok, rfl, .nil, fun f hf => nomatch hf⟩, ?_, ?_⟩
  · rintro k v vs1 u9 u10 hk ⟨s5, s6, fv, f, n, ys, fs, rfl, k9, q9, F9, W9, hfl, A9, hw⟩ - l910 ⟨T, t, x, rfl, hx, HT⟩
    have hk7 : k < 7 := hk
    obtain ⟨b, tb, hb, rfl⟩ : ∃ b tb, 0 ≤ b ∧ x = .int b tb := by
      have := List.mem_of_getElem? hx
      simp only [List.mem_cons, List.not_mem_nil, or_false] at this
      rcases this with rfl | rfl | rfl | rfl | rfl | rfl | rfl <;> exact ⟨_, _, by decide, rfl⟩
    clear hx
    have b910 : Le (rst u9 [P]) (rst u10 [P]) := rstS fun x ob hb e => ⟨l910 _ _ e, hb⟩
    have k10 := k9.trans b910
    have q10 := l910 _ _ q9
    have F10 := F9.le b910
    have A10 := A9.mono (P' := FV (rst u10 [P])) fun _ _ _ h => h.le b910
    have hS10 : Scr u10 l xs := ((hS4.le k8).le k10).le rst_le
    refine unpT (n := 2) HT rfl R0.h (gc2 (seqI ?_))
    refine ⟨kp (by decide), kprB, fun t8 => newSlc fun sb ob hsb hob => inPyS (hS10.le (upd_le hsb)) ⟨rfl, slcX (hS10.le (upd_le hsb)) upd_self hob (.int _ _) .none (.int _ _) (by decide) (szLe hl) fun sl osl hsl _ Lsl => ?_⟩⟩
    have b12 : Le (rst u10 [P]) (rst (upd (upd u10 sb ob) sl osl) [P]) := rstS fun x o hb e => ⟨upd_le hsl _ _ (upd_le hsb _ _ e), hb⟩
    have q12 : upd (upd u10 sb ob) sl osl P = some (lstOf ys n) := upd_le hsl _ _ (upd_le hsb _ _ q10)
    have L12 : Lst (upd (upd u10 sb ob) sl osl) sl (slicePick xs.toArray (some (k : Int)) none (some 8)).toList := ⟨osl, upd_self, Lsl⟩
    generalize upd (upd u10 sb ob) sl osl = u12 at b12 q12 L12
    refine sumL R0.h L12 (hi.pick _ _ _) fun sm tm => fun t10 t30 => powI (by decide) (by decide) (by decide) fun tp => modI (by decide) fun td => addI fun ta => lstN sz0 fun ρ oρ hρ hρ0 Lρ => fun t2 => ?_
    have hv0 : 0 ≤ b + Int.fmod sm (10 ^ (30 : Int).toNat) := by
      have := Int.fmod_nonneg_of_pos sm (b := 10 ^ (30 : Int).toNat) (by decide)
      omega
    have hρP : ρ ≠ P := fun z => by rw [z, q12] at hρ; cases hρ
    have b13 : Le (rst u12 [P]) (rst (upd u12 ρ oρ) [P]) := rstS fun x o hb e => ⟨upd_le hρ _ _ e, hb⟩
    have b1013 := b12.trans b13
    have q13 := upd_le hρ (o := oρ) _ _ q12
    have eρ : rst (upd u12 ρ oρ) [P] ρ = some oρ := rst_some (by simpa using hρP) upd_self
    have hρ10 : rst u10 [P] ρ = none := b12.none (by
      cases z : rst u12 [P] ρ with
      | none => rfl
      | some o => have := rst_le _ _ z; rw [hρ] at this; cases this)
    generalize upd u12 ρ oρ = u13 at b13 b1013 q13 eρ
    have k1013 : Le (rst u10 [P]) (rst (rst u13 [P]) [ρ]) := rst_of b1013 fun x hx => by rw [List.mem_singleton.mp hx]; exact hρ10
    have RW : RowR c (rst u13 [P]) ρ := by
      obtain ⟨n', rfl⟩ := Lρ
      exact ⟨_, ta, hv0, ⟨n', eρ⟩, hρ0⟩
    refine RU.frame (o := [P]) (fun x hx => by rw [List.mem_singleton.mp hx, q13]; simp) ((c_turned (N := k + 1) (by omega) 2 A' _ f fv t2 _ (R'.le (by omega)) RW (F10.le k1013) W9 fun g v' u14' W14 F14' _ B14 u14 l14 p14 => ?_).ru)
    have k1014 : Le (rst u10 [P]) (rst u14 [P]) := (k1013.trans (B14.trans rst_le)).trans l14
    have q14 : u14 P = some (lstOf ys n) := (p14 P (by simp)).trans q13
    have F14 : FV (rst u14 [P]) g v' := (F14'.le rst_le).le l14
    have A14 := A10.mono (P' := FV (rst u14 [P])) fun _ _ _ h => h.le k1014
    have k14 := k10.trans k1014
    dsimp only [gSlot]
    refine seqI (ifI (cmpI (tLocI (i := 5) rfl fun t1 => gtI' rfl (trB ?_))))
    by_cases z : 1 < k
    · rw [decide_eq_true (show (1 : Int) < (k : Int) by omega)]
      refine fun pl => mApd ⟨_, q14, _, rfl⟩ ⟨kprB, apdL q14 hP0 (szLe (by rw [A14.len]; omega)) fun n' => ?_⟩
      have b15 : Le (rst u14 [P]) (rst (upd u14 P (lstOf (ys ++ [v']) n')) [P]) := rstS fun x o hb e => ⟨(upd_ne fun z => hb (by simp [z])).trans e, hb⟩
      refine ⟨fun p hp => ?_, _, _, v', g, n', ys ++ [v'], fs ++ [g], rfl, k14.trans b15, upd_self, F14.le b15, W14, by simp; omega, (A14.mono fun _ _ _ h => h.le b15).app (.cons (F14.le b15) .nil), fun f' hf' => ?_⟩
      · rw [List.mem_singleton.mp hp]; exact rst_le _ _ ((k14.trans b15) _ _ eE)
      · rcases List.mem_append.mp hf' with h | h
        · exact hw _ h
        · rw [List.mem_singleton.mp h]; exact W14.more (by omega)
    · rw [decide_eq_false (show ¬(1 : Int) < (k : Int) by omega)]
      refine ⟨fun p hp => ?_, _, _, v', g, n, ys, fs, rfl, k14, q14, F14, W14, by omega, A14, hw⟩
      rw [List.mem_singleton.mp hp]; exact rst_le _ _ (k14 _ _ eE)
  rintro vs1 u9 ⟨s5, s6, fv, f, n, ys, fs, rfl, k9, q9, F9, W9, hfl, A9, hw⟩ -
  have hf5 : fs.length = 5 := hfl
  have hyl := A9.len
  have LP : Lst u9 P ys := ⟨_, q9, n, rfl⟩
  have w9 : Le u4 u9 := (k8.trans k9).trans rst_le
  have FA := A9.mono (P' := FV u9) fun _ _ _ h => h.le rst_le
  refine seqI ⟨_, _, _, _, (fun tgt _ => iterList R0.h q9 ⟨n, rfl⟩), szLe (by omega), fun i acc vs1 u => ∃ pl, vs1 = [pl, some (.ref ol)] ∧ Le u9 u ∧ Made c u O fs acc i, ⟨none, rfl, Le.refl _, Made.zero⟩, ?_, ?_⟩
  · rintro i acc v vs1 u10 u11 hi ⟨pl, rfl, l910, Md⟩ - l1011 hv
    rw [hyl] at hi
    have ei : fs[i]? = some fs[i] := by simp [hi]
    obtain ⟨y, hy, F⟩ := FA.get i _ ei
    rw [hy] at hv; cases hv
    have l11 := l910.trans l1011
    refine ⟨kp (by decide), (c_made 4 A' u11 _ _ _ (R'.le (by omega)) (L4.le (w9.trans l11)) (O4.le (w9.trans l11)) (F.le l11) (hw _ (List.getElem_mem hi)) fun x u12 T l1112 => ⟨fun p hp => ?_, _, rfl, l11.trans l1112, (Md.le l1011).next ei l1112 T⟩).ru⟩
    rw [List.mem_singleton.mp hp]; exact (l11.trans l1112) _ _ q9
  rintro ts vs1 u10 tl otl ⟨pl, -, l910, Md⟩ - htl - Ltl
  have l11 := l910.trans (upd_le htl (o := otl))
  have Md' := Md.le (upd_le htl (o := otl))
  have Lt : Lst (upd u10 tl otl) tl ts := ⟨otl, upd_self, Ltl⟩
  generalize upd u10 tl otl = u11 at l11 Md' Lt
  obtain ⟨hlen, Bs, h1, h2, _, _⟩ := Md'
  have w11 := w9.trans l11
  dsimp only [gSlot]
  refine ⟨kp (by decide), (c_right (R'.le (by omega)) (O4.le w11) (LP.le l11) (FA.mono fun _ _ _ h => h.le l11) Lt ⟨by rw [hlen, hyl], h1, h2⟩ hw (by omega) fun u12 l1112 => trB ?_).ru⟩
  refine ⟨kp (by decide), fun t10 => ⟨kprB, sumS R0.h (hS4.le (w11.trans l1112)) hi fun sm tm t3 => modI (by decide) fun t4 => addI fun t5 => ?_⟩⟩
  obtain ⟨m, hm, e⟩ := mod3 sm
  rw [e]
  exact (c_ring (R'.le (by omega)) hm q).ru
end
end Mine
end
section
open PySem PySem.W PySem.Calls PyProof.Rows Builtin Builtin.ObjectAttr PySem.SeqAt
set_option Elab.async false
set_option maxRecDepth 100000
set_option linter.unusedVariables false
namespace Mine
theorem room_caller : Room callerA 19 := ⟨rfl, by decide, rfl, by decide⟩
theorem walk (w : World) : Law w Says := ⟨fun d os tk h fa l vs ns mg mb hs hg hb hlim hblt hlow hfa hL hI hn _ => by
  let c : Cx := ⟨w, d, os, h, mg, mb, hs, hg, hb, hlim, hblt, hlow⟩
  have efa : mg (Str.ofString "law") = some (.ref 833) := c.mgAt (fun P => by kernel_rfl)
  rw [hfa] at efa
  injection efa with efa
  injection efa with efa
  subst efa
  obtain ⟨o, ho, hcl, n, hd⟩ := id hL
  have hl : vs.length ≤ 1000 := by have := hI.length; omega
  have E : Emb (upd (fun _ => none) l o) h := fun b x e => by
    by_cases z : b = l
    · subst z; rw [upd_self] at e; cases e; exact ho
    · rw [upd_ne z] at e; cases e
  have S : Scr (upd (fun _ => none) l o) l vs := ⟨o, upd_self, hcl, n, hd⟩
  refine wpAny_mono ((c_law (c := c) (Q := fun v _ => v = .bool true) room_caller S hI hl fun _ => rfl).ru h tk ⟨fun _ _ e => e⟩ E) (fun v s' z => ?_) fun _ _ x => x
  obtain ⟨h', tk', u', rfl, q, _, B, _⟩ := z
  exact ⟨q, fun b o e => B.keep b o e, rfl, rfl⟩⟩
end Mine
end
theorem PySem.Challenge.cw_pq0864_01_holds : PySem.Challenge.rw_pq0864_01.Holds :=
  Mine.holds_from Mine.walk
