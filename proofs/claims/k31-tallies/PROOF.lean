import PyProof.Rows.All
import Wide.All
import OpenK.AllK
import Wide.FinOn
import KE.KExcSuper
import HandS.ForMost
import HandS.Exc
import KE.KOpsOwn
import KE.KCallOwn
import HandS.Defaults
import HandS.IsInst
import HandS.SlotsOwn
import HandS.Property
import HandS.Codes
import HandS.Lambda
import HandS.FStr
import HandS.Comp
import HandS.Iter
import HandS.DictComp
import HandS.WordsExc
import HandS.TryOnly
import HandS.ExcIs
import HandS.Wide
import HandS.TupAny
import HandS.TupLe
import HandS.TupMul
import HandS.Deep
import HandS.Conv
import KE.KDictDisplayH
import KE.KDictKeyed
import KE.KDictCopyH
import KE.KEqDict
import KE.KDictOf
import HandS.SortOrd
import KE.SortData
import KE.KeyNested
import KE.KDictPairs
import HandS.Star
import HandS.TupLen
import HandS.RaiseMore
import HandS.Small
import HandS.SetFor
import PyProof.Rows.RuleB_pow
import PyProof.EqAt
import PyProof.NeKinds
import HandS.HeadHook4
import HandS.Style
import PyProof.FitsInt
import PyProof.FitsReplace
import PyProof.StrLaws
import PyProof.StrLawsRepr
import HandS.HeadNt
import HandS.HeadWalk
import HandS.EndTab
import PySem.Challenge.RW_gonewithin_k31_tallies_made_and_combined
import HandS.Head2
import HandS.HeadEnd
set_option Elab.async false
set_option linter.all false
set_option maxRecDepth 100000
set_option maxHeartbeats 4000000
/-! own exceptions below a class whose __init__ says super().__init__(message): made and raised -/
namespace PySem
namespace GX
open PySem.W PySem.Calls PyProof.Rows PySem.HandSPX
/-- the text of that __init__, as it stands in lines 4 and 5 -/
def gArgs : Arguments :=
  ⟨[], [⟨"self", none, ⟨4, 17, 4, 21⟩⟩, ⟨"message", none, ⟨4, 23, 4, 30⟩⟩], none, [], [], none, []⟩
abbrev gCall : Expr := .Call (.Attribute (.Call (.Name "super" ⟨5, 8, 5, 13⟩) [] [] ⟨5, 8, 5, 15⟩) "__init__" ⟨5, 8, 5, 24⟩) [.Name "message" ⟨5, 25, 5, 32⟩] [] ⟨5, 8, 5, 33⟩
def gBody : List Stmt := [.Expr gCall ⟨5, 8, 5, 33⟩]
def gScope : Scope :=
  ⟨.function, [(Str.ofString "self", .local), (Str.ofString "message", .local), (Str.ofString "__class__", .free), (Str.ofString "super", .globalImplicit)], false, false, []⟩
/-- what K tells of the class at C, its maker f (the def of the class at D) -/
structure GExc (prog : Program) (K : Frag) (C D f : Addr) : Prop where
  cls : ∃ nm q N bs bm sn sub ab col dd k0 k1 k2 k3 k5, K.lookup C = some (excClassObj nm q C N bs bm true sn sub ab col dd k0 k1 k2 k3 k5 "ValueError.__new__") ∧ refsVE bm = true
  kC : keepIn K (.ref C) = true
  ini : findIn K (.ref C) "__init__" = some (some (.ref f))
  tf : typeIn K (.ref f) = some (.type "function")
  bex : subIn K (.ref C) (.type "BaseException") = some true
  val : subIn K (.ref C) (.type "ValueError") = some true
  tyC : typeIn K (.ref C) = some (.type "type")
  up : mroIn K C (.ref D) = some true
  clsD : (clsIn K D).isSome = true
  nxt : ks_superIn K C D "__init__" = some (some (.builtin "ValueError.__init__"))
  any : nsIn K cStatics "thirdparty.any" = some none
  sup : nsIn K mainGlobals "super" = some none
  top : (prog.main.scope.names.lookup ("super" : Str)).isSome = false
  fn : ∃ (oc : Value) (od : Option Addr) (doc pm ct : Value) (an : Option Addr) (osl : Array (Option Value)) (cda cc : Addr),
    K.lookup f = some ⟨oc, od, .func (ksFn "__init__" "GoneError.__init__" gArgs gBody gScope .none .none doc pm an (.ref cda) ct cc), osl⟩ ∧
    codeIn K (.ref cda) "GoneError.__init__" = true ∧
    (∃ ccl cdd vs ccs file tf, K.lookup cda = some ⟨ccl, cdd, .fields vs, ccs⟩ ∧ vs[2]? = some (.str file tf) ∧ ((prog.main.file : Str) == file) = true) ∧
    ∃ cl cld csl, K.lookup cc = some ⟨cl, cld, .cell (some (.ref D)), csl⟩
section
variable {prog : Program} {w : World} {M : Model} {A : Around} {E : Value → Shared → Prop} {R : Result → Shared → Prop} {s : Shared} {K : Frag} {mg mb : Str → Option Value} {C D f : Addr}
theorem boot_super : bootBuiltins "super" = some (.type "super") := by decide +kernel
/-- the wrapper called: the arguments are laid anew -/
theorem mw_call {h : Heap} {g : Array GenState} {d : Drawn} {t : Nat} {os : OsState} {u e t0 : Addr} {rest : List Value} {Q : Value → Shared → Prop}
    {nm q : Str} {N : Addr} {bs bm : List Value} {hdct : Bool} {sn : List Str} {sub : List Value} {ab : Bool} {col : Option Bool} {dd : Option Addr} {k0 k1 k2 k3 k5 : Option Value}
    (hC : h.get? C = some (excClassObj nm q C N bs bm hdct sn sub ab col dd k0 k1 k2 k3 k5 "ValueError.__new__")) (he : h.get? e = some (excO C t0)) (hu : h.get? u = some (kxs_mw "ValueError.__init__" e)) (hz : rest.length ≤ sizeLine)
    (hq : ∀ h' t1, (∀ b o, b ≠ e → h.get? b = some o → h'.get? b = some o) → h'.get? e = some (excO C t1) → Q .none ⟨h', g, d, t, os⟩) :
    wpAny (model prog w) A (call (.ref u) rest) Q E ⟨h, g, d, t, os⟩ := by
  refine wpAny_call (codeAny_of_tree ?_)
  show wpAny _ A.in1 (callAny (.ref u) ⟨rest, []⟩) _ _ _
  simp only [callAny]
  refine wpAny_bind (wpAny_load hu ?_)
  have e1 : (Value.type "method-wrapper" == Value.type "method" || Value.type "method-wrapper" == Value.type "builtin_function_or_method"
      || Value.type "method-wrapper" == Value.type "method-wrapper") = true := by decide
  simp only [kxs_mw, e1, if_true]
  refine KFB.if_so (by decide) ?_
  have FB := F.excBase_ValueError
  refine wpAny_bind (check_bound_init FB.toExcCallFacts hC he rfl ?_)
  refine wpAny_bind (wpAny_pure (wpAny_pure ?_))
  refine ⟨plainId_quiet FB.init.plain _, codeAny_builtin FB.initEntry ?_⟩
  exact exc_init_tree (cls := .ref C) (t0 := t0) (dv := none) (c2 := .none) (c3 := .none) (b4 := .bool false) he hz
    (fun h' k e' t' => hq h' _ k e')
theorem gone_init (T : GExc prog K C D f) {x t0 : Addr} {v : Value} (X : K.In s.heap) (hlim : s.heap.NoLimit) (G : s.heap.Ns mainGlobals mg) (B : s.heap.Ns builtinsNs mb) (hb : ∀ y : Str, y ≠ "__name__" → mb y = bootBuiltins y)
    (hx : s.heap.get? x = some (excO C t0)) (hxn : K.lookup x = none) (hroom : A.depth < recursionLimit)
    (hq : ∀ h' tk t1, (∀ b o, b ≠ x → s.heap.get? b = some o → h'.get? b = some o) → h'.get? x = some (excO C t1) → R (.ok (.ret .none)) { s with heap := h', toks := tk }) :
    codeAny (model prog w) A (.call (.ref f) ⟨[.ref x, v], []⟩) R s := by
  obtain ⟨oc, od, doc, pm, ct, an, osl, cda, cc, lk, hcd, ⟨ccl, cdd, vs, ccs, file, tf, lcd, hvs, hfile⟩, cl, cld, csl, lcc⟩ := T.fn
  obtain ⟨nm, q, N, bs, bm, sn, sub, ab, col, dd, k0, k1, k2, k3, k5, hC, hbm⟩ := T.cls
  refine ks_codeAny_call_defAt (fd := ksFn "__init__" "GoneError.__init__" gArgs gBody gScope .none .none doc pm an (.ref cda) ct cc) (body := gBody)
    (binds := [("self", .ref x), ("message", v)]) hroom (X _ _ lk) rfl hlim (codeRec_of X hcd) rfl (BindsTo.of_eq (by first | rfl | with_unfolding_all rfl)) (by show ∀ y ∈ gScope.names, y.2 ≠ .cell; decide) (fun y hy => ?_) (fun h₁ hns k₁ => ?_)
  · rcases List.mem_cons.mp hy with rfl | hy
    · rfl
    · rcases List.mem_cons.mp hy with rfl | hy
      · rfl
      · cases hy
  have X₁ : K.In h₁ := X.keeps k₁
  have hx₁ := k₁ _ _ hx
  obtain ⟨cdD, hD⟩ := Option.isSome_iff_exists.mp T.clsD
  have I₁ : InstAt h₁ x (excO C t0) C none := ⟨hx₁, rfl, rfl, trivial⟩
  obtain ⟨oD, hD1, hD2⟩ : ∃ oD, h₁.get? D = some oD ∧ oD.data = .cls cdD := by
    unfold clsIn at hD
    split at hD
    · rename_i ho
      cases hD
      exact ⟨_, X₁ _ _ ho, rfl⟩
    · cases hD
  unfold gBody
  refine ks_wpAt_execs_cons (ks_wpAt_Expr_any (ks_wpAt_MethodCall (pl := _) ?_) (by rfl) (by rfl))
  refine ks_wpAt_super_base (by rfl) (by rfl) (by decide) rfl (X₁ _ _ lk) rfl rfl rfl (X₁ _ _ lcd) rfl hvs hfile T.top ?_
  refine ks_loadName_global rfl (by rfl) (loadGlobal_builtin (G.keeps k₁) (mg_none_of X G T.sup) (B.keeps k₁) ((hb _ (by decide +kernel)).trans boot_super) ⟨rfl, ?_⟩)
  refine wpAny_loadName_free rfl (by rfl) rfl ⟨_, X₁ _ _ lcc, rfl⟩ ?_
  refine wpAny_loadName_local rfl (by rfl) hns (v := .ref x) (by rfl) ?_
  refine ks_wpAny_isType_cls hD1 hD2 ⟨rfl, ?_⟩
  refine ks_wpAny_call_super hD1 hD2 hx₁ rfl (fun c e => by cases e) (looks_mroIn X₁ T.up) (fun h₂ e₂ k₂ => ?_)
  have X₂ : K.In h₂ := X₁.keeps k₂
  have hx₂ := k₂ _ _ hx₁
  have I₂ : InstAt h₂ x (excO C t0) C none := ⟨hx₂, rfl, rfl, trivial⟩
  have nx := T.nxt
  unfold ks_superIn at nx
  cases hc : clsIn K C with
  | none => rw [hc] at nx; cases nx
  | some cd =>
    rw [hc] at nx
    have hxC : x ≠ C := fun z => by rw [z] at hxn; rw [hxn] at hC; cases hC
    refine kxs_getMethod kxs_ValueError e₂ (looks_opaque X₂ T.any) (l₀ := cd.mro) (fun A Q E s k q => wpAny_bind ((looks_clsIn X₂ hc) A _ E s k (wpAny_pure q))) rfl X₂ nx
      (I₂.type.andThen (looks_subIn X₂ T.val)) hxC (by decide) ?_
    have k₃ : ∀ b o, s.heap.get? b = some o → (h₂.push (kxs_mw "ValueError.__init__" x)).get? b = some o := fun b o e => Heap.get?_push_of_some _ (k₂ b o (k₁ b o e))
    have hns₃ := hns.keeps fun b o e => Heap.get?_push_of_some (kxs_mw "ValueError.__init__" x) (k₂ b o e)
    have hu : (h₂.push (kxs_mw "ValueError.__init__" x)).get? h₂.objs.size = some (kxs_mw "ValueError.__init__" x) := Heap.get?_push_size _ rfl
    refine kxs_callWith (i := "ValueError.__init__") (x := x) (by rfl) (evalArgs_plain ?_)
    refine Calls.spliced_cons (wpAny_Name (wpAny_loadName_local rfl (by rfl) hns₃ (v := v) (by rfl) (Calls.spliced_nil ⟨hu, ?_⟩)) (by decide))
    have x₃ := Heap.get?_push_of_some (kxs_mw "ValueError.__init__" x) hx₂
    refine mw_call (k₃ _ _ (X _ _ hC)) x₃ hu (by rw [sizeLine_eq]; show 1 ≤ 16777216; decide) (fun h' t1 k e => ?_)
    refine wpAt_of_wpAny (wpAny_execs_nil ?_)
    refine hq h' _ t1 (fun b o nb hb' => k b o nb (k₃ b o hb')) e
/-- such an exception made by a call of its class -/
structure Made (h h' : Heap) (e C : Addr) : Prop where
  old : ∀ b o, h.get? b = some o → h'.get? b = some o
  new : h.objs.size ≤ e
  here : ∃ t1, h'.get? e = some (excO C t1)
theorem gone_made (T : GExc prog K C D f) {v : Value} (X : K.In s.heap) (hlim : s.heap.NoLimit) (G : s.heap.Ns mainGlobals mg) (B : s.heap.Ns builtinsNs mb) (hb : ∀ y : Str, y ≠ "__name__" → mb y = bootBuiltins y) (hroom : A.depth + 1 < recursionLimit)
    (hq : ∀ h' tk e, Made s.heap h' e C → R (.ok (.ret (.ref e))) { s with heap := h', toks := tk }) : codeAny (model prog w) A (.call (.ref C) ⟨[v], []⟩) R s := by
  obtain ⟨nm, q, N, bs, bm, sn, sub, ab, col, dd, k0, k1, k2, k3, k5, hC, hbm⟩ := id T.cls
  obtain ⟨hp, g, dr, tk, os⟩ := s
  have k : ∀ b o, hp.get? b = some o → ((hp.push (kdv_tup [v])).push (excO C hp.objs.size)).get? b = some o := fun b o e => Heap.get?_push_of_some _ (Heap.get?_push_of_some _ e)
  have at_ : ((hp.push (kdv_tup [v])).push (excO C hp.objs.size)).get? (hp.objs.size + 1) = some (excO C hp.objs.size) := by heap_get
  have noK : K.lookup (hp.objs.size + 1) = none := by
    cases e : K.lookup (hp.objs.size + 1) with
    | none => rfl
    | some o =>
      have z : hp.get? (hp.objs.size + 1) = some o := X _ _ e
      exact absurd (Nat.lt_of_succ_lt (Heap.lt_size z)) (Nat.lt_irrefl _)
  refine call_own F.excBase_ValueError (fun X => refsVE_contains X bm hbm) (X _ _ hC) (looks_findIn X T.ini) (fun self => bind_fn X self T.tf) (by rw [sizeLine_eq]; show 1 ≤ 16777216; decide) ?_
  refine gone_init (s := ⟨(hp.push (kdv_tup [v])).push (excO C hp.objs.size), g, dr, tk, os⟩) T (X.keeps k) (hlim.keeps k) (G.keeps k) (B.keeps k) hb at_ noK (by show A.depth + 1 < recursionLimit; exact hroom) fun h' tk' t1 k' e' => ?_
  have old : ∀ b o, hp.get? b = some o → h'.get? b = some o := fun b o e => k' b o (Nat.ne_of_lt (Nat.lt_succ_of_lt (Heap.lt_size e))) (k b o e)
  exact ⟨rfl, hq h' tk' (hp.objs.size + 1) ⟨old, Nat.le_succ _, t1, e'⟩⟩
end
end GX
end PySem
namespace L2
open PySem PySem.Spec PyProof.Rows
section
variable {X : Cx} {C D f : Addr}
/-- C('..') as what is raised -/
theorem pmk_gone {x m : Str} {j : Nat} {p p2 pos : Pos} {k : Nat} (T : PySem.GX.GExc X.prog X.K C D f) (gC : X.mg x = some (.ref C)) (hr : Room (k + 1) X.A) (hg : Gl X x) (hdb : (x == ("__debug__" : Str)) = false := by decide) :
    PMk X (.Call (.Name x p) [.Constant (.str m) j p2] [] pos) (fun _ H Q => Q (.ref C) none H) := by
  intro pins s σ H Q I h
  refine wpAny_Call_Name_kw (ld_glob I hg gC ?_ hdb)
  have ha : PA X [.Constant (.str m) j p2] (tCons (tC (.str m)) tNil) := pa_cons pe_str pa_nil
  refine PySem.W.callWith_K (h₀ := X.base) I.ok.mod.kin T.kC (thn (ha.run pos pins s σ H (fun vs H1 => vs = [V.str m] ∧ H = H1) I ⟨rfl, rfl⟩) fun us s1 hh => ?_) (by rfl) (by rfl)
  obtain ⟨vs, H1, I1, r1, ev, eH⟩ := hh
  subst ev
  rw [← eH] at I1
  refine ⟨I1.kIn, ?_⟩
  cases r1 with
  | cons ru rn =>
    rename_i u us'
    cases rn
    show wpAny _ _ (call (.ref C) [u]) _ _ _
    have hlim := I1.nolimit
    obtain ⟨mb, hB, hbt⟩ := I1.ok.mod.blt
    have G := I1.ok.mod.glob.keeps I1.bk
    have B := hB.keeps I1.bk
    have kI := I1.kIn
    obtain ⟨hp, g, dr, tk, os⟩ := s1
    refine wpAny_call (PySem.GX.gone_made T kI hlim G B hbt (by have := hr.dp; omega) fun h' tk' e M => ?_)
    show MkP X pins σ Q (.ref e) ⟨h', g, dr, tk', os⟩
    obtain ⟨t1, he⟩ := M.here
    have ne : hp.get? e = none := Heap.get?_none_of_le M.new
    exact ⟨e, _, _, ⟨hp, g, dr, tk, os⟩, H, .ref C, none, rfl, I1, M.old, ne, he, ⟨rfl, rfl⟩, rfl, rfl, I1.hok.fresh M.new, rfl, I1.bare, raises_own T.bex T.tyC, h⟩
end
end L2

set_option Elab.async false
set_option linter.all false
set_option maxRecDepth 100000
set_option maxHeartbeats 4000000
/-! operators, len, bool, str, [] and in of instances of an own class, by the promises of its methods -/
namespace PySem
namespace OwnX
open PySem.W PySem.Calls PyProof.Rows Builtin
section
variable {prog : Program} {w : World} {A : Around} {E : Value → Shared → Prop} {s : Shared} {K : Frag} {x C f : Addr} {ox : Obj} {od : Option Obj} {b tb : Value}
theorem ne_split : splitId "object.__ne__" = some ("object", "__ne__") := by decide +kernel
theorem ne_kind : builtinKind "object.__ne__" = some .slot := by decide +kernel
theorem ne_entry : entryFor table "object.__ne__" = some Builtin.«object.__ne__» := entryFor_of_tree (by kernel_rfl)
theorem ne_args (a c : Value) : argsOk "object.__ne__" ⟨[a, c], []⟩ := by unfold argsOk; kernel_rfl
/-- x != y by the default __ne__, which asks the own __eq__ -/
theorem ne_own {Q : Value → Shared → Prop} (hu : A.units + 1 < cLine) (X : K.In s.heap) (I : InstAt s.heap x ox C od) (hb : Looks (model prog w) s.heap (typeOf b) tb) (hn : notFirst K C tb = true)
    (hs : findIn K (.ref C) "__ne__" = some (some (.builtin "object.__ne__"))) (hob : mroIn K C (.type "object") = some true) (he : findIn K (.ref C) "__eq__" = some (some (.ref f))) (hf : isFn K (.ref f) = true)
    (h : wpAny (model prog w) A.in1 (call (.ref f) [.ref x, b]) (fun v s' => ∃ c, v = .bool c ∧ Q (.bool (!c)) s') E s) : wpAny (model prog w) A (richCompare .NotEq (.ref x) b) Q E s := by
  have inner : wpAny (model prog w) A (call (.builtin "object.__ne__") [.ref x, b]) (fun r s' => ∃ c, r = .bool (!c) ∧ Q (.bool (!c)) s') E s := by
    refine wpAny_call (codeAny_call_builtin F.slot_object_ne.plain ne_entry (@W.check_slot (model prog w) _ _ s "object.__ne__" "object" "__ne__" (.ref x) [b] [] _ ne_kind ne_split (I.type.andThen (looks_mroIn X hob)) (ne_args _ _) ?_))
    unfold Builtin.«object.__ne__»
    refine wpAny_bind (m := slotArgs "__ne__" 1 _) (wpAny_pure ?_)
    refine wpAny_bind (wpAny_cRoomFor (show A.in1.units < cLine from hu) ?_)
    refine wpAny_bind (ifBound_K X I he hf (wpAny_mono h (fun v s' hv => ?_) fun _ _ e => e))
    obtain ⟨c, rfl, q⟩ := hv
    exact wpAny_bind (wpAny_truthy_bool (wpAny_pure ⟨c, rfl, q⟩))
  have one : wpAny (model prog w) A (tryCompare (.ref x) (cmpInfo .NotEq).2.1 b) (fun r s' => ∃ v, r = some v ∧ Q v s') E s := by
    unfold tryCompare
    refine wpAny_bind ?_
    simp only [callSpecialIfBound?, bindSpecialIfBound?]
    refine wpAny_holding (wpAny_bind (wpAny_bind (wpAny_bind (I.type.here ((looks_findIn X hs).here ?_)))))
    have fin : wpAny (model prog w) A (call (.builtin "object.__ne__") ([.ref x] ++ [b]) >>= fun v => pure (some v)) (fun r s' => wpAny (model prog w) A (match r with
        | some .notImplemented | none => pure none
        | some v => pure (some v)) (fun r s' => ∃ v, r = some v ∧ Q v s') E s') E s :=
      wpAny_bind (wpAny_mono inner (fun v s' h' => wpAny_pure (by obtain ⟨c, rfl, q⟩ := h'; exact wpAny_pure ⟨_, rfl, q⟩)) fun _ _ h' => h')
    refine wpAny_bind (wpAny_askSetting (wpAny_ite ?_))
    split
    · exact wpAny_bind (wpAny_of_eq (F.slot_object_ne.bind _) (wpAny_pure (by exact fin)))
    · exact wpAny_tryCatch (wpAny_bind (wpAny_of_eq (F.slot_object_ne.bind _) (wpAny_pure (by exact fin))))
  unfold richCompare
  simp only [oneThing_ref]
  refine wpAny_holding (wpAny_bind (wpAny_cRoomFor (by omega) ?_))
  refine wpAny_bind (I.type.here (wpAny_bind (hb.here ?_)))
  have tail : wpAny (model prog w) A (tryCompare (.ref x) (cmpInfo .NotEq).2.1 b) (fun r s' => ∃ v, r = some v ∧ Q v s') E s := one
  split
  · rename_i q
    have e : subIn K tb (.ref C) = some false := by
      rcases Bool.or_eq_true_iff.mp hn with e | e
      · rw [beq_iff_eq.mp e] at q; simp at q
      · exact beq_iff_eq.mp e
    refine wpAny_bind ((looks_subIn X e).here ?_)
    simp only [Bool.false_eq_true, if_false]
    refine wpAny_bind (wpAny_mono tail (fun r s' z => ?_) fun _ _ e => e)
    obtain ⟨v, rfl, hq⟩ := z
    exact wpAny_pure hq
  · refine wpAny_bind (wpAny_pure ?_)
    simp only [Bool.false_eq_true, if_false]
    refine wpAny_bind (wpAny_mono tail (fun r s' z => ?_) fun _ _ e => e)
    obtain ⟨v, rfl, hq⟩ := z
    exact wpAny_pure hq
/-- bool(x) by the own __bool__ -/
theorem bool_own {Q : Value → Shared → Prop} (X : K.In s.heap) (I : InstAt s.heap x ox C od) (hs : findIn K (.ref C) "__bool__" = some (some (.ref f))) (hf : isFn K (.ref f) = true)
    (h : wpAny (model prog w) A.in1.in1 (call (.ref f) [.ref x]) (PySem.W.BoolBack fun c s' => Q (.bool c) s') E s) : wpAny (model prog w) A (call (.type "bool") [.ref x]) Q E s := by
  refine callType_codes (T := "bool") (Bi := Builtin.«object.__init__») (Q₁ := fun r s₁ => ∃ c, r = .bool c ∧ Q r s₁) F.called_bool (F.typeCall_bool_1 _) PySem.F.entry_object_init ?_ ?_
  · refine codeAny_of_tree ?_
    show wpAny _ A.in1.in1 (do checkBuiltinCall "bool.__new__" ⟨[.type "bool", .ref x], []⟩; again (.builtin "bool.__new__" ⟨[.type "bool", .ref x], []⟩)) _ _ s
    have pl : plainId "bool.__new__" = true := by decide +kernel
    refine wpAny_bind (wpAny_of_eq (F.newCall_bool_1 _) (wpAny_pure ⟨plainId_quiet pl _, codeAny_builtin F.entry_bool_new ?_⟩))
    rw [Around.under_plainId pl _]
    unfold Builtin.«bool.__new__»
    dsimp only
    refine wpAny_bind (wpAny_of_eq (show isType (.type "bool") = pure true from rfl) ?_)
    refine wpAny_bind (wpAny_of_eq F.conv_sub_bool ?_)
    refine wpAny_bind (wpAny_of_eq (a := [.ref x]) (by rfl) ?_)
    dsimp only
    have tr : wpAny (model prog w) A.in1.in1 (truthy (.ref x)) (fun c s' => Q (.bool c) s') E s := by
      unfold truthy
      refine wpAny_bind (m := callSpecial? (.ref x) (Str.ofString "__bool__")) (special_fn X I hs (beq_iff_eq.mp hf) (wpAny_mono h (fun r s' hr => ?_) fun _ _ y => y))
      cases r <;> first | exact hr.elim | exact wpAny_pure hr
    exact wpAny_bind (wpAny_mono tr (fun c s' hq => wpAny_pure ⟨c, rfl, hq⟩) fun _ _ y => y)
  · rintro obj s₁ ⟨c, rfl, hq⟩
    exact ⟨typeIs_bool _ _, PySem.F.args_object_init_2 _ _, object_init_meets F.called_bool.init.lookup F.called_bool.made (by decide) prog w A.in1 _ s₁ ⟨typeIs_bool _ _, rfl, hq⟩⟩

/-- x op b, b of a built-in type T, whatever b is -/
theorem bin_other {op : Operator} {T : String} {fo ro rc : Option Value} {Q : Value → Shared → Prop} (X : K.In s.heap) (I : InstAt s.heap x ox C od)
    (hb : Looks (model prog w) s.heap (typeOf b) (.type T)) (hc : selfFirst K C = true)
    (hs : findIn K (.ref C) (PySem.dunder op.info.2) = some (some (.ref f))) (hf : isFn K (.ref f) = true)
    (hr : findIn K (.ref C) (dunderR op.info.2) = some rc) (hp : rc = none ∨ ∃ g : Addr, rc = some (.ref g))
    (h1 : findIn K (.type T) (PySem.dunder op.info.2) = some fo) (h2 : findIn K (.type T) (dunderR op.info.2) = some ro)
    (hsub : subIn K (.type T) (.ref C) = some false)
    (h : wpAny (model prog w) A (call (.ref f) [.ref x, b]) (PySem.W.CmpBack Q) E s) : wpAny (model prog w) A (binaryOp op (.ref x) b) Q E s := by
  obtain ⟨cd, rest, hcd, hm⟩ := ksp_first hc
  rcases hi : op.info with ⟨sym, nm⟩
  rw [hi] at hs hr h1 h2
  dsimp only at hs hr h1 h2
  have run := ksp_try X I hs hf h
  obtain ⟨hh, g, d, tt, os⟩ := s
  have a1 : Looks (model prog w) hh (typeOf (.ref x)) (.ref C) := I.type
  have a2 : Looks (model prog w) hh (typeOf b) (.type T) := hb
  have a3 : Looks (model prog w) hh (fillsNumberSlot (.ref C) nm) true := fills_K X hcd hm hs
  have a4 : Looks (model prog w) hh (fillsNumberSlot (.type T) nm) ((fo.isSome && !isSeqSlot fo) || (ro.isSome && !isSeqSlot ro)) := ksp_fillsT X h1 h2
  have a5 : Looks (model prog w) hh (isSubtype (.type T) (.ref C)) false := looks_subIn X hsub
  have a6 : Looks (model prog w) hh (numberSlotInPython (.ref C) nm) true := ksp_inPy X hs hr hp
  have a7 : Looks (model prog w) hh (numberSlotInPython (.type T) nm) false := Looks.of_pure rfl
  have a8 : Looks (model prog w) hh (typeLookup (.type T) (dunderR nm)) ro := looks_findIn X h2
  generalize ((fo.isSome && !isSeqSlot fo) || (ro.isSome && !isSeqSlot ro)) = rt at a4
  have apart : (Value.ref C == Value.type T) = false := by
    rw [Bool.eq_false_iff]
    exact fun q => by cases beq_iff_eq.mp q
  simp only [binaryOp, hi]
  refine wpAny_holding (wpAny_bind ?_)
  unfold binaryOp1
  refine wpAny_bind (a1.at (wpAny_bind (a2.at (wpAny_bind (a3.at ?_)))))
  simp only [apart, Bool.false_eq_true, if_false]
  cases rt
  all_goals
    ksp_lk
    refine wpAny_mono run (fun r s' hr' => ?_) fun _ _ e => e
    obtain ⟨v, rfl, hq⟩ := hr'
    ksp_lk
    exact hq
/-- a op x, a of a built-in type T whose own method (if it has one) hands back NotImplemented -/
theorem bin_back {op : Operator} {a : Value} {T : String} {fo ro : Option Value} {f1 : Addr} {Q : Value → Shared → Prop} (X : K.In s.heap) (I : InstAt s.heap x ox C od)
    (ha : Looks (model prog w) s.heap (typeOf a) (.type T)) (hc : selfFirst K C = true)
    (hs : findIn K (.ref C) (PySem.dunder op.info.2) = some (some (.ref f1)))
    (hr : findIn K (.ref C) (dunderR op.info.2) = some (some (.ref f))) (hf : isFn K (.ref f) = true)
    (h1 : findIn K (.type T) (PySem.dunder op.info.2) = some fo) (h2 : findIn K (.type T) (dunderR op.info.2) = some ro)
    (hsub : mroIn K C (.type T) = some false)
    (decl : ((fo.isSome && !isSeqSlot fo) || (ro.isSome && !isSeqSlot ro)) = true → ∀ Q' : Option Value → Shared → Prop, Q' none s → wpAny (model prog w) A (tryMethod a (PySem.dunder op.info.2) (.ref x)) Q' E s)
    (h : wpAny (model prog w) A (call (.ref f) [.ref x, a]) (PySem.W.CmpBack Q) E s) : wpAny (model prog w) A (binaryOp op a (.ref x)) Q E s := by
  obtain ⟨cd, rest, hcd, hm⟩ := ksp_first hc
  rcases hi : op.info with ⟨sym, nm⟩
  rw [hi] at hs hr h1 h2 decl
  dsimp only at hs hr h1 h2 decl
  have run := ksp_try X I hr hf h
  obtain ⟨hh, g, d, tt, os⟩ := s
  have a1 : Looks (model prog w) hh (typeOf (.ref x)) (.ref C) := I.type
  have a2 : Looks (model prog w) hh (typeOf a) (.type T) := ha
  have a3 : Looks (model prog w) hh (fillsNumberSlot (.ref C) nm) true := fills_K X hcd hm hs
  have a4 : Looks (model prog w) hh (fillsNumberSlot (.type T) nm) ((fo.isSome && !isSeqSlot fo) || (ro.isSome && !isSeqSlot ro)) := ksp_fillsT X h1 h2
  have a5 : Looks (model prog w) hh (isSubtype (.ref C) (.type T)) false := looks_mroIn X hsub
  have a7 : Looks (model prog w) hh (numberSlotInPython (.type T) nm) false := Looks.of_pure rfl
  generalize ((fo.isSome && !isSeqSlot fo) || (ro.isSome && !isSeqSlot ro)) = rt at a4 decl
  have apart : (Value.type T == Value.ref C) = false := by
    rw [Bool.eq_false_iff]
    exact fun q => by cases beq_iff_eq.mp q
  simp only [binaryOp, hi]
  refine wpAny_holding (wpAny_bind ?_)
  unfold binaryOp1
  refine wpAny_bind (a2.at (wpAny_bind (a1.at (wpAny_bind (a4.at ?_)))))
  simp only [apart, Bool.false_eq_true, if_false]
  cases rt with
  | false =>
    ksp_lk
    refine wpAny_mono run (fun r s' hr' => ?_) fun _ _ e => e
    obtain ⟨v, rfl, hq⟩ := hr'
    ksp_lk
    exact hq
  | true =>
    ksp_lk
    refine decl rfl _ ?_
    ksp_lk
    refine wpAny_mono run (fun r s' hr' => ?_) fun _ _ e => e
    obtain ⟨v, rfl, hq⟩ := hr'
    ksp_lk
    exact hq
theorem int_mul_inst (i : Int) (t : Tok) (l : Addr) (o : Obj) (ho : o.data = .plain) :
    Meets (Builtin.«int.__mul__» ⟨[.int i t, .ref l], []⟩) (fun _ R s => s.heap.get? l = some o ∧ R (.ok (.ret .notImplemented)) s) :=
  .of_wp fun prog w A R s h => by
    obtain ⟨c, dd, data, sl⟩ := o
    dsimp only at ho
    subst ho
    obtain ⟨hp, g, d, tk, os⟩ := s
    obtain ⟨hl, h⟩ := h
    wp_walk
    exact ⟨_, rfl, h⟩
theorem bool_mul_inst (i : Bool) (l : Addr) (o : Obj) (ho : o.data = .plain) :
    Meets (Builtin.«int.__mul__» ⟨[.bool i, .ref l], []⟩) (fun _ R s => s.heap.get? l = some o ∧ R (.ok (.ret .notImplemented)) s) :=
  .of_wp fun prog w A R s h => by
    obtain ⟨c, dd, data, sl⟩ := o
    dsimp only at ho
    subst ho
    obtain ⟨hp, g, d, tk, os⟩ := s
    obtain ⟨hl, h⟩ := h
    wp_walk
    exact ⟨_, rfl, h⟩
end
end OwnX
end PySem

set_option Elab.async false
set_option linter.all false
set_option maxRecDepth 100000
set_option maxHeartbeats 4000000
/-! the same over the layer: rules by values -/
namespace PySem
namespace OwnX
open PySem.W PySem.Calls PyProof.Rows Builtin
section
variable {prog : Program} {w : World} {A : Around} {E : Value → Shared → Prop} {s : Shared} {K : Frag} {x C f : Addr} {ox : Obj} {od : Option Obj} {b tb : Value}
theorem fillsI_none {h : Heap} {cd : ClassData} {nm : String} {M : Model} (X : K.In h) (hc : clsIn K C = some cd) (hm : cd.mro = [.ref C, .type "object"]) (h1 : findIn K (.ref C) (dunderI nm) = some none) (h2 : findIn K (.type "object") (dunderI nm) = some none) :
    Looks M h (fillsInplaceSlot (.ref C) nm true) false := by
  intro A Q E s k q
  have Lm : Looks M h (mroOf (.ref C)) cd.mro := (looks_clsIn X hc).andThen (f := fun cd => pure cd.mro) .now
  have Lm' := Lm.keeps k
  obtain ⟨hh, g, d, tt, os⟩ := s
  have X' : K.In hh := X.keeps k
  have L1 : Looks M hh (typeLookup (.ref C) (dunderI nm)) none := looks_findIn X' h1
  have L2 : Looks M hh (typeLookup (.type "object") (dunderI nm)) none := looks_findIn X' h2
  unfold fillsInplaceSlot
  refine wpAny_bind (Lm'.at ?_)
  rw [hm, List.anyM_cons]
  refine wpAny_bind (wpAny_bind (L1.at (wpAny_pure ?_)))
  rw [if_neg Bool.false_ne_true, List.anyM_cons]
  refine wpAny_bind (wpAny_bind (L2.at (wpAny_pure ?_)))
  exact wpAny_pure q
/-- x op= b, both of the class at C, which has no op= of its own -/
theorem inpl_same {op : Operator} {cd : ClassData} {Q : Value → Shared → Prop} (X : K.In s.heap) (I : InstAt s.heap x ox C od) (hb : Looks (model prog w) s.heap (typeOf b) (.ref C)) (hadd : (op == .Add) = true) (hc : clsIn K C = some cd) (hm : cd.mro = [.ref C, .type "object"])
    (n1 : findIn K (.ref C) (dunderI op.info.2) = some none) (n2 : findIn K (.type "object") (dunderI op.info.2) = some none) (hs : findIn K (.ref C) (PySem.dunder op.info.2) = some (some (.ref f))) (hf : isFn K (.ref f) = true)
    (h : wpAny (model prog w) A (call (.ref f) [.ref x, b]) (PySem.W.CmpBack Q) E s) : wpAny (model prog w) A (inplaceOp op (.ref x) b) Q E s := by
  rcases hi : op.info with ⟨sym, nm⟩
  rw [hi] at hs n1 n2
  dsimp only at hs n1 n2
  have run := ksp_try X I hs hf h
  obtain ⟨hh, g, d, tt, os⟩ := s
  have a1 : Looks (model prog w) hh (typeOf (.ref x)) (.ref C) := I.type
  have a2 : Looks (model prog w) hh (typeOf b) (.ref C) := hb
  have a3 : Looks (model prog w) hh (fillsNumberSlot (.ref C) nm) true := fills_K X hc hm hs
  have a4 : Looks (model prog w) hh (fillsInplaceSlot (.ref C) nm true) false := fillsI_none X hc hm n1 n2
  unfold inplaceOp
  refine wpAny_holding ?_
  rw [hi, hadd]
  dsimp only
  refine wpAny_bind (a1.at (wpAny_bind (a4.at ?_)))
  simp only [Bool.false_eq_true, if_false]
  refine wpAny_bind ?_
  unfold binaryOp1
  refine wpAny_bind (a1.at (wpAny_bind (a2.at (wpAny_bind (a3.at ?_)))))
  simp only [beq_self_eq_true, if_true]
  ksp_lk
  refine wpAny_mono run (fun r s' hr' => ?_) fun _ _ e => e
  obtain ⟨v, rfl, hq⟩ := hr'
  ksp_lk
  exact hq
theorem mulI {i : Int} {t : Tok} {a : Addr} {o : Obj} {Q : Value → Shared → Prop} (ha : s.heap.get? a = some o) (hp : o.data = .plain) (hq : Q .notImplemented s) :
    wpAny (model prog w) A (call (.builtin "int.__mul__") [.int i t, .ref a]) Q E s := by
  have m := int_mul_inst i t a o hp prog w A (wants Q E) s ⟨ha, hq⟩
  refine wpAny_call ?_
  show codeAny (model prog w) A (.call (.builtin "int.__mul__") ⟨[.int i t, .ref a], []⟩) (wants Q E) s
  have k1 := @codeAny_call_builtin prog w A (wants Q E) s "int.__mul__" ⟨[Value.int i t, .ref a], []⟩ _ F.slot_int_mul.plain F.entry_int_mul
  refine k1 ?_
  refine F.slot_int_mul.check _ _ _ _ _ _ _ _ (PySem.typeIs_int s i t) (F.args_int_mul_2 (.int i t) (.ref a)) ?_
  exact m
theorem mulB {i : Bool} {a : Addr} {o : Obj} {Q : Value → Shared → Prop} (ha : s.heap.get? a = some o) (hp : o.data = .plain) (hq : Q .notImplemented s) :
    wpAny (model prog w) A (call (.builtin "int.__mul__") [.bool i, .ref a]) Q E s := by
  have m := bool_mul_inst i a o hp prog w A (wants Q E) s ⟨ha, hq⟩
  refine wpAny_call ?_
  show codeAny (model prog w) A (.call (.builtin "int.__mul__") ⟨[.bool i, .ref a], []⟩) (wants Q E) s
  have k1 := @codeAny_call_builtin prog w A (wants Q E) s "int.__mul__" ⟨[Value.bool i, .ref a], []⟩ _ F.slot_bool_mul.plain F.entry_int_mul
  refine k1 ?_
  refine F.slot_bool_mul.check _ _ _ _ _ _ _ _ (PySem.typeIs_bool s i) (F.args_int_mul_2 (.bool i) (.ref a)) ?_
  exact m
theorem decl_int {i : Int} {t : Tok} {a : Addr} {o : Obj} {Q : Option Value → Shared → Prop} (ha : s.heap.get? a = some o) (hp : o.data = .plain) (hq : Q none s) :
    wpAny (model prog w) A (tryMethod (.int i t) (PySem.dunder "mul") (.ref a)) Q E s := by
  have k1 := @wpAny_tryMethod_declines (model prog w) A E s (.int i t) (.ref a) "int" (PySem.dunder "mul") "int.__mul__" Q (PySem.typeIs_int s i t) F.slot_int_mul
  have k2 := k1 (mulI ha hp ⟨rfl, hq⟩)
  exact k2
theorem decl_bool {i : Bool} {a : Addr} {o : Obj} {Q : Option Value → Shared → Prop} (ha : s.heap.get? a = some o) (hp : o.data = .plain) (hq : Q none s) :
    wpAny (model prog w) A (tryMethod (.bool i) (PySem.dunder "mul") (.ref a)) Q E s := by
  have k1 := @wpAny_tryMethod_declines (model prog w) A E s (.bool i) (.ref a) "bool" (PySem.dunder "mul") "int.__mul__" Q (PySem.typeIs_bool s i) F.slot_bool_mul
  have k2 := k1 (mulB ha hp ⟨rfl, hq⟩)
  exact k2
end
end OwnX
end PySem
namespace L2
open PySem PySem.Spec PyProof.Rows
section
variable {X : Cx} {CX : CXT} {k : Nat} {C g : Addr} {fd : FuncData} {ps : List Str} {sp : Sp} {dvs : List V} {ds : List Value} {E : XK} {pins : List (Addr × Obj)} {σ : St} {H : Hp} {s : Shared}
theorem ty_looks (I : Inv X pins σ H s) {y : V} {u t : Value} (ry : RelV y u) (ty : TyX X.K H y t) (M : Model) : PySem.W.Looks M s.heap (typeOf u) t := by
  obtain ⟨P, Z, p, _⟩ := kit_of I ry ty
  exact Z.ty M _ I.kIn p
theorem ins_looks {a dx : Addr} {fs : List (Str × V)} (I : Inv X pins σ H s) (ea : H a = some (.ins C dx fs)) : ∃ od : Obj, PySem.W.InstAt s.heap a (PySem.W.instObj C dx) C (some od) := by
  obtain ⟨mA, O, _⟩ := ins_get I.hok ea
  obtain ⟨od, J, _⟩ := O.look
  exact ⟨od, J⟩
/-- the callee runs within A' -/
theorem run_within {A' : Around} {Q : VK} {us : List Value} {vs : List V} (F : FnOk X.prog X.w X.K X.mg X.base CX k g fd ps sp) (hr : Room k A') (e0 : Env0 X.prog X.w X.K X.mg X.base A' X.stack s H)
    (hb : Binds X.K fd ps ds) (hd : Vals dvs ds) (hx : Passes CX X E) (I : Inv X pins σ H s) (r : Vals vs us) (h : sp (vs ++ dvs) H Q E) :
    wpAny (model X.prog X.w) A' (call (.ref g) us) (EP X pins σ Q) X.xe s := by
  have r2 : Vals (vs ++ dvs) (us ++ ds) := r.append hd
  have hl : (us ++ ds).length = ps.length := r2.length ▸ F.len _ _ _ _ h
  refine wpAny_call (codeAny_mono (F.run A' X.stack s H ⟨us, []⟩ (us ++ ds) (vs ++ dvs) Q E hr e0 (hb s us I.kIn hl) r2 h) fun r s' hq => ?_)
  rcases r with e | fl
  · exact hx pins σ H s e s' I hq
  · cases fl
    case ret u => exact I.after hq
    all_goals exact False.elim hq
/-! ### comparisons -/
/-- y is of class t: told, or a dict -/
def TyY (X : Cx) (H : Hp) (y : V) (t : Value) : Prop := TyX X.K H y t ∨ (t = .type "dict" ∧ ∃ p, y = .ref p ∧ ∀ (pins : List (Addr × Obj)) (s : Shared) (σ : St), Inv X pins σ H s → ∃ o, s.heap.get? p = some o ∧ o.cls = .type "dict")
theorem tyY_looks (I : Inv X pins σ H s) {y : V} {u t : Value} (ry : RelV y u) (ty : TyY X H y t) (M : Model) : PySem.W.Looks M s.heap (typeOf u) t := by
  rcases ty with ty | ⟨rfl, p, rfl, h⟩
  · exact ty_looks I ry ty M
  · obtain ⟨o, h1, h2⟩ := h pins s σ I
    cases (show u = Value.ref p from ry)
    exact fun A Q E s' kk q => wpAny_typeOf_ref (kk _ _ h1) (by rw [h2]; exact q)
def rCmpOwn (X : Cx) (C : Addr) (sp : Sp) (dvs : List V) (E : XK) : R2 := fun x y H Q => ∃ a dx fs t, x = .ref a ∧ H a = some (.ins C dx fs) ∧ TyY X H y t ∧ PySem.W.notFirst X.K C t = true ∧ sp ([x, y] ++ dvs) H Q E
theorem op_cmpOwn {op : CmpOp} (hop : ∀ a b, compareOp op a b = richCompare op a b) (m : Meth X.K C (cmpInfo op).2.1 g) (F : FnOk X.prog X.w X.K X.mg X.base CX k g fd ps sp) (hr : Room k X.A) (hb : Binds X.K fd ps ds) (hd : Vals dvs ds) (hx : Passes CX X E) :
    OpR X (compareOp op) (rCmpOwn X C sp dvs E) := by
  intro pins s σ H x y v u Q I rx ry h
  obtain ⟨a, dx, fs, t, rfl, ea, ty, hn, q⟩ := h
  cases (show v = Value.ref a from rx)
  obtain ⟨od, J⟩ := ins_looks I ea
  obtain ⟨_, hF⟩ := I.fr
  rw [hop]
  refine PySem.W.cmp_K (op := op) (tb := t) hr.units0 hF I.ok.mod.kin J (tyY_looks I ry ty _) hn m.at_ m.fn ?_
  refine wpAny_mono (run_within (vs := [.ref a, y]) F hr I.env0 hb hd hx I (.cons rfl (.cons ry .nil)) q) (fun w s' z => ?_) fun _ _ x => x
  obtain ⟨z', H', I', rz, qz⟩ := z
  exact SlX.cmpback rz ⟨z', H', I', rz, qz⟩
def rNeOwn (X : Cx) (C : Addr) (sp : Sp) (dvs : List V) (E : XK) : R2 := fun x y H Q => ∃ a dx fs t, x = .ref a ∧ H a = some (.ins C dx fs) ∧ TyY X H y t ∧ PySem.W.notFirst X.K C t = true ∧ sp ([x, y] ++ dvs) H (fun v H' => ∃ c, v = .bl c ∧ Q (.bl (!c)) H') E
theorem op_neOwn (n : PySem.W.findIn X.K (.ref C) "__ne__" = some (some (.builtin "object.__ne__"))) (ob : PySem.W.mroIn X.K C (.type "object") = some true) (m : Meth X.K C "__eq__" g) (F : FnOk X.prog X.w X.K X.mg X.base CX k g fd ps sp)
    (hr : Room (k + 1) X.A) (hb : Binds X.K fd ps ds) (hd : Vals dvs ds) (hx : Passes CX X E) : OpR X (compareOp .NotEq) (rNeOwn X C sp dvs E) := by
  intro pins s σ H x y v u Q I rx ry h
  obtain ⟨a, dx, fs, t, rfl, ea, ty, hn, q⟩ := h
  cases (show v = Value.ref a from rx)
  obtain ⟨od, J⟩ := ins_looks I ea
  show wpAny _ _ (richCompare .NotEq (.ref a) u) _ _ _
  refine PySem.OwnX.ne_own (tb := t) (by have := hr.un; omega) I.kIn J (tyY_looks I ry ty _) hn n ob m.at_ m.fn ?_
  refine wpAny_mono (run_within (vs := [.ref a, y]) F hr.in1 I.env0.in1 hb hd hx I (.cons rfl (.cons ry .nil)) q) (fun w s' z => ?_) fun _ _ x => x
  obtain ⟨z', H', I', rz, c, rfl, qz⟩ := z
  cases (show w = Value.bool c from rz)
  exact ⟨c, rfl, .bl (!c), H', I', rfl, qz⟩
/-! ### + - * of two of them, of one and something else -/
def rBinSame (C : Addr) (sp : Sp) (dvs : List V) (E : XK) : R2 := fun x y H Q => ∃ a dx fs b dy gs, x = .ref a ∧ H a = some (.ins C dx fs) ∧ y = .ref b ∧ H b = some (.ins C dy gs) ∧ sp ([x, y] ++ dvs) H Q E
theorem op_binSame {op : Operator} (hc : PySem.W.selfFirst X.K C = true) (m : Meth X.K C (PySem.dunder op.info.2) g) (F : FnOk X.prog X.w X.K X.mg X.base CX k g fd ps sp) (hr : Room k X.A) (hb : Binds X.K fd ps ds) (hd : Vals dvs ds) (hx : Passes CX X E) :
    OpR X (binaryOp op) (rBinSame C sp dvs E) := by
  intro pins s σ H x y v u Q I rx ry h
  obtain ⟨a, dx, fs, b, dy, gs, rfl, ea, rfl, eb, q⟩ := h
  cases (show v = Value.ref a from rx)
  cases (show u = Value.ref b from ry)
  obtain ⟨od, J⟩ := ins_looks I ea
  obtain ⟨od', J'⟩ := ins_looks I eb
  obtain ⟨_, hF⟩ := I.fr
  refine PySem.W.binop_K hF I.ok.mod.kin J J'.type hc m.at_ m.fn ?_
  refine wpAny_mono (run_within (vs := [.ref a, .ref b]) F hr I.env0 hb hd hx I (.cons rfl (.cons rfl .nil)) q) (fun w s' z => ?_) fun _ _ x => x
  obtain ⟨z', H', I', rz, qz⟩ := z
  exact SlX.cmpback rz ⟨z', H', I', rz, qz⟩
theorem iop_same {op : Operator} {cd : ClassData} (hadd : (op == .Add) = true) (hc : PySem.W.clsIn X.K C = some cd) (hm : cd.mro = [.ref C, .type "object"]) (n1 : PySem.W.findIn X.K (.ref C) (dunderI op.info.2) = some none) (n2 : PySem.W.findIn X.K (.type "object") (dunderI op.info.2) = some none)
    (m : Meth X.K C (PySem.dunder op.info.2) g) (F : FnOk X.prog X.w X.K X.mg X.base CX k g fd ps sp) (hr : Room k X.A) (hb : Binds X.K fd ps ds) (hd : Vals dvs ds) (hx : Passes CX X E) : OpR X (inplaceOp op) (rBinSame C sp dvs E) := by
  intro pins s σ H x y v u Q I rx ry h
  obtain ⟨a, dx, fs, b, dy, gs, rfl, ea, rfl, eb, q⟩ := h
  cases (show v = Value.ref a from rx)
  cases (show u = Value.ref b from ry)
  obtain ⟨od, J⟩ := ins_looks I ea
  obtain ⟨od', J'⟩ := ins_looks I eb
  refine PySem.OwnX.inpl_same I.kIn J J'.type hadd hc hm n1 n2 m.at_ m.fn ?_
  refine wpAny_mono (run_within (vs := [.ref a, .ref b]) F hr I.env0 hb hd hx I (.cons rfl (.cons rfl .nil)) q) (fun w s' z => ?_) fun _ _ x => x
  obtain ⟨z', H', I', rz, qz⟩ := z
  exact SlX.cmpback rz ⟨z', H', I', rz, qz⟩
/-- what is asked of a built-in type on the other side -/
def otherTy (K : PySem.W.Frag) (C : Addr) (nm : String) (T : String) : Bool :=
  (PySem.W.findIn K (.type T) (PySem.dunder nm)).isSome && ((PySem.W.findIn K (.type T) (dunderR nm)).isSome && decide (PySem.W.subIn K (.type T) (.ref C) = some false))
def rBinOther (X : Cx) (C : Addr) (nm : String) (sp : Sp) (dvs : List V) (E : XK) : R2 := fun x y H Q => ∃ a dx fs T, x = .ref a ∧ H a = some (.ins C dx fs) ∧ TyY X H y (.type T) ∧ otherTy X.K C nm T = true ∧ sp ([x, y] ++ dvs) H Q E
theorem op_binOther {op : Operator} {rc : Option Value} (hc : PySem.W.selfFirst X.K C = true) (m : Meth X.K C (PySem.dunder op.info.2) g) (hr' : PySem.W.findIn X.K (.ref C) (dunderR op.info.2) = some rc) (hp : rc = none ∨ ∃ g : Addr, rc = some (.ref g))
    (F : FnOk X.prog X.w X.K X.mg X.base CX k g fd ps sp) (hr : Room k X.A) (hb : Binds X.K fd ps ds) (hd : Vals dvs ds) (hx : Passes CX X E) :
    OpR X (binaryOp op) (rBinOther X C op.info.2 sp dvs E) := by
  intro pins s σ H x y v u Q I rx ry h
  obtain ⟨a, dx, fs, T, rfl, ea, ty, ot, q⟩ := h
  cases (show v = Value.ref a from rx)
  obtain ⟨od, J⟩ := ins_looks I ea
  unfold otherTy at ot
  obtain ⟨o1, o2⟩ := Bool.and_eq_true_iff.mp ot
  obtain ⟨o2, o3⟩ := Bool.and_eq_true_iff.mp o2
  obtain ⟨fo, e1⟩ := Option.isSome_iff_exists.mp o1
  obtain ⟨ro, e2⟩ := Option.isSome_iff_exists.mp o2
  refine PySem.OwnX.bin_other I.kIn J (tyY_looks I ry ty _) hc m.at_ m.fn hr' hp e1 e2 (of_decide_eq_true o3) ?_
  refine wpAny_mono (run_within (vs := [.ref a, y]) F hr I.env0 hb hd hx I (.cons rfl (.cons ry .nil)) q) (fun w s' z => ?_) fun _ _ x => x
  obtain ⟨z', H', I', rz, qz⟩ := z
  exact SlX.cmpback rz ⟨z', H', I', rz, qz⟩
/-- n * x: None, a bool or an int on the left -/
def rMulBack (C : Addr) (sp : Sp) (dvs : List V) (E : XK) : R2 := fun x y H Q => ∃ a dx fs, y = .ref a ∧ H a = some (.ins C dx fs) ∧ (x = .non ∨ (∃ b, x = .bl b) ∨ ∃ i, x = .int i) ∧ sp ([y, x] ++ dvs) H Q E
theorem op_mulBack {f1 : Addr} (hc : PySem.W.selfFirst X.K C = true) (m1 : PySem.W.findIn X.K (.ref C) (PySem.dunder "mul") = some (some (.ref f1))) (m : Meth X.K C (dunderR "mul") g)
    (s1 : PySem.W.mroIn X.K C (.type "NoneType") = some false) (s2 : PySem.W.mroIn X.K C (.type "bool") = some false) (s3 : PySem.W.mroIn X.K C (.type "int") = some false)
    (F : FnOk X.prog X.w X.K X.mg X.base CX k g fd ps sp) (hr : Room k X.A) (hb : Binds X.K fd ps ds) (hd : Vals dvs ds) (hx : Passes CX X E) : OpR X (binaryOp .Mult) (rMulBack C sp dvs E) := by
  intro pins s σ H x y v u Q I rx ry h
  obtain ⟨a, dx, fs, rfl, ea, hk, q⟩ := h
  cases (show u = Value.ref a from ry)
  obtain ⟨od, J⟩ := ins_looks I ea
  have ho := J.at_
  have back : wpAny (model X.prog X.w) X.A (call (.ref g) [.ref a, v]) (PySem.W.CmpBack (EP X pins σ Q)) X.xe s :=
    wpAny_mono (run_within (vs := [.ref a, x]) F hr I.env0 hb hd hx I (.cons rfl (.cons rx .nil)) q) (fun w s' z => by
      obtain ⟨z', H', I', rz, qz⟩ := z
      exact SlX.cmpback rz ⟨z', H', I', rz, qz⟩) fun _ _ x => x
  rcases hk with rfl | ⟨b, rfl⟩ | ⟨i, rfl⟩
  · cases (show v = Value.none from rx)
    exact PySem.OwnX.bin_back (op := .Mult) (T := "NoneType") (fo := none) (ro := none) I.kIn J (ty_looks I (y := .non) rfl (.base .non) _) hc m1 m.at_ m.fn (by kernel_rfl) (by kernel_rfl) s1 (fun z => by cases z) back
  · cases (show v = Value.bool b from rx)
    exact PySem.OwnX.bin_back (op := .Mult) (T := "bool") (fo := some (.builtin "int.__mul__")) (ro := some (.builtin "int.__rmul__")) I.kIn J (ty_looks I (y := .bl b) rfl (.base (.bl b)) _) hc m1 m.at_ m.fn (by kernel_rfl) (by kernel_rfl) s2
      (fun _ Q' hq => PySem.OwnX.decl_bool ho rfl hq) back
  · obtain ⟨t, rfl⟩ := (show ∃ t, v = Value.int i t from rx)
    exact PySem.OwnX.bin_back (op := .Mult) (T := "int") (fo := some (.builtin "int.__mul__")) (ro := some (.builtin "int.__rmul__")) I.kIn J (ty_looks I (y := .int i) ⟨t, rfl⟩ (.base (.int i)) _) hc m1 m.at_ m.fn (by kernel_rfl) (by kernel_rfl) s3
      (fun _ Q' hq => PySem.OwnX.decl_int ho rfl hq) back
/-! ### [], in, len, bool, str -/
def rIxOwn (C : Addr) (sp : Sp) (dvs : List V) (E : XK) : R2 := fun x y H Q => ∃ a dx fs, x = .ref a ∧ H a = some (.ins C dx fs) ∧ sp ([x, y] ++ dvs) H Q E
/-- how o[i] is written -/
def SubTail (X : Cx) (b : Expr) : Prop := ∀ o i, subscripted b true o i = runValue (.builtin "lifetime.subscript" ⟨[o, i], []⟩)
theorem pe_ixOwn {a b : Expr} {ta tb : TE} {pos : Pos} (m : Meth X.K C "__getitem__" g) (gi : PySem.W.fnIn X.K g = true) (F : FnOk X.prog X.w X.K X.mg X.base CX k g fd ps sp) (hr : Room (k + 1) X.A) (hb : Binds X.K fd ps ds) (hd : Vals dvs ds) (hx : Passes CX X E)
    (ha : PE X a ta) (hb' : PE X b tb) (hs : ∀ (p : Addr) (i : Value), subscripted b true (.ref p) i = runValue (.builtin "lifetime.subscript" ⟨[.ref p, i], []⟩) := by intro _ _; with_unfolding_all rfl) : PE X (.Subscript a b pos) (tOp (rIxOwn C sp dvs E) ta tb) := by
  refine ⟨fun pins s σ H Q I h => ?_⟩
  refine Subscript_ (binT ha hb' I h fun v u s2 x y H2 I2 rx ry q => ?_)
  obtain ⟨p, dx, fs, rfl, ea, q⟩ := q
  cases (show v = Value.ref p from rx)
  obtain ⟨od, J⟩ := ins_looks I2 ea
  obtain ⟨_, hF⟩ := I2.fr
  refine PySem.W.sub_K hF I2.ok.mod.kin J m.at_ gi m.fn ?_ (hs p u)
  exact run_within (vs := [.ref p, y]) F hr.in1 I2.env0.in1 hb hd hx I2 (.cons rfl (.cons ry .nil)) q
def rInOwn (C : Addr) (sp : Sp) (dvs : List V) (E : XK) : R2 := fun x y H Q => ∃ a dx fs, y = .ref a ∧ H a = some (.ins C dx fs) ∧ sp ([y, x] ++ dvs) H (fun v H' => ∃ c, v = .bl c ∧ Q (.bl c) H') E
theorem op_inOwn (m : Meth X.K C "__contains__" g) (F : FnOk X.prog X.w X.K X.mg X.base CX k g fd ps sp) (hr : Room k X.A) (hb : Binds X.K fd ps ds) (hd : Vals dvs ds) (hx : Passes CX X E) : OpR X (compareOp .In) (rInOwn C sp dvs E) := by
  intro pins s σ H x y v u Q I rx ry h
  obtain ⟨a, dx, fs, rfl, ea, q⟩ := h
  cases (show u = Value.ref a from ry)
  obtain ⟨od, J⟩ := ins_looks I ea
  obtain ⟨_, hF⟩ := I.fr
  refine PySem.W.in_K hF I.ok.mod.kin J m.at_ m.fn ?_
  refine wpAny_mono (run_within (vs := [.ref a, x]) F hr I.env0 hb hd hx I (.cons rfl (.cons rx .nil)) q) (fun w s' z => ?_) fun _ _ x => x
  obtain ⟨z', H', I', rz, c, rfl, qz⟩ := z
  cases (show w = Value.bool c from rz)
  exact wpAny_truthy_bool ⟨.bl c, H', I', rfl, qz⟩
def rCallOwn (C : Addr) (sp : Sp) (dvs : List V) (E : XK) (back : VK → VK) : List V → Hp → VK → Prop := fun xs H Q => ∃ a dx fs, xs = [.ref a] ∧ H a = some (.ins C dx fs) ∧ sp ([.ref a] ++ dvs) H (back Q) E
def backLen (Q : VK) : VK := fun v H => ∃ n : Int, v = .int n ∧ (0 ≤ n ∧ n < 2 ^ 63) ∧ Q (.int n) H
def backBool (Q : VK) : VK := fun v H => ∃ c : Bool, v = .bl c ∧ Q (.bl c) H
def backStr (Q : VK) : VK := fun v H => ∃ z : Str, v = .str z ∧ Q (.str z) H
theorem call_lenOwn (m : Meth X.K C "__len__" g) (F : FnOk X.prog X.w X.K X.mg X.base CX k g fd ps sp) (hr : Room (k + 1) X.A) (hb : Binds X.K fd ps ds) (hd : Vals dvs ds) (hx : Passes CX X E) : CallR X (.builtin "len") (rCallOwn C sp dvs E backLen) := by
  intro pins s σ H xs us Q I r h
  obtain ⟨a, dx, fs, rfl, ea, q⟩ := h
  obtain rfl := Vals.ref1 r
  obtain ⟨od, J⟩ := ins_looks I ea
  obtain ⟨_, hF⟩ := I.fr
  refine PySem.W.len_K hF I.ok.mod.kin J m.at_ m.fn ?_
  refine wpAny_mono (run_within (us := [.ref a]) (vs := [.ref a]) F hr.in1 I.env0.in1 hb hd hx I (.cons rfl .nil) q) (fun w s' z => ?_) fun _ _ x => x
  obtain ⟨z', H', I', rz, n, rfl, hn, qz⟩ := z
  obtain ⟨t, rfl⟩ := (show ∃ t, w = Value.int n t from rz)
  exact ⟨hn, .int n, H', I'.tok _, ⟨_, rfl⟩, qz⟩
theorem call_boolOwn (m : Meth X.K C "__bool__" g) (F : FnOk X.prog X.w X.K X.mg X.base CX k g fd ps sp) (hr : Room (k + 2) X.A) (hb : Binds X.K fd ps ds) (hd : Vals dvs ds) (hx : Passes CX X E) : CallR X (.type "bool") (rCallOwn C sp dvs E backBool) := by
  intro pins s σ H xs us Q I r h
  obtain ⟨a, dx, fs, rfl, ea, q⟩ := h
  obtain rfl := Vals.ref1 r
  obtain ⟨od, J⟩ := ins_looks I ea
  refine PySem.OwnX.bool_own I.kIn J m.at_ m.fn ?_
  have hr2 : Room k X.A.in1.in1 := (show Room (k + 1) X.A.in1 from hr.in1).in1
  refine wpAny_mono (run_within (us := [.ref a]) (vs := [.ref a]) F hr2 I.env0.in1.in1 hb hd hx I (.cons rfl .nil) q) (fun w s' z => ?_) fun _ _ x => x
  obtain ⟨z', H', I', rz, c, rfl, qz⟩ := z
  cases (show w = Value.bool c from rz)
  exact ⟨.bl c, H', I', rfl, qz⟩
theorem call_strOwn (m : Meth X.K C "__str__" g) (F : FnOk X.prog X.w X.K X.mg X.base CX k g fd ps sp) (hr : Room (k + 2) X.A) (hb : Binds X.K fd ps ds) (hd : Vals dvs ds) (hx : Passes CX X E) : CallR X (.type "str") (rCallOwn C sp dvs E backStr) := by
  intro pins s σ H xs us Q I r h
  obtain ⟨a, dx, fs, rfl, ea, q⟩ := h
  obtain rfl := Vals.ref1 r
  obtain ⟨od, J⟩ := ins_looks I ea
  have hr2 : Room k X.A.in1.in1 := (show Room (k + 1) X.A.in1 from hr.in1).in1
  refine PySem.W.kso_call (by have := hr2.un; omega) I.kIn J m.at_ m.fn ?_
  refine wpAny_mono (run_within (us := [.ref a]) (vs := [.ref a]) F hr2 I.env0.in1.in1 hb hd hx I (.cons rfl .nil) q) (fun w s' z => ?_) fun _ _ x => x
  obtain ⟨z', H', I', rz, c, rfl, qz⟩ := z
  obtain ⟨t, rfl⟩ := (show ∃ t, w = Value.str c t from rz)
  exact ⟨.str c, H', I', ⟨t, rfl⟩, qz⟩
end
end L2

set_option Elab.async false
set_option linter.all false
set_option maxRecDepth 100000
set_option maxHeartbeats 4000000
/-! data: what stands behind a value, however deep -/
namespace Dt
open PySem L2
inductive D where
  | non | bl (b : Bool) | int (i : Int) | str (s : Str)
  /-- a built-in class; the object at a, of which nothing is told -/
  | ty (n : String) | adr (a : Addr)
  | tup (xs : List D) | lst (xs : List D)
  /-- a list of ints that is only read (the script) -/
  | scr (ns : List Int)
  /-- a dict with keys that are tuples of ints and texts; one with keys that are ints and texts -/
  | dic (ks : List (List L2.Key)) (vs : List D)
  | dck (ks : List L2.Key) (vs : List D)
  /-- a set of ints -/
  | ist (S : Int → Bool) (n : Nat)
  /-- a dict of which the keys alone are told -/
  | mix (ks : List D)
  /-- an instance of the class at C -/
  | obj (C : Addr) (ns : List Str) (vs : List D)
def ky (k : List Int) : List L2.Key := k.map Sum.inl
theorem ky_kV (k : List Int) : (ky k).map kV = k.map V.int := by
  unfold ky
  rw [List.map_map] <;> rfl
theorem ky_inj {a b : List Int} (h : ky a = ky b) : a = b := by
  have e := congrArg (List.map kV) h
  rw [ky_kV, ky_kV] at e
  exact (List.map_inj_right fun x y z => V.int.inj z).mp e
/-- the dict at a has the keys us, in this order -/
def KeysAt (a : Addr) (us : List Value) (h : Heap) : Prop := (a == sysModules) = false ∧ us.length ≤ sizeLine ∧ ∃ o es ep, h.get? a = some o ∧ o.ExactDict ∧ o.data = .dict es ep ∧ es.toList.map (·.key) = us
mutual
inductive Is (K : PySem.W.Frag) (H : Hp) : V → D → Prop
  | non : Is K H .non .non
  | bl {b : Bool} : Is K H (.bl b) (.bl b)
  | int {i : Int} : Is K H (.int i) (.int i)
  | str {s : Str} : Is K H (.str s) (.str s)
  | ty {n : String} : Is K H (.ty n) (.ty n)
  | adr {a : Addr} : Is K H (.ref a) (.adr a)
  | tup {a : Addr} {xs : List V} {ds : List D} : H a = some (.tup xs) → IsAll K H xs ds → Is K H (.ref a) (.tup ds)
  | lst {a : Addr} {xs : List V} {ds : List D} : H a = some (.lst xs) → IsAll K H xs ds → Is K H (.ref a) (.lst ds)
  | scr {a : Addr} {ns : List Int} : SqL K H a (ns.map V.int) → Is K H (.ref a) (.scr ns)
  | dic {a : Addr} {ks : List (List L2.Key)} {xs : List V} {ds : List D} : Rd H a (.dT (ks.zip xs)) → ks.length = xs.length → ks.Nodup → IsAll K H xs ds → Is K H (.ref a) (.dic ks ds)
  | dck {a : Addr} {ks : List L2.Key} {xs : List V} {ds : List D} : Rd H a (.dK (ks.zip xs)) → ks.length = xs.length → ks.Nodup → IsAll K H xs ds → Is K H (.ref a) (.dck ks ds)
  | ist {a : Addr} {S : Int → Bool} {n : Nat} : Rd H a (.set S n) → Is K H (.ref a) (.ist S n)
  | mix {a : Addr} {od : Obj} {us : List Value} {xs : List V} {ds : List D} : H a = some (.frz od (.ext (KeysAt a us))) → Vals xs us → IsAll K H xs ds → Is K H (.ref a) (.mix ds)
  | obj {a C dx : Addr} {ns : List Str} {xs : List V} {ds : List D} : H a = some (.ins C dx (ns.zip xs)) → ns.length = xs.length → IsAll K H xs ds → Is K H (.ref a) (.obj C ns ds)
inductive IsAll (K : PySem.W.Frag) (H : Hp) : List V → List D → Prop
  | nil : IsAll K H [] []
  | cons {v : V} {vs : List V} {d : D} {ds : List D} : Is K H v d → IsAll K H vs ds → IsAll K H (v :: vs) (d :: ds)
end
/-- what is known stays -/
def Sub (H H' : Hp) : Prop := ∀ a o, H a = some o → H' a = some o
theorem Sub.rfl' {H : Hp} : Sub H H := fun _ _ h => h
theorem Sub.tr {H H1 H2 : Hp} (a : Sub H H1) (b : Sub H1 H2) : Sub H H2 := fun x o h => b x o (a x o h)
theorem Sub.rd {H H' : Hp} (s : Sub H H') {a : Addr} {u : HO} (h : Rd H a u) : Rd H' a u := h.imp (fun q => s _ _ q) fun ⟨o, q⟩ => ⟨o, s _ _ q⟩
theorem Sub.sqL {K : PySem.W.Frag} {H H' : Hp} (s : Sub H H') {a : Addr} {xs : List V} (h : SqL K H a xs) : SqL K H' a xs := h.imp (fun q => s.rd q) id
theorem Sub.sqT {K : PySem.W.Frag} {H H' : Hp} (s : Sub H H') {a : Addr} {xs : List V} (h : SqT K H a xs) : SqT K H' a xs := h.imp (fun q => s.rd q) id
mutual
theorem Is.up {K : PySem.W.Frag} {H H' : Hp} (s : Sub H H') : ∀ {v : V} {d : D}, Is K H v d → Is K H' v d
  | _, _, .non => .non
  | _, _, .bl => .bl
  | _, _, .int => .int
  | _, _, .str => .str
  | _, _, .ty => .ty
  | _, _, .adr => .adr
  | _, _, .tup h a => .tup (s _ _ h) (IsAll.up s a)
  | _, _, .lst h a => .lst (s _ _ h) (IsAll.up s a)
  | _, _, .scr h => .scr (s.sqL h)
  | _, _, .dic h n q a => .dic (s.rd h) n q (IsAll.up s a)
  | _, _, .dck h n q a => .dck (s.rd h) n q (IsAll.up s a)
  | _, _, .ist h => .ist (s.rd h)
  | _, _, .mix h r a => .mix (s _ _ h) r (IsAll.up s a)
  | _, _, .obj h n a => .obj (s _ _ h) n (IsAll.up s a)
theorem IsAll.up {K : PySem.W.Frag} {H H' : Hp} (s : Sub H H') : ∀ {vs : List V} {ds : List D}, IsAll K H vs ds → IsAll K H' vs ds
  | _, _, .nil => .nil
  | _, _, .cons h t => .cons (Is.up s h) (IsAll.up s t)
end
section
variable {K : PySem.W.Frag} {H : Hp}
theorem IsAll.len : ∀ {vs : List V} {ds : List D}, IsAll K H vs ds → vs.length = ds.length
  | _, _, .nil => rfl
  | _, _, .cons _ t => congrArg Nat.succ (IsAll.len t)
theorem IsAll.at_ : ∀ {vs : List V} {ds : List D} {i : Nat} {v : V}, IsAll K H vs ds → vs[i]? = some v → ∃ d, ds[i]? = some d ∧ Is K H v d
  | _, _, _, _, .nil, e => by simp at e
  | _, _, 0, _, .cons h _, e => ⟨_, rfl, by simp at e; subst e; exact h⟩
  | _, _, i + 1, _, .cons _ t, e => IsAll.at_ (i := i) t (by simpa using e)
theorem IsAll.at' : ∀ {vs : List V} {ds : List D} {i : Nat} {d : D}, IsAll K H vs ds → ds[i]? = some d → ∃ v, vs[i]? = some v ∧ Is K H v d
  | _, _, _, _, .nil, e => by simp at e
  | _, _, 0, _, .cons h _, e => ⟨_, rfl, by simp at e; subst e; exact h⟩
  | _, _, i + 1, _, .cons _ t, e => IsAll.at' (i := i) t (by simpa using e)
theorem IsAll.app : ∀ {vs ws : List V} {ds es : List D}, IsAll K H vs ds → IsAll K H ws es → IsAll K H (vs ++ ws) (ds ++ es)
  | _, _, _, _, .nil, b => b
  | _, _, _, _, .cons h t, b => .cons h (IsAll.app t b)
theorem IsAll.ofAt : ∀ {vs : List V} {ds : List D}, vs.length = ds.length → (∀ (i : Nat) (v : V) (d : D), vs[i]? = some v → ds[i]? = some d → Is K H v d) → IsAll K H vs ds
  | [], [], _, _ => .nil
  | [], _ :: _, e, _ => nomatch e
  | _ :: _, [], e, _ => nomatch e
  | v :: vs, d :: ds, e, h => .cons (h 0 v d rfl rfl) (IsAll.ofAt (Nat.succ.inj e) fun i x y a b => h (i + 1) x y a b)
theorem IsAll.drop (n : Nat) : ∀ {vs : List V} {ds : List D}, IsAll K H vs ds → IsAll K H (vs.drop n) (ds.drop n) := by
  induction n with
  | zero => exact fun h => h
  | succ n ih =>
    intro vs ds h
    cases h with
    | nil => exact .nil
    | cons _ t => exact ih t
theorem IsAll.take (n : Nat) : ∀ {vs : List V} {ds : List D}, IsAll K H vs ds → IsAll K H (vs.take n) (ds.take n) := by
  induction n with
  | zero => exact fun _ => .nil
  | succ n ih =>
    intro vs ds h
    cases h with
    | nil => exact .nil
    | cons a t => exact .cons a (ih t)
theorem IsAll.erase (n : Nat) : ∀ {vs : List V} {ds : List D}, IsAll K H vs ds → IsAll K H (vs.eraseIdx n) (ds.eraseIdx n) := by
  induction n with
  | zero =>
    intro vs ds h
    cases h with
    | nil => exact .nil
    | cons _ t => exact t
  | succ n ih =>
    intro vs ds h
    cases h with
    | nil => exact .nil
    | cons a t => exact .cons a (ih t)
/-! ### scalars -/
theorem Is.int_inv {v : V} {i : Int} (h : Is K H v (.int i)) : v = .int i := by cases h; rfl
theorem Is.bl_inv {v : V} {b : Bool} (h : Is K H v (.bl b)) : v = .bl b := by cases h; rfl
theorem Is.str_inv {v : V} {s : Str} (h : Is K H v (.str s)) : v = .str s := by cases h; rfl
theorem Is.ty_inv {v : V} {n : String} (h : Is K H v (.ty n)) : v = .ty n := by cases h; rfl
theorem Is.adr_inv {v : V} {a : Addr} (h : Is K H v (.adr a)) : v = .ref a := by cases h; rfl
theorem Is.non_inv {v : V} (h : Is K H v .non) : v = .non := by cases h; rfl
def D.flat : D → Bool
  | .non | .bl _ | .int _ | .str _ | .ty _ | .adr _ => true
  | _ => false
theorem Is.flat {H' : Hp} {v : V} {d : D} (h : Is K H v d) (f : d.flat = true) : Is K H' v d := by
  cases d with
  | non => cases h; exact .non
  | bl b => cases h; exact .bl
  | int i => cases h; exact .int
  | str s => cases h; exact .str
  | ty n => cases h; exact .ty
  | adr a => cases h; exact .adr
  | _ => cases f
/-- a list of ints -/
def D.ints (ns : List Int) : List D := ns.map D.int
theorem ints_all : ∀ ns : List Int, IsAll K H (ns.map V.int) (D.ints ns)
  | [] => .nil
  | _ :: r => .cons .int (ints_all r)
theorem ints_inv : ∀ {ns : List Int} {vs : List V}, IsAll K H vs (D.ints ns) → vs = ns.map V.int
  | [], _, h => by cases h; rfl
  | n :: r, _, h => by
    cases h with
    | cons a t =>
      rw [a.int_inv, ints_inv t]
      rfl
theorem bls_inv : ∀ {bs : List Bool} {vs : List V}, IsAll K H vs (bs.map D.bl) → vs = bs.map V.bl
  | [], _, h => by cases h; rfl
  | n :: r, _, h => by
    cases h with
    | cons a t =>
      rw [a.bl_inv, bls_inv t]
      rfl
theorem strs_inv : ∀ {bs : List Str} {vs : List V}, IsAll K H vs (bs.map D.str) → vs = bs.map V.str
  | [], _, h => by cases h; rfl
  | n :: r, _, h => by
    cases h with
    | cons a t =>
      rw [a.str_inv, strs_inv t]
      rfl
end
/-! ### plain data, for ==, repr -/
mutual
def D.py : D → Option PyData
  | .non => some .none
  | .bl b => some (.bool b)
  | .int i => some (.int i)
  | .str s => some (.str s)
  | .tup xs => (D.pyAll xs).map .tuple
  | .lst xs => (D.pyAll xs).map .list
  | _ => none
def D.pyAll : List D → Option (List PyData)
  | [] => some []
  | x :: xs => match D.py x, D.pyAll xs with
    | some y, some ys => some (y :: ys)
    | _, _ => none
end
mutual
theorem Is.dp {K : PySem.W.Frag} {H : Hp} : ∀ {v : V} {d : D} {p : PyData}, Is K H v d → d.py = some p → Dp K H v p
  | _, _, _, .non, e => by simp only [D.py, Option.some.injEq] at e; subst e; exact .non
  | _, _, _, .bl, e => by simp only [D.py, Option.some.injEq] at e; subst e; exact .bl _
  | _, _, _, .int, e => by simp only [D.py, Option.some.injEq] at e; subst e; exact .int _
  | _, _, _, .str, e => by simp only [D.py, Option.some.injEq] at e; subst e; exact .str _
  | _, _, _, .tup h a, e => by
    simp only [D.py, Option.map_eq_some_iff] at e
    obtain ⟨ps, e, rfl⟩ := e
    exact .tup (.inl (.inl h)) (IsAll.dp a e)
  | _, _, _, .lst h a, e => by
    simp only [D.py, Option.map_eq_some_iff] at e
    obtain ⟨ps, e, rfl⟩ := e
    exact .lst (.inl (.inl h)) (IsAll.dp a e)
  | _, _, _, .ty, e => by simp [D.py] at e
  | _, _, _, .adr, e => by simp [D.py] at e
  | _, _, _, .scr .., e => by simp [D.py] at e
  | _, _, _, .dic .., e => by simp [D.py] at e
  | _, _, _, .dck .., e => by simp [D.py] at e
  | _, _, _, .ist .., e => by simp [D.py] at e
  | _, _, _, .mix .., e => by simp [D.py] at e
  | _, _, _, .obj .., e => by simp [D.py] at e
theorem IsAll.dp {K : PySem.W.Frag} {H : Hp} : ∀ {vs : List V} {ds : List D} {ps : List PyData}, IsAll K H vs ds → D.pyAll ds = some ps → DpAll K H vs ps
  | _, _, _, .nil, e => by simp only [D.pyAll, Option.some.injEq] at e; subst e; exact .nil
  | _, _, _, .cons (d := d) (ds := ds) h t, e => by
    simp only [D.pyAll] at e
    cases e1 : d.py with
    | none => rw [e1] at e; simp at e
    | some p =>
      cases e2 : D.pyAll ds with
      | none => rw [e1, e2] at e; simp at e
      | some ps =>
        rw [e1, e2] at e
        simp only [Option.some.injEq] at e
        subst e
        exact .cons (Is.dp h e1) (IsAll.dp t e2)
end
/-! ### under a lock -/
/-- what is never locked here -/
def isRaw : HO → Bool
  | .lst _ | .tup _ | .ins _ _ _ => true
  | .frz _ (.ext _) => true
  | _ => false
/-- H' is H with one dict (or set) locked, or the other way round -/
structure Locks (H H' : Hp) : Prop where
  rd : ∀ a u, (∀ w v, u ≠ .frz w v) → Rd H a u → Rd H' a u
  raw : ∀ a o, isRaw o = true → H a = some o → H' a = some o
theorem Locks.on {H : Hp} {a : Addr} {u : HO} (h : H a = some u) (n1 : isRaw u = false) (n2 : ∀ w v, u ≠ .frz w v) (od : Obj) : Locks H (upd H a (.frz od u)) where
  rd := fun b k nk e => by
    by_cases z : b = a
    · subst z
      rcases e with e | ⟨w, e⟩
      · rw [h] at e
        cases e
        exact .inr ⟨od, upd_same⟩
      · rw [h] at e
        exact absurd (Option.some.inj e) (n2 w k)
    · exact e.imp (fun e => by rw [upd_ne z]; exact e) fun ⟨w, e⟩ => ⟨w, by rw [upd_ne z]; exact e⟩
  raw := fun b o r e => by
    by_cases z : b = a
    · subst z
      rw [h] at e
      cases e
      rw [n1] at r
      cases r
    · rw [upd_ne z]
      exact e
theorem Locks.off {H : Hp} {a : Addr} {u : HO} {od : Obj} (h : H a = some (.frz od u)) (n : isRaw (.frz od u) = false := by rfl) : Locks H (upd H a u) where
  rd := fun b k nk e => by
    by_cases z : b = a
    · subst z
      rcases e with e | ⟨w, e⟩
      · rw [h] at e
        exact absurd (Option.some.inj e).symm (nk od u)
      · rw [h] at e
        cases e
        exact .inl upd_same
    · exact e.imp (fun e => by rw [upd_ne z]; exact e) fun ⟨w, e⟩ => ⟨w, by rw [upd_ne z]; exact e⟩
  raw := fun b o r e => by
    by_cases z : b = a
    · subst z
      rw [h] at e
      cases e
      rw [n] at r
      cases r
    · rw [upd_ne z]
      exact e
theorem Locks.sqL {K : PySem.W.Frag} {H H' : Hp} (s : Locks H H') {a : Addr} {xs : List V} (h : SqL K H a xs) : SqL K H' a xs := h.imp (fun q => s.rd _ _ (fun _ _ z => by cases z) q) id
theorem Locks.sqT {K : PySem.W.Frag} {H H' : Hp} (s : Locks H H') {a : Addr} {xs : List V} (h : SqT K H a xs) : SqT K H' a xs := h.imp (fun q => s.rd _ _ (fun _ _ z => by cases z) q) id
mutual
theorem Is.lock {K : PySem.W.Frag} {H H' : Hp} (s : Locks H H') : ∀ {v : V} {d : D}, Is K H v d → Is K H' v d
  | _, _, .non => .non
  | _, _, .bl => .bl
  | _, _, .int => .int
  | _, _, .str => .str
  | _, _, .ty => .ty
  | _, _, .adr => .adr
  | _, _, .tup h a => .tup (s.raw _ _ rfl h) (IsAll.lock s a)
  | _, _, .lst h a => .lst (s.raw _ _ rfl h) (IsAll.lock s a)
  | _, _, .scr h => .scr (s.sqL h)
  | _, _, .dic h n q a => .dic (s.rd _ _ (fun _ _ z => by cases z) h) n q (IsAll.lock s a)
  | _, _, .dck h n q a => .dck (s.rd _ _ (fun _ _ z => by cases z) h) n q (IsAll.lock s a)
  | _, _, .ist h => .ist (s.rd _ _ (fun _ _ z => by cases z) h)
  | _, _, .mix h r a => .mix (s.raw _ _ rfl h) r (IsAll.lock s a)
  | _, _, .obj h n a => .obj (s.raw _ _ rfl h) n (IsAll.lock s a)
theorem IsAll.lock {K : PySem.W.Frag} {H H' : Hp} (s : Locks H H') : ∀ {vs : List V} {ds : List D}, IsAll K H vs ds → IsAll K H' vs ds
  | _, _, .nil => .nil
  | _, _, .cons h t => .cons (Is.lock s h) (IsAll.lock s t)
end
/-! ### a part of the heap -/
def cut (M : List Addr) (H : Hp) : Hp := fun a => if a ∈ M then none else H a
theorem cut_at {M : List Addr} {H : Hp} {a : Addr} {o : HO} (h : cut M H a = some o) : H a = some o ∧ a ∉ M := by
  unfold cut at h
  split at h
  · cases h
  · rename_i n
    exact ⟨h, n⟩
theorem cut_of {M : List Addr} {H : Hp} {a : Addr} {o : HO} (h : H a = some o) (n : a ∉ M) : cut M H a = some o := by
  unfold cut
  rw [if_neg n]
  exact h
theorem cut_sub {M : List Addr} {H : Hp} : Sub (cut M H) H := fun _ _ h => (cut_at h).1
theorem cut_upd {M : List Addr} {H : Hp} {a : Addr} {o : HO} (h : a ∈ M) : cut M (upd H a o) = cut M H := by
  funext b
  unfold cut
  by_cases z : b = a
  · subst z
    rw [if_pos h, if_pos h]
  · rw [upd_ne z]
/-- a fresh address more -/
theorem cut_new {M : List Addr} {H : Hp} {p : Addr} (h : H p = none) : Sub (cut M H) (cut (p :: M) H) := fun a o e => by
  obtain ⟨e1, n⟩ := cut_at e
  refine cut_of e1 fun z => ?_
  rcases List.mem_cons.mp z with rfl | z
  · rw [h] at e1
    cases e1
  · exact n z
theorem cut_less {M M' : List Addr} {H : Hp} (h : ∀ a ∈ M', a ∈ M) : Sub (cut M H) (cut M' H) := fun a o e => by
  obtain ⟨e1, n⟩ := cut_at e
  exact cut_of e1 fun z => n (h a z)
end Dt

set_option Elab.async false
set_option linter.all false
set_option maxRecDepth 100000
set_option maxHeartbeats 4000000
/-! what a reading comes to, in data -/
namespace Dt
open PySem L2
/-- a die: a list of three ints, which its rolls change -/
def Dice (H : Hp) (a : Addr) : Prop := ∃ x y w : Int, H a = some (.lst [.int x, .int y, .int w])
/-- neither a table of code objects nor told by what is true of it -/
def plO : HO → Bool
  | .tbl _ | .ext _ => false
  | _ => true
def Pl (H : Hp) (p : Addr) : Prop := ∀ o, H p = some o → plO o = true
theorem Pl.none {H : Hp} {p : Addr} (h : H p = none) : Pl H p := fun o e => by rw [h] at e; cases e
theorem Pl.at {H : Hp} {p : Addr} {o : HO} (h : H p = some o) (q : plO o = true) : Pl H p := fun o' e => by rw [h] at e; cases e; exact q
theorem tab_upd {H : Hp} {p b : Addr} {o : HO} {q : Str} (t : LamX.TabS H b q) (n : Pl H p) : LamX.TabS (upd H p o) b q := by
  obtain ⟨ps, h1, h2, h3⟩ := t
  have nb : b ≠ p := fun z => by
    subst z
    cases n _ h1
  refine ⟨ps, by rw [upd_ne nb]; exact h1, h2, fun pos cv hc => ?_⟩
  obtain ⟨c, e1, e2⟩ := h3 pos cv hc
  have nc : c ≠ p := fun z => by
    subst z
    cases n _ e2
  exact ⟨c, e1, by rw [upd_ne nc]; exact e2⟩
/-- what a def may change: dice; tables of code objects, with the names of these -/
structure Zt where
  dl : List Addr
  tb : List (Addr × Str)
instance : Membership Addr Zt := ⟨fun z a => a ∈ z.dl ∨ a ∈ z.tb.map (·.1)⟩
instance (z : Zt) (a : Addr) : Decidable (a ∈ z) := inferInstanceAs (Decidable (a ∈ z.dl ∨ a ∈ z.tb.map (·.1)))
/-- all stays but the dice and the tables of z, which stay such -/
structure Le (z : Zt) (H H' : Hp) : Prop where
  keep : ∀ a o, a ∉ z → H a = some o → H' a = some o
  dice : ∀ a ∈ z.dl, Dice H a → Dice H' a
  tab : ∀ p ∈ z.tb, LamX.TabS H p.1 p.2 → LamX.TabS H' p.1 p.2
/-- .. where they are such -/
structure Zok (z : Zt) (H : Hp) : Prop where
  dice : ∀ a ∈ z.dl, Dice H a
  tab : ∀ p ∈ z.tb, LamX.TabS H p.1 p.2
section
variable {z z' : Zt} {H H' : Hp} {a : Addr}
theorem Zok.cases (k : Zok z H) (m : a ∈ z) : (∃ x y w : Int, H a = some (.lst [.int x, .int y, .int w])) ∨ ∃ ps, H a = some (.tbl ps) := by
  rcases m with m | m
  · exact .inl (k.dice a m)
  · obtain ⟨p, hp, rfl⟩ := List.mem_map.mp m
    obtain ⟨ps, h, _⟩ := k.tab p hp
    exact .inr ⟨ps, h⟩
theorem Zok.ext (k : Zok z H) (m : a ∈ z) (f : _) : H a ≠ some (.ext f) := fun e => by
  rcases k.cases m with ⟨x, y, w, h⟩ | ⟨ps, h⟩
  · rw [h] at e
    cases e
  · rw [h] at e
    cases e
theorem Zok.num (k : Zok z H) (m : a ∈ z) : H a ≠ none := fun e => by
  rcases k.cases m with ⟨x, y, w, h⟩ | ⟨ps, h⟩
  · rw [h] at e
    cases e
  · rw [h] at e
    cases e
theorem Le.zok (h : Le z H H') (k : Zok z H) : Zok z H' := ⟨fun a m => h.dice a m (k.dice a m), fun p m => h.tab p m (k.tab p m)⟩
theorem Le.rfl' : Le z H H := ⟨fun _ _ _ h => h, fun _ _ h => h, fun _ _ h => h⟩
theorem Le.tr {H1 H2 : Hp} (a : Le z H H1) (b : Le z H1 H2) : Le z H H2 := ⟨fun x o n h => b.keep x o n (a.keep x o n h), fun x m h => b.dice x m (a.dice x m h), fun x m h => b.tab x m (a.tab x m h)⟩
theorem Le.of (s : Sub H H') : Le z H H' := ⟨fun a o _ h => s a o h, fun _ _ ⟨x, y, w, h⟩ => ⟨x, y, w, s _ _ h⟩, fun _ _ t => t.ext s⟩
theorem Le.up (h : Le z H H') (m : ∀ a ∈ z.dl, a ∈ z'.dl) (t : z.tb = [] ∨ z.tb = z'.tb) (k : Zok z H) : Le z' H H' := by
  refine ⟨fun a o n e => h.keep a o (fun q => n ?_) e, fun a _ d => ?_, fun p hp d => ?_⟩
  · rcases q with q | q
    · exact .inl (m a q)
    · rcases t with t | t
      · rw [t] at q
        cases q
      · rw [t] at q
        exact .inr q
  · by_cases q : a ∈ z.dl
    · exact h.dice a q d
    · obtain ⟨x, y, w, e⟩ := d
      refine ⟨x, y, w, h.keep _ _ (fun mz => ?_) e⟩
      rcases mz with mz | mz
      · exact q mz
      · obtain ⟨p, hp, rfl⟩ := List.mem_map.mp mz
        obtain ⟨ps, h2, _⟩ := k.tab p hp
        rw [h2] at e
        cases e
  · rcases t with t | t
    · have nz : ∀ a, a ∈ z → a ∈ z.dl := fun a q => by
        rcases q with q | q
        · exact q
        · rw [t] at q
          cases q
      obtain ⟨ps, h1, h2, h3⟩ := d
      refine ⟨ps, h.keep _ _ (fun q => ?_) h1, h2, fun pos cv hc => ?_⟩
      · obtain ⟨x, y, w, e⟩ := k.dice _ (nz _ q)
        rw [e] at h1
        cases h1
      · obtain ⟨c, e1, e2⟩ := h3 pos cv hc
        exact ⟨c, e1, h.keep c _ (fun mz => k.ext mz _ e2) e2⟩
    · exact h.tab p (by rw [t]; exact hp) d
theorem Sub.new {p : Addr} {o : HO} (h : H p = none) : Sub H (upd H p o) := fun a u e => by
  rw [upd_ne (ne_of_none e h)]
  exact e
theorem Le.new {p : Addr} {o : HO} (h : H p = none) : Le z H (upd H p o) := .of (.new h)
theorem Le.cut {M : List Addr} (h : Le z H H') (m : ∀ a ∈ z, a ∈ M) : Sub (cut M H) (cut M H') := fun a o e => by
  obtain ⟨e1, n⟩ := cut_at e
  exact cut_of (h.keep a o (fun q => n (m a q)) e1) n
/-- an object that the first heap does not know may be changed -/
theorem Le.mut {p : Addr} {o : HO} (h : Le z H H') (n : H p = none) (pl : Pl H' p) : Le z H (upd H' p o) :=
  ⟨fun a u m e => by
    rw [upd_ne (ne_of_none e n)]
    exact h.keep a u m e, fun a m d => by
    have d' := h.dice a m d
    obtain ⟨x, y, w, e⟩ := d
    obtain ⟨x', y', w', e'⟩ := d'
    exact ⟨x', y', w', by rw [upd_ne (ne_of_none e n)]; exact e'⟩, fun p m t => tab_upd (h.tab p m t) pl⟩
end
def NT (o : HO) : Prop := ∀ xs, o ≠ .tup xs
theorem Zok.nt {z : Zt} {H : Hp} {a : Addr} (k : Zok z H) (m : a ∈ z) : ∃ o, H a = some o ∧ NT o := by
  rcases k.cases m with ⟨x, y, w, h⟩ | ⟨ps, h⟩
  · exact ⟨_, h, fun xs z => by cases z⟩
  · exact ⟨_, h, fun xs z => by cases z⟩
/-- a def's call: its dice, the caller's objects that may not be leaned on, the heap at the entry -/
structure Fx where
  z : Zt
  B : List Addr
  H0 : Hp
  zB : ∀ a ∈ z, a ∈ B
  bk : ∀ a ∈ B, ∃ o, H0 a = some o ∧ NT o
  dz : Zok z H0
/-- a die of the call -/
def Fx.Di (c : Fx) (a : Addr) : Prop := a ∈ c.z.dl
structure Ok (c : Fx) (M : List Addr) (H : Hp) : Prop where
  le : Le c.z c.H0 H
  bM : ∀ a ∈ c.B, a ∈ M
  kn : ∀ a ∈ M, ∃ o, H a = some o ∧ NT o
section
variable {c : Fx} {M : List Addr} {H H' : Hp}
theorem Ok.zM (h : Ok c M H) : ∀ a ∈ c.z, a ∈ M := fun a m => h.bM a (c.zB a m)
theorem Ok.zok (h : Ok c M H) : Zok c.z H := h.le.zok c.dz
theorem Ok.up (h : Ok c M H) (l : Le c.z H H') : Ok c M H' := ⟨h.le.tr l, h.bM, fun a m => by
  obtain ⟨o, e, n⟩ := h.kn a m
  by_cases q : a ∈ c.z
  · exact (l.zok h.zok).nt q
  · exact ⟨o, l.keep a o q e, n⟩⟩
theorem Ok.cut (h : Ok c M H) (l : Le c.z H H') : Sub (cut M H) (cut M H') := l.cut h.zM
theorem Ok.new (h : Ok c M H) {p : Addr} (n : H p = none) : p ∉ M := fun m => by
  obtain ⟨o, e, _⟩ := h.kn p m
  rw [n] at e
  cases e
theorem Ok.tup (h : Ok c M H) {p : Addr} {xs : List V} (n : H p = some (.tup xs)) : p ∉ M := fun m => by
  obtain ⟨o, e, q⟩ := h.kn p m
  rw [n] at e
  cases e
  exact q xs rfl
theorem Ok.dice (h : Ok c M H) {a : Addr} (d : c.Di a) : Dice H a := h.zok.dice a d
theorem Ok.tabs (h : Ok c M H) : LamX.Tabs c.z.tb H := fun p m => h.zok.tab p m
/-- a callee's -/
def Ok.fx (h : Ok c M H) (z : Zt) (hz : ∀ a ∈ z, a ∈ c.z) (k : Zok z H) : Fx := ⟨z, M, H, fun a m => h.zM a (hz a m), h.kn, k⟩
theorem Fx.ok (c : Fx) : Ok c c.B c.H0 := ⟨.rfl', fun _ m => m, c.bk⟩
/-- a new object, tracked -/
theorem Ok.at_new (h : Ok c M H) {p : Addr} {o : HO} (n : H p = none) : Dt.cut M (upd H p o) p = some o := cut_of upd_same (h.new n)
theorem Ok.cutNew (h : Ok c M H) {p : Addr} {o : HO} (n : H p = none) : Sub (Dt.cut M H) (Dt.cut M (upd H p o)) := (Le.new (z := c.z) n).cut h.zM
end
/-- what a slot holds: nothing that is told; a value; an own list, dict, instance that only this slot knows -/
inductive Sl where
  | no
  | val (d : D)
  | lst (es : List D)
  | dic (ks : List (List L2.Key)) (es : List D)
  | obj (x C : Addr) (ns : List Str) (es : List D)
  /-- a dict with tuple keys that is locked -/
  | lck (ks : List (List L2.Key)) (es : List D)
def Sl.own : Sl → Bool
  | .lst _ | .dic _ _ | .obj _ _ _ _ => true
  | _ => false
def SlOk (K : PySem.W.Frag) (M : List Addr) (H H0 : Hp) (p : Addr) (o : Option (Option V)) : Sl → Prop
  | .no => True
  | .val d => ∃ v, o = some (some v) ∧ Is K (cut M H) v d
  | .lst es => o = some (some (.ref p)) ∧ p ∈ M ∧ H0 p = none ∧ ∃ vs, H p = some (.lst vs) ∧ IsAll K (cut M H) vs es
  | .dic ks es => o = some (some (.ref p)) ∧ p ∈ M ∧ H0 p = none ∧ ∃ vs, H p = some (.dT (ks.zip vs)) ∧ ks.length = vs.length ∧ ks.Nodup ∧ IsAll K (cut M H) vs es
  | .obj x C ns es => o = some (some (.ref p)) ∧ p ∈ M ∧ H0 p = none ∧ p = x ∧ ∃ dx vs, H p = some (.ins C dx (ns.zip vs)) ∧ ns.length = vs.length ∧ IsAll K (cut M H) vs es
  | .lck ks es => ∃ a od vs, o = some (some (.ref a)) ∧ cut M H a = some (.frz od (.dT (ks.zip vs))) ∧ ks.length = vs.length ∧ ks.Nodup ∧ IsAll K (cut M H) vs es
structure Env (K : PySem.W.Frag) (c : Fx) (M : List Addr) (ow : Nat → Addr) (σ : L2.St) (H : Hp) (ds : List Sl) : Prop where
  ok : Ok c M H
  len : σ.length = ds.length
  at_ : ∀ (i : Nat) (s : Sl), ds[i]? = some s → SlOk K M H c.H0 (ow i) σ[i]? s
  ap : ∀ (i j : Nat) (s t : Sl), ds[i]? = some s → ds[j]? = some t → s.own = true → t.own = true → ow i = ow j → i = j
section
variable {K : PySem.W.Frag} {c : Fx} {M M' : List Addr} {ow ow' : Nat → Addr} {σ : L2.St} {H H' : Hp} {ds : List Sl}
theorem own_at {p : Addr} {o : Option (Option V)} {s : Sl} (h : SlOk K M H c.H0 p o s) (w : s.own = true) : o = some (some (.ref p)) ∧ p ∈ M ∧ c.H0 p = none := by
  cases s with
  | no => cases w
  | val d => cases w
  | lst es => exact ⟨h.1, h.2.1, h.2.2.1⟩
  | dic ks es => exact ⟨h.1, h.2.1, h.2.2.1⟩
  | obj x C ns es => exact ⟨h.1, h.2.1, h.2.2.1⟩
  | lck ks es => cases w
theorem own_pl {p : Addr} {o : Option (Option V)} {s : Sl} (h : SlOk K M H c.H0 p o s) (w : s.own = true) : Pl H p := by
  cases s with
  | no => cases w
  | val d => cases w
  | lst es => exact let ⟨_, _, _, _, e, _⟩ := h; .at e rfl
  | dic ks es => exact let ⟨_, _, _, _, e, _⟩ := h; .at e rfl
  | obj x C ns es => exact let ⟨_, _, _, _, _, _, e, _⟩ := h; .at e rfl
  | lck ks es => cases w
/-- an own object is none of the caller's -/
theorem own_B {p : Addr} (n : c.H0 p = none) : p ∉ c.B := fun m => by
  obtain ⟨o, e, _⟩ := c.bk p m
  rw [n] at e
  cases e
theorem own_z {p : Addr} (n : c.H0 p = none) : p ∉ c.z := fun m => own_B n (c.zB p m)
/-- a slot's description, while its object stays and the parts stay -/
theorem SlOk.stay {H2 : Hp} {M2 : List Addr} {p : Addr} {o : Option (Option V)} {s : Sl} (h : SlOk K M H c.H0 p o s) (k : s.own = true → H2 p = H p ∧ p ∈ M2) (m : Sub (cut M H) (cut M2 H2)) : SlOk K M2 H2 c.H0 p o s := by
  cases s with
  | no => trivial
  | val d => exact let ⟨v, e, i⟩ := h; ⟨v, e, i.up m⟩
  | lst es => exact let ⟨e1, e2, e3, vs, e4, i⟩ := h; ⟨e1, (k rfl).2, e3, vs, (k rfl).1.trans e4, i.up m⟩
  | dic ks es => exact let ⟨e1, e2, e3, vs, e4, e5, e6, i⟩ := h; ⟨e1, (k rfl).2, e3, vs, (k rfl).1.trans e4, e5, e6, i.up m⟩
  | obj x C ns es => exact let ⟨e1, e2, e3, ex, dx, vs, e4, e5, i⟩ := h; ⟨e1, (k rfl).2, e3, ex, dx, vs, (k rfl).1.trans e4, e5, i.up m⟩
  | lck ks es => exact let ⟨a, od, vs, e1, e2, e3, e4, i⟩ := h; ⟨a, od, vs, e1, m _ _ e2, e3, e4, i.up m⟩
theorem Env.up (E : Env K c M ow σ H ds) (h : Le c.z H H') : Env K c M ow σ H' ds :=
  ⟨E.ok.up h, E.len, fun i s e => (E.at_ i s e).stay (fun w => by
    obtain ⟨_, m, n⟩ := own_at (E.at_ i s e) w
    obtain ⟨o, eo, _⟩ := E.ok.kn _ m
    exact ⟨(h.keep _ _ (own_z n) eo).trans eo.symm, m⟩) (E.ok.cut h), E.ap⟩
/-- one slot gets another value -/
theorem Env.put (E : Env K c M ow σ H ds) (i : Nat) {v : Option V} {s : Sl} (h : SlOk K M H c.H0 (ow i) (some v) s) (n : s.own = true → ∀ j t, j ≠ i → ds[j]? = some t → t.own = true → ow j ≠ ow i) : Env K c M ow (σ.set i v) H (ds.set i s) := by
  refine ⟨E.ok, by rw [List.length_set, List.length_set, E.len], fun j t q => ?_, fun j k t u q1 q2 w1 w2 e => ?_⟩
  · by_cases hj : i = j
    · subst hj
      have hl : i < ds.length := by
        have := (List.getElem?_eq_some_iff.mp q).1
        rw [List.length_set] at this
        exact this
      rw [List.getElem?_set_self hl] at q
      cases q
      rw [List.getElem?_set_self (by rw [E.len]; exact hl)]
      exact h
    · rw [List.getElem?_set_ne hj] at q
      rw [List.getElem?_set_ne hj]
      exact E.at_ j t q
  · by_cases hj : i = j
    · by_cases hk : i = k
      · exact hj.symm.trans hk
      · subst hj
        have hl : i < ds.length := by
          have := (List.getElem?_eq_some_iff.mp q1).1
          rw [List.length_set] at this
          exact this
        rw [List.getElem?_set_self hl] at q1
        cases q1
        rw [List.getElem?_set_ne hk] at q2
        exact absurd e.symm (n w1 k u (Ne.symm hk) q2 w2)
    · rw [List.getElem?_set_ne hj] at q1
      by_cases hk : i = k
      · subst hk
        have hl : i < ds.length := by
          have := (List.getElem?_eq_some_iff.mp q2).1
          rw [List.length_set] at this
          exact this
        rw [List.getElem?_set_self hl] at q2
        cases q2
        exact absurd e (n w2 j t (Ne.symm hj) q1 w1)
      · rw [List.getElem?_set_ne hk] at q2
        exact E.ap j k t u q1 q2 w1 w2 e
theorem Env.set (E : Env K c M ow σ H ds) (i : Nat) {v : V} {d : D} (h : Is K (cut M H) v d) : Env K c M ow (σ.set i (some v)) H (ds.set i (.val d)) := E.put i ⟨v, rfl, h⟩ fun z => nomatch z
theorem Env.unset (E : Env K c M ow σ H ds) (i : Nat) (v : Option V) : Env K c M ow (σ.set i v) H (ds.set i .no) := E.put i trivial fun z => nomatch z
theorem Env.forget (E : Env K c M ow σ H ds) (i : Nat) : Env K c M ow σ H (ds.set i .no) := by
  refine ⟨E.ok, by rw [List.length_set, E.len], fun j t q => ?_, fun j k t u q1 q2 w1 w2 e => ?_⟩
  · by_cases hj : i = j
    · subst hj
      have hl : i < ds.length := by
        have := (List.getElem?_eq_some_iff.mp q).1
        rw [List.length_set] at this
        exact this
      rw [List.getElem?_set_self hl] at q
      cases q
      trivial
    · rw [List.getElem?_set_ne hj] at q
      exact E.at_ j t q
  · have hj : i ≠ j := fun z => by
      subst z
      have hl : i < ds.length := by
        have := (List.getElem?_eq_some_iff.mp q1).1
        rw [List.length_set] at this
        exact this
      rw [List.getElem?_set_self hl] at q1
      cases q1
      cases w1
    have hk : i ≠ k := fun z => by
      subst z
      have hl : i < ds.length := by
        have := (List.getElem?_eq_some_iff.mp q2).1
        rw [List.length_set] at this
        exact this
      rw [List.getElem?_set_self hl] at q2
      cases q2
      cases w2
    rw [List.getElem?_set_ne hj] at q1
    rw [List.getElem?_set_ne hk] at q2
    exact E.ap j k t u q1 q2 w1 w2 e
def wipeD (ds : List Sl) : List Nat → List Sl
  | [] => ds
  | v :: vs => (wipeD ds vs).set v .no
theorem Env.wipe (E : Env K c M ow σ H ds) : ∀ vs : List Nat, Env K c M ow (L2.wipe σ vs) H (wipeD ds vs)
  | [] => E
  | v :: vs => (Env.wipe E vs).unset v none
/-- a slot of a value, read -/
theorem Env.val (E : Env K c M ow σ H ds) {i : Nat} {d : D} (h : ds[i]? = some (.val d)) : ∃ v, σ[i]? = some (some v) ∧ Is K (cut M H) v d := E.at_ i _ h
theorem Ok.none0 (h : Ok c M H) {p : Addr} (n : H p = none) : c.H0 p = none := by
  cases e : c.H0 p with
  | none => rfl
  | some o =>
    exfalso
    by_cases q : p ∈ c.z
    · exact h.zok.num q n
    · rw [h.le.keep p o q e] at n
      cases n
theorem Ok.subNew (h : Ok c M H) {p : Addr} (l : Le c.z H H') (n : H p = none) : Sub (Dt.cut M H) (Dt.cut (p :: M) H') := fun a u e => by
  obtain ⟨e1, m⟩ := cut_at e
  refine cut_of (l.keep a u (fun q => m (h.zM a q)) e1) fun z => ?_
  rcases List.mem_cons.mp z with rfl | z
  · rw [n] at e1
    cases e1
  · exact m z
/-- more that may not be leaned on: a new object -/
theorem Env.addM (E : Env K c M ow σ H ds) {p : Addr} {o : HO} (l : Le c.z H H') (hn : H p = none) (ho : H' p = some o) (no : NT o) : Env K c (p :: M) ow σ H' ds := by
  refine ⟨⟨E.ok.le.tr l, fun a m => List.mem_cons_of_mem _ (E.ok.bM a m), fun a m => ?_⟩, E.len, fun j t q => ?_, E.ap⟩
  · rcases List.mem_cons.mp m with rfl | m
    · exact ⟨o, ho, no⟩
    · exact (E.ok.up l).kn a m
  · refine (E.at_ j t q).stay (fun w => ?_) (E.ok.subNew l hn)
    obtain ⟨_, m, n⟩ := own_at (E.at_ j t q) w
    obtain ⟨u, eu, _⟩ := E.ok.kn _ m
    exact ⟨(l.keep _ _ (own_z n) eu).trans eu.symm, List.mem_cons_of_mem _ m⟩
theorem Env.notOwn (E : Env K c M ow σ H ds) {p : Addr} (hn : p ∉ M) : ∀ j t, ds[j]? = some t → t.own = true → ow j ≠ p := fun j t e w z => by
  obtain ⟨_, m, _⟩ := own_at (E.at_ j t e) w
  exact hn (z ▸ m)
/-- the object at p, which no slot knows, gets slot i -/
theorem Env.take (E : Env K c M ow σ H ds) {i : Nat} {p : Addr} {s : Sl} (n0 : ∀ j t, ds[j]? = some t → t.own = true → ow j ≠ p) (hs : SlOk K M H c.H0 p (some (some (.ref p))) s) :
    Env K c M (fun j => if j = i then p else ow j) (σ.set i (some (.ref p))) H (ds.set i s) := by
  have E2 : Env K c M (fun j => if j = i then p else ow j) σ H (ds.set i .no) := by
    refine ⟨E.ok, by rw [List.length_set]; exact E.len, fun j t q => ?_, fun j k t u q1 q2 w1 w2 e => ?_⟩
    · by_cases hj : i = j
      · subst hj
        have hl : i < ds.length := by
          have := (List.getElem?_eq_some_iff.mp q).1
          rw [List.length_set] at this
          exact this
        rw [List.getElem?_set_self hl] at q
        cases q
        trivial
      · rw [List.getElem?_set_ne hj] at q
        show SlOk K M H c.H0 (if j = i then p else ow j) σ[j]? t
        rw [if_neg (Ne.symm hj)]
        exact E.at_ j t q
    · have F := E.forget i
      have hj : i ≠ j := fun z => by
        subst z
        have hl : i < ds.length := by
          have := (List.getElem?_eq_some_iff.mp q1).1
          rw [List.length_set] at this
          exact this
        rw [List.getElem?_set_self hl] at q1
        cases q1
        cases w1
      have hk : i ≠ k := fun z => by
        subst z
        have hl : i < ds.length := by
          have := (List.getElem?_eq_some_iff.mp q2).1
          rw [List.length_set] at this
          exact this
        rw [List.getElem?_set_self hl] at q2
        cases q2
        cases w2
      have e : (if j = i then p else ow j) = (if k = i then p else ow k) := e
      rw [if_neg (Ne.symm hj), if_neg (Ne.symm hk)] at e
      exact F.ap j k t u q1 q2 w1 w2 e
  have h := E2.put i (v := some (.ref p)) (s := s) (by show SlOk K M H c.H0 (if i = i then p else ow i) _ s; rw [if_pos rfl]; exact hs) (fun w j t hj q wt z => by
    rw [List.getElem?_set_ne (Ne.symm hj)] at q
    have z : (if j = i then p else ow j) = (if i = i then p else ow i) := z
    rw [if_neg hj, if_pos rfl] at z
    exact n0 j t q wt z)
  rw [List.set_set] at h
  exact h
/-- a new object, held by slot i -/
theorem Env.more (E : Env K c M ow σ H ds) {i : Nat} {p : Addr} {o : HO} {s : Sl} (l : Le c.z H H') (hn : H p = none) (ho : H' p = some o) (no : NT o) (hs : SlOk K (p :: M) H' c.H0 p (some (some (.ref p))) s) :
    Env K c (p :: M) (fun j => if j = i then p else ow j) (σ.set i (some (.ref p))) H' (ds.set i s) := (E.addM l hn ho no).take (E.notOwn (E.ok.new hn)) hs
/-- what may not be leaned on is changed: the object of slot i -/
theorem Env.write (E : Env K c M ow σ H ds) {i : Nat} {o : HO} {s s' : Sl} (h : ds[i]? = some s) (w : s.own = true) (no : NT o) (hs : SlOk K M (upd H (ow i) o) c.H0 (ow i) (some (some (.ref (ow i)))) s') : Env K c M ow σ (upd H (ow i) o) (ds.set i s') := by
  obtain ⟨hv, m, n⟩ := own_at (E.at_ i s h) w
  have hl : i < ds.length := (List.getElem?_eq_some_iff.mp h).1
  have ok' : Ok c M (upd H (ow i) o) := ⟨E.ok.le.mut n (own_pl (E.at_ i s h) w), E.ok.bM, fun a ma => by
    by_cases q : a = ow i
    · subst q
      exact ⟨o, upd_same, no⟩
    · obtain ⟨u, e, nt⟩ := E.ok.kn a ma
      exact ⟨u, by rw [upd_ne q]; exact e, nt⟩⟩
  have E2 : Env K c M ow σ (upd H (ow i) o) (ds.set i .no) := by
    refine ⟨ok', by rw [List.length_set]; exact E.len, fun j t q => ?_, (E.forget i).ap⟩
    by_cases hj : i = j
    · subst hj
      rw [List.getElem?_set_self hl] at q
      cases q
      trivial
    · rw [List.getElem?_set_ne hj] at q
      refine (E.at_ j t q).stay (fun wt => ?_) (by rw [cut_upd m]; exact .rfl')
      obtain ⟨_, mt, _⟩ := own_at (E.at_ j t q) wt
      exact ⟨upd_ne fun z => hj (E.ap i j s t h q w wt z.symm), mt⟩
  have h2 := E2.put i (v := some (.ref (ow i))) (s := s') hs (fun w' j t hj q wt z => by
    rw [List.getElem?_set_ne (Ne.symm hj)] at q
    exact hj (E.ap j i t s q h wt w z))
  rw [List.set_set] at h2
  have e : σ.set i (some (.ref (ow i))) = σ := by
    refine List.ext_getElem? fun j => ?_
    by_cases hj : i = j
    · subst hj
      rw [List.getElem?_set_self (by rw [E.len]; exact hl), hv]
    · rw [List.getElem?_set_ne hj]
  rw [e] at h2
  exact h2
/-- an own object becomes a value -/
def Sl.frozen : Sl → Sl
  | .lst es => .val (.lst es)
  | .dic ks es => .val (.dic ks es)
  | .obj _ C ns es => .val (.obj C ns es)
  | s => s
theorem SlOk.froze {p : Addr} {o : Option (Option V)} {s : Sl} (h : SlOk K M H c.H0 p o s) (w : s.own = true) : SlOk K (M.filter (· ≠ p)) H c.H0 p o s.frozen := by
  have sb : Sub (cut M H) (cut (M.filter (· ≠ p)) H) := cut_less fun a m => (List.mem_filter.mp m).1
  have np : p ∉ M.filter (· ≠ p) := fun m => by simpa using (List.mem_filter.mp m).2
  cases s with
  | no => cases w
  | val d => cases w
  | lst es => exact let ⟨e1, _, _, vs, e4, i⟩ := h; ⟨_, e1, .lst (cut_of e4 np) (i.up sb)⟩
  | dic ks es => exact let ⟨e1, _, _, vs, e4, e5, e6, i⟩ := h; ⟨_, e1, .dic (.inl (cut_of e4 np)) e5 e6 (i.up sb)⟩
  | obj x C ns es => exact let ⟨e1, _, _, _, dx, vs, e4, e5, i⟩ := h; ⟨_, e1, .obj (cut_of e4 np) e5 (i.up sb)⟩
  | lck ks es => cases w
theorem Env.freeze (E : Env K c M ow σ H ds) {i : Nat} {s : Sl} (h : ds[i]? = some s) (w : s.own = true) : Env K c (M.filter (· ≠ ow i)) ow σ H (ds.set i s.frozen) := by
  obtain ⟨hv, m, n⟩ := own_at (E.at_ i s h) w
  have hl : i < ds.length := (List.getElem?_eq_some_iff.mp h).1
  have fo : s.frozen.own = false := by
    cases s with
    | no => cases w
    | val d => cases w
    | lst es => rfl
    | dic ks es => rfl
    | obj x C ns es => rfl
    | lck ks es => cases w
  have ok' : Ok c (M.filter (· ≠ ow i)) H := ⟨E.ok.le, fun a ma => List.mem_filter.mpr ⟨E.ok.bM a ma, decide_eq_true fun z => own_B n (by rw [← z]; exact ma)⟩, fun a ma => E.ok.kn a (List.mem_filter.mp ma).1⟩
  have sb : Sub (cut M H) (cut (M.filter (· ≠ ow i)) H) := cut_less fun a m => (List.mem_filter.mp m).1
  refine ⟨ok', by rw [List.length_set]; exact E.len, fun j t q => ?_, fun j k t u q1 q2 w1 w2 e => ?_⟩
  · by_cases hj : i = j
    · subst hj
      rw [List.getElem?_set_self hl] at q
      cases q
      exact (E.at_ i s h).froze w
    · rw [List.getElem?_set_ne hj] at q
      refine (E.at_ j t q).stay (fun wt => ?_) sb
      obtain ⟨_, mt, _⟩ := own_at (E.at_ j t q) wt
      exact ⟨rfl, List.mem_filter.mpr ⟨mt, decide_eq_true fun z => hj (E.ap i j s t h q w wt z.symm)⟩⟩
  · have hj : i ≠ j := fun z => by
      subst z
      rw [List.getElem?_set_self hl] at q1
      cases q1
      rw [fo] at w1
      cases w1
    have hk : i ≠ k := fun z => by
      subst z
      rw [List.getElem?_set_self hl] at q2
      cases q2
      rw [fo] at w2
      cases w2
    rw [List.getElem?_set_ne hj] at q1
    rw [List.getElem?_set_ne hk] at q2
    exact E.ap j k t u q1 q2 w1 w2 e
end
/-- what a statement keeps: all that may be leaned on -/
structure Kp (M : List Addr) (H : Hp) (M' : List Addr) (H' : Hp) : Prop where
  keep : ∀ a o, a ∉ M → H a = some o → H' a = some o
  less : ∀ a ∈ M', a ∈ M ∨ H a = none
section
variable {M M1 M2 : List Addr} {H H1 H2 : Hp}
theorem Kp.rfl' : Kp M H M H := ⟨fun _ _ _ h => h, fun _ m => .inl m⟩
theorem Kp.tr (a : Kp M H M1 H1) (b : Kp M1 H1 M2 H2) : Kp M H M2 H2 :=
  ⟨fun x o n e => b.keep x o (fun m => (a.less x m).elim n fun z => by rw [e] at z; cases z) (a.keep x o n e), fun x m => by
    rcases b.less x m with m | z
    · exact a.less x m
    · by_cases n : x ∈ M
      · exact .inl n
      · cases e : H x with
        | none => exact .inr rfl
        | some o =>
          rw [a.keep x o n e] at z
          cases z⟩
theorem Kp.of {c : Fx} (h : Le c.z H H1) (ok : Ok c M H) : Kp M H M H1 := ⟨fun a o n e => h.keep a o (fun z => n (ok.zM a z)) e, fun _ m => .inl m⟩
/-- what was told stays -/
theorem Kp.is (h : Kp M H M1 H1) : Sub (cut M H) (cut M1 H1) := fun a o e => by
  obtain ⟨e1, n⟩ := cut_at e
  exact cut_of (h.keep a o n e1) fun m => (h.less a m).elim n fun z => by rw [e1] at z; cases z
end
end Dt

set_option Elab.async false
set_option linter.all false
set_option maxRecDepth 100000
set_option maxHeartbeats 4000000
/-! rules for expressions, in data -/
namespace Dt
open PySem L2
section
variable {K : PySem.W.Frag} {c : Fx} {ds : List Sl}
def EvP (K : PySem.W.Frag) (c : Fx) (te : TE) (ds : List Sl) (P : D → Prop) : Prop :=
  ∀ M ow σ H, Env K c M ow σ H ds → ∀ Q : VK, (∀ v d H', P d → Le c.z H H' → Is K (cut M H') v d → Q v H') → te σ H Q
def EvT (K : PySem.W.Frag) (c : Fx) (tt : TT) (ds : List Sl) (P : Bool → Prop) : Prop :=
  ∀ M ow σ H, Env K c M ow σ H ds → ∀ Q : Bool → Hp → Prop, (∀ b H', P b → Le c.z H H' → Q b H') → tt σ H Q
def EvA (K : PySem.W.Frag) (c : Fx) (ta : TA) (ds : List Sl) (P : List D → Prop) : Prop :=
  ∀ M ow σ H, Env K c M ow σ H ds → ∀ Q : List V → Hp → Prop, (∀ vs es H', P es → Le c.z H H' → IsAll K (cut M H') vs es → Q vs H') → ta σ H Q
/-- the judgements: the weakest readings that answer so -/
def tD (K : PySem.W.Frag) (c : Fx) (ds : List Sl) (P : D → Prop) : TE := fun σ H Q => ∃ M ow, Env K c M ow σ H ds ∧ ∀ v d H', P d → Le c.z H H' → Is K (cut M H') v d → Q v H'
def tDT (K : PySem.W.Frag) (c : Fx) (ds : List Sl) (P : Bool → Prop) : TT := fun σ H Q => ∃ M ow, Env K c M ow σ H ds ∧ ∀ b H', P b → Le c.z H H' → Q b H'
def tDA (K : PySem.W.Frag) (c : Fx) (ds : List Sl) (P : List D → Prop) : TA := fun σ H Q => ∃ M ow, Env K c M ow σ H ds ∧ ∀ vs es H', P es → Le c.z H H' → IsAll K (cut M H') vs es → Q vs H'
end
def DE (X : Cx) (c : Fx) (ds : List Sl) (e : Expr) (P : D → Prop) : Prop := PE X e (tD X.K c ds P)
def DT (X : Cx) (c : Fx) (ds : List Sl) (e : Expr) (P : Bool → Prop) : Prop := PT X e (tDT X.K c ds P)
def DA (X : Cx) (c : Fx) (ds : List Sl) (es : List Expr) (P : List D → Prop) : Prop := PA X es (tDA X.K c ds P)
abbrev DV (X : Cx) (c : Fx) (ds : List Sl) (e : Expr) (d : D) : Prop := DE X c ds e (· = d)
abbrev DB (X : Cx) (c : Fx) (ds : List Sl) (e : Expr) (b : Bool) : Prop := DT X c ds e (· = b)
abbrev DL (X : Cx) (c : Fx) (ds : List Sl) (es : List Expr) (as : List D) : Prop := DA X c ds es (· = as)
/-- operations on values, in data -/
def OpD (X : Cx) (f : Value → Value → Sem Value) (c : Fx) (a b : D) (P : D → Prop) : Prop :=
  OpR X f fun x y H Q => ∃ M, Ok c M H ∧ Is X.K (cut M H) x a ∧ Is X.K (cut M H) y b ∧ ∀ v d H', P d → Le c.z H H' → Is X.K (cut M H') v d → Q v H'
def UnD (X : Cx) (f : Value → Sem Value) (c : Fx) (a : D) (P : D → Prop) : Prop :=
  UnR X f fun x H Q => ∃ M, Ok c M H ∧ Is X.K (cut M H) x a ∧ ∀ v d H', P d → Le c.z H H' → Is X.K (cut M H') v d → Q v H'
def CallD (X : Cx) (f : Value) (c : Fx) (as : List D) (P : D → Prop) : Prop :=
  CallR X f fun xs H Q => ∃ M, Ok c M H ∧ IsAll X.K (cut M H) xs as ∧ ∀ v d H', P d → Le c.z H H' → Is X.K (cut M H') v d → Q v H'
def IxD (X : Cx) (c : Fx) (a b : D) (P : D → Prop) : Prop :=
  IxR X fun x y H Q => ∃ M, Ok c M H ∧ Is X.K (cut M H) x a ∧ Is X.K (cut M H) y b ∧ ∀ v d H', P d → Le c.z H H' → Is X.K (cut M H') v d → Q v H'
def MtD (X : Cx) (id : String) (c : Fx) (a : D) (as : List D) (P : D → Prop) : Prop :=
  MtR X id fun x xs H Q => ∃ M, Ok c M H ∧ Is X.K (cut M H) x a ∧ IsAll X.K (cut M H) xs as ∧ ∀ v d H', P d → Le c.z H H' → Is X.K (cut M H') v d → Q v H'
def SlD (X : Cx) (c : Fx) (a : D) (lo hi : Option Int) (P : D → Prop) : Prop :=
  SlR X fun x l u H Q => ∃ M, Ok c M H ∧ Is X.K (cut M H) x a ∧ l = lo ∧ u = hi ∧ ∀ v d H', P d → Le c.z H H' → Is X.K (cut M H') v d → Q v H'
def TruD (X : Cx) (c : Fx) (a : D) (b : Bool) : Prop :=
  ∀ M H x, Ok c M H → Is X.K (cut M H) x a → TruV X.K x H b
section
variable {X : Cx} {c : Fx} {ds : List Sl} {P P' Pa Pb : D → Prop} {e ea eb ec : Expr} {a b d : D} {pos : Pos} {te : TE} {tt : TT} {ta : TA}
/-! in and out of the judgements -/
theorem de_of (h : PE X e te) (i : EvP X.K c te ds P) : DE X c ds e P := ⟨fun pins s σ H Q I ⟨M, ow, E, q⟩ => h.run pins s σ H Q I (i M ow σ H E Q q)⟩
theorem dt_of {P : Bool → Prop} (h : PT X e tt) (i : EvT X.K c tt ds P) : DT X c ds e P := ⟨fun pins s σ H Q I ⟨M, ow, E, q⟩ => h.run pins s σ H Q I (i M ow σ H E Q q)⟩
theorem da_of {es : List Expr} {P : List D → Prop} (h : PA X es ta) (i : EvA X.K c ta ds P) : DA X c ds es P := ⟨fun pos pins s σ H Q I ⟨M, ow, E, q⟩ => h.run pos pins s σ H Q I (i M ow σ H E Q q)⟩
theorem ev_d {K : PySem.W.Frag} : EvP K c (tD K c ds P) ds P := fun M ow σ H E Q q => ⟨M, ow, E, q⟩
theorem ev_t {K : PySem.W.Frag} {P : Bool → Prop} : EvT K c (tDT K c ds P) ds P := fun M ow σ H E Q q => ⟨M, ow, E, q⟩
theorem ev_a {K : PySem.W.Frag} {P : List D → Prop} : EvA K c (tDA K c ds P) ds P := fun M ow σ H E Q q => ⟨M, ow, E, q⟩
theorem DE.imp (h : DE X c ds e P) (i : ∀ d, P d → P' d) : DE X c ds e P' := de_of h fun M ow σ H E Q q => ⟨M, ow, E, fun v d H' p => q v d H' (i d p)⟩
theorem DT.imp {P P' : Bool → Prop} (h : DT X c ds e P) (i : ∀ d, P d → P' d) : DT X c ds e P' := dt_of h fun M ow σ H E Q q => ⟨M, ow, E, fun b H' p => q b H' (i b p)⟩
theorem DA.imp {es : List Expr} {P P' : List D → Prop} (h : DA X c ds es P) (i : ∀ d, P d → P' d) : DA X c ds es P' := da_of h fun M ow σ H E Q q => ⟨M, ow, E, fun v d H' p => q v d H' (i d p)⟩
theorem DV.to (h : DV X c ds e d) (p : P d) : DE X c ds e P := h.imp fun _ z => z ▸ p
theorem DV.cast (h : DV X c ds e a) (p : a = b) : DV X c ds e b := p ▸ h
theorem DB.cast {x y : Bool} (h : DB X c ds e x) (p : x = y) : DB X c ds e y := p ▸ h
theorem DL.cast {es : List Expr} {as bs : List D} (h : DL X c ds es as) (p : as = bs) : DL X c ds es bs := p ▸ h
/-- a fact told by the answer's relation may be kept outside -/
theorem de_ex {α : Type} {S : α → Prop} (h : ∀ x, S x → DE X c ds e P) (hx : ∃ x, S x) : DE X c ds e P := let ⟨x, p⟩ := hx; h x p
/-! names, constants -/
theorem de_var {i : Nat} {x : Str} (hN : X.N[i]? = some x) (hv : Vis X.env.scope x) (h : ds[i]? = some (.val d)) (hd : (x == ("__debug__" : Str)) = false := by decide) (hcd : (x == ("__classdict__" : Str)) = false := by decide) : DV X c ds (.Name x pos) d :=
  de_of (pe_var hN hv hd hcd) fun M ow σ H E Q q => let ⟨v, e, i⟩ := E.val h; ⟨v, e, q v d H rfl .rfl' i⟩
theorem de_int {i : Int} {j} : DV X c ds (.Constant (.int i) j pos) (.int i) := de_of pe_int fun M ow σ H E Q q => q _ _ H rfl .rfl' .int
theorem de_bl {i : Bool} {j} : DV X c ds (.Constant (.bool i) j pos) (.bl i) := de_of pe_bl fun M ow σ H E Q q => q _ _ H rfl .rfl' .bl
theorem de_str {i : Str} {j} : DV X c ds (.Constant (.str i) j pos) (.str i) := de_of pe_str fun M ow σ H E Q q => q _ _ H rfl .rfl' .str
theorem de_non {j} : DV X c ds (.Constant .none j pos) .non := de_of pe_non fun M ow σ H E Q q => q _ _ H rfl .rfl' .non
theorem de_gint {x : Str} {i : Int} (hg : Gl X x) (hm : ∃ t, X.mg x = some (.int i t)) (hd : (x == ("__debug__" : Str)) = false := by decide) : DV X c ds (.Name x pos) (.int i) :=
  let ⟨_, hm⟩ := hm; de_of (pe_glob hg hm (v := .int i) ⟨_, rfl⟩ hd) fun M ow σ H E Q q => q _ _ H rfl .rfl' .int
theorem de_gref {x : Str} {a : Addr} (hg : Gl X x) (hm : X.mg x = some (.ref a)) (hd : (x == ("__debug__" : Str)) = false := by decide) : DV X c ds (.Name x pos) (.adr a) :=
  de_of (pe_glob hg hm (v := .ref a) rfl hd) fun M ow σ H E Q q => q _ _ H rfl .rfl' .adr
theorem de_bty {x : Str} {n : String} (hg : Gl X x) (hm : X.mg x = none) (hv : bootBuiltins x = some (.type n)) (hn : x ≠ "__name__" := by decide) (hd : (x == ("__debug__" : Str)) = false := by decide) : DV X c ds (.Name x pos) (.ty n) :=
  de_of (pe_bltn hg hm hv (v := .ty n) rfl hn hd) fun M ow σ H E Q q => q _ _ H rfl .rfl' .ty
/-! operators -/
theorem de_bin {op : Operator} (ha : DE X c ds ea Pa) (hb : DE X c ds eb Pb) (ho : ∀ a b, Pa a → Pb b → OpD X (binaryOp op) c a b P) : DE X c ds (.BinOp ea op eb pos) P := by
  have ho' : OpR X (binaryOp op) (fun x y H Q => ∃ a b, Pa a ∧ Pb b ∧ ∃ M, Ok c M H ∧ Is X.K (cut M H) x a ∧ Is X.K (cut M H) y b ∧ ∀ v d H', P d → Le c.z H H' → Is X.K (cut M H') v d → Q v H') :=
    fun pins s σ H x y v u Q I rx ry ⟨a, b, pa, pb, h⟩ => ho a b pa pb pins s σ H x y v u Q I rx ry h
  exact de_of (pe_op ho' ha hb) fun M ow σ H E Q q => ⟨M, ow, E, fun x a H1 pa l1 i1 => ⟨M, ow, E.up l1, fun y b H2 pb l2 i2 => ⟨a, b, pa, pb, M, (E.up (l1.tr l2)).ok, i1.up ((E.up l1).ok.cut l2), i2, fun v d H3 p l3 i3 => q v d H3 p ((l1.tr l2).tr l3) i3⟩⟩⟩
theorem dv_bin {op : Operator} (ha : DV X c ds ea a) (hb : DV X c ds eb b) (ho : OpD X (binaryOp op) c a b P) : DE X c ds (.BinOp ea op eb pos) P := de_bin ha hb fun _ _ e1 e2 => by subst e1 e2; exact ho
theorem de_cmp {op : CmpOp} (ha : DE X c ds ea Pa) (hb : DE X c ds eb Pb) (ho : ∀ a b, Pa a → Pb b → OpD X (compareOp op) c a b P) (hm : behindInMarks op eb = false) : DE X c ds (.Compare ea [op] [eb] pos) P := by
  have ho' : OpR X (compareOp op) (fun x y H Q => ∃ a b, Pa a ∧ Pb b ∧ ∃ M, Ok c M H ∧ Is X.K (cut M H) x a ∧ Is X.K (cut M H) y b ∧ ∀ v d H', P d → Le c.z H H' → Is X.K (cut M H') v d → Q v H') :=
    fun pins s σ H x y v u Q I rx ry ⟨a, b, pa, pb, h⟩ => ho a b pa pb pins s σ H x y v u Q I rx ry h
  exact de_of (pe_cmpR ho' ha hb hm) fun M ow σ H E Q q => ⟨M, ow, E, fun x a H1 pa l1 i1 => ⟨M, ow, E.up l1, fun y b H2 pb l2 i2 => ⟨a, b, pa, pb, M, (E.up (l1.tr l2)).ok, i1.up ((E.up l1).ok.cut l2), i2, fun v d H3 p l3 i3 => q v d H3 p ((l1.tr l2).tr l3) i3⟩⟩⟩
theorem dv_cmp {op : CmpOp} (ha : DV X c ds ea a) (hb : DV X c ds eb b) (ho : OpD X (compareOp op) c a b P) (hm : behindInMarks op eb = false) : DE X c ds (.Compare ea [op] [eb] pos) P := de_cmp ha hb (fun _ _ e1 e2 => by subst e1 e2; exact ho) hm
theorem dv_chain {op op' : CmpOp} {x y : Bool} {cc : D} (ha : DV X c ds ea a) (hb : DV X c ds eb b) (hc : DV X c ds ec cc) (ho : OpD X (compareOp op) c a b (· = .bl x)) (ho' : x = true → OpD X (compareOp op') c b cc (· = .bl y))
    (hm : lastMarks [op, op'] [eb, ec] = false := by with_unfolding_all rfl) : DV X c ds (.Compare ea [op, op'] [eb, ec] pos) (.bl (x && y)) := by
  have ho2 : OpR X (compareOp op') (fun u v H Q => x = true ∧ ∃ M, Ok c M H ∧ Is X.K (cut M H) u b ∧ Is X.K (cut M H) v cc ∧ ∀ v d H', d = .bl y → Le c.z H H' → Is X.K (cut M H') v d → Q v H') :=
    fun pins s σ H x y v u Q I rx ry ⟨z, h⟩ => ho' z pins s σ H x y v u Q I rx ry h
  refine de_of (pe_chain ho ho2 ha hb hc hm) fun M ow σ H E Q q => ⟨M, ow, E, fun u a H1 pa l1 i1 => ⟨M, ow, E.up l1, fun v b H2 pb l2 i2 => ⟨M, (E.up (l1.tr l2)).ok, ?_, ?_, fun w d H3 p l3 i3 => ?_⟩⟩⟩
  · subst pa
    exact i1.up ((E.up l1).ok.cut l2)
  · subst pb
    exact i2
  · subst p
    refine ⟨x, i3.bl_inv, ?_⟩
    cases x with
    | false =>
      show Q (.bl false) H3
      exact q _ _ H3 rfl ((l1.tr l2).tr l3) .bl
    | true =>
      refine ⟨M, ow, E.up ((l1.tr l2).tr l3), fun z e H4 pe l4 i4 => ⟨rfl, M, (E.up (((l1.tr l2).tr l3).tr l4)).ok, ?_, ?_, fun w d H5 p l5 i5 => ?_⟩⟩
      · subst pb
        exact i2.up ((E.up (l1.tr l2)).ok.cut (l3.tr l4))
      · subst pe
        exact i4
      · subst p
        exact q _ _ H5 rfl ((((l1.tr l2).tr l3).tr l4).tr l5) i5
theorem de_un {op : UnaryOp} (ha : DE X c ds ea Pa) (ho : ∀ a, Pa a → UnD X (unaryOp op) c a P) : DE X c ds (.UnaryOp op ea pos) P := by
  have ho' : UnR X (unaryOp op) (fun x H Q => ∃ a, Pa a ∧ ∃ M, Ok c M H ∧ Is X.K (cut M H) x a ∧ ∀ v d H', P d → Le c.z H H' → Is X.K (cut M H') v d → Q v H') :=
    fun pins s σ H x v Q I rx ⟨a, pa, h⟩ => ho a pa pins s σ H x v Q I rx h
  exact de_of (pe_un ho' ha) fun M ow σ H E Q q => ⟨M, ow, E, fun x a H1 pa l1 i1 => ⟨a, pa, M, (E.up l1).ok, i1, fun v d H3 p l3 i3 => q v d H3 p (l1.tr l3) i3⟩⟩
theorem dv_un {op : UnaryOp} (ha : DV X c ds ea a) (ho : UnD X (unaryOp op) c a P) : DE X c ds (.UnaryOp op ea pos) P := de_un ha fun _ e1 => by subst e1; exact ho
/-! and, or, not; if -/
theorem dv_one {op} (ha : DE X c ds ea P) : DE X c ds (.BoolOp op [ea] pos) P := de_of (pe_one ha) ev_d
theorem dv_and {x y : Bool} {r : List Expr} (ha : DV X c ds ea (.bl x)) (hb : x = true → DV X c ds (.BoolOp .And (eb :: r) pos) (.bl y)) : DV X c ds (.BoolOp .And (ea :: eb :: r) pos) (.bl (x && y)) := by
  by_cases hx : x = true
  · refine de_of (pe_and ha (hb hx)) fun M ow σ H E Q q => ⟨M, ow, E, fun v d H1 e l1 i1 => ?_⟩
    subst e
    refine ⟨x, i1.bl_inv, ?_⟩
    subst hx
    exact ⟨M, ow, E.up l1, fun v d H3 p l3 i3 => q v d H3 p (l1.tr l3) i3⟩
  · have hx : x = false := by simpa using hx
    subst hx
    refine de_of (pe_and (tb := fun _ _ _ => False) ha ⟨fun _ _ _ _ _ _ z => z.elim⟩) fun M ow σ H E Q q => ⟨M, ow, E, fun v d H1 e l1 i1 => ?_⟩
    subst e
    exact ⟨false, i1.bl_inv, q _ _ H1 rfl l1 .bl⟩
theorem dv_or {x y : Bool} {r : List Expr} (ha : DV X c ds ea (.bl x)) (hb : x = false → DV X c ds (.BoolOp .Or (eb :: r) pos) (.bl y)) : DV X c ds (.BoolOp .Or (ea :: eb :: r) pos) (.bl (x || y)) := by
  by_cases hx : x = true
  · subst hx
    refine de_of (pe_or (tb := fun _ _ _ => False) ha ⟨fun _ _ _ _ _ _ z => z.elim⟩) fun M ow σ H E Q q => ⟨M, ow, E, fun v d H1 e l1 i1 => ?_⟩
    subst e
    exact ⟨true, i1.bl_inv, q _ _ H1 rfl l1 .bl⟩
  · have hx : x = false := by simpa using hx
    refine de_of (pe_or ha (hb hx)) fun M ow σ H E Q q => ⟨M, ow, E, fun v d H1 e l1 i1 => ?_⟩
    subst e
    refine ⟨x, i1.bl_inv, ?_⟩
    subst hx
    exact ⟨M, ow, E.up l1, fun v d H3 p l3 i3 => q v d H3 p (l1.tr l3) i3⟩
theorem dv_not {x : Bool} (ha : DV X c ds ea (.bl x)) : DV X c ds (.UnaryOp .Not ea pos) (.bl (!x)) := de_of (pe_not ha) fun M ow σ H E Q q => ⟨M, ow, E, fun v d H1 e l1 i1 => by
  subst e
  exact ⟨x, i1.bl_inv, q _ _ H1 rfl l1 .bl⟩⟩
theorem de_ifExp {Pt : Bool → Prop} (ht : DT X c ds ec Pt) (h1 : Pt true → DE X c ds ea P) (h2 : Pt false → DE X c ds eb P) : DE X c ds (.IfExp ec ea eb pos) P := by
  have g1 : PE X ea fun σ H Q => Pt true ∧ tD X.K c ds P σ H Q := ⟨fun pins s σ H Q I ⟨z, h⟩ => (h1 z).run pins s σ H Q I h⟩
  have g2 : PE X eb fun σ H Q => Pt false ∧ tD X.K c ds P σ H Q := ⟨fun pins s σ H Q I ⟨z, h⟩ => (h2 z).run pins s σ H Q I h⟩
  refine de_of (pe_ifExp ht g1 g2) fun M ow σ H E Q q => ⟨M, ow, E, fun b H1 p l1 => ?_⟩
  cases b with
  | true =>
    exact ⟨p, M, ow, E.up l1, fun v d H3 p l3 i3 => q v d H3 p (l1.tr l3) i3⟩
  | false =>
    exact ⟨p, M, ow, E.up l1, fun v d H3 p l3 i3 => q v d H3 p (l1.tr l3) i3⟩
/-! tests -/
theorem dt_val {P : Bool → Prop} (ha : DE X c ds e fun d => ∃ x, d = .bl x ∧ P x) (he : ∀ whole, isTrue e X.env whole = (do let v ← whole; standAt e.pos; holding [v] (truthy v)) := by intro _; rfl) : DT X c ds e P := dt_of (pt_val ha he) fun M ow σ H E Q q => ⟨M, ow, E, fun v d H1 p l1 i1 => by
  obtain ⟨x, rfl, p⟩ := p
  exact ⟨x, i1.bl_inv, q _ H1 p l1⟩⟩
theorem db_val {x : Bool} (ha : DV X c ds e (.bl x)) (he : ∀ whole, isTrue e X.env whole = (do let v ← whole; standAt e.pos; holding [v] (truthy v)) := by intro _; rfl) : DB X c ds e x := dt_val (ha.imp fun d z => ⟨x, z, rfl⟩) he
theorem dt_cmp {op : CmpOp} {P : Bool → Prop} (ha : DE X c ds ea Pa) (hb : DE X c ds eb Pb) (ho : ∀ a b, Pa a → Pb b → OpD X (compareOp op) c a b fun d => ∃ x, d = .bl x ∧ P x) (hm : behindInMarks op eb = false) : DT X c ds (.Compare ea [op] [eb] pos) P := by
  have ho' : OpR X (compareOp op) (fun x y H Q => ∃ a b, Pa a ∧ Pb b ∧ ∃ M, Ok c M H ∧ Is X.K (cut M H) x a ∧ Is X.K (cut M H) y b ∧ ∀ v d H', (∃ x, d = .bl x ∧ P x) → Le c.z H H' → Is X.K (cut M H') v d → Q v H') :=
    fun pins s σ H x y v u Q I rx ry ⟨a, b, pa, pb, h⟩ => ho a b pa pb pins s σ H x y v u Q I rx ry h
  refine dt_of (pt_cmpR ho' ha hb hm) fun M ow σ H E Q q => ⟨M, ow, E, fun x a H1 pa l1 i1 => ⟨M, ow, E.up l1, fun y b H2 pb l2 i2 => ⟨a, b, pa, pb, M, (E.up (l1.tr l2)).ok, i1.up ((E.up l1).ok.cut l2), i2, fun v d H3 p l3 i3 => ?_⟩⟩⟩
  obtain ⟨x, rfl, p⟩ := p
  exact ⟨x, i3.bl_inv, q _ H3 p ((l1.tr l2).tr l3)⟩
theorem db_cmp {op : CmpOp} {x : Bool} (ha : DV X c ds ea a) (hb : DV X c ds eb b) (ho : OpD X (compareOp op) c a b (· = .bl x)) (hm : behindInMarks op eb = false) : DB X c ds (.Compare ea [op] [eb] pos) x :=
  dt_cmp ha hb (fun _ _ e1 e2 => by
    subst e1 e2
    intro pins s σ H y z v u Q I rx ry ⟨M, o, i1, i2, q⟩
    exact ho pins s σ H y z v u Q I rx ry ⟨M, o, i1, i2, fun v d H' p => q v d H' ⟨x, p, rfl⟩⟩) hm
theorem db_not {x : Bool} (ha : DB X c ds ea x) : DB X c ds (.UnaryOp .Not ea pos) (!x) := dt_of (pt_not ha) fun M ow σ H E Q q => ⟨M, ow, E, fun b H1 e l1 => by
  subst e
  exact q _ H1 rfl l1⟩
/-- and, or as a test, whatever the whole is -/
def DW (X : Cx) (c : Fx) (ds : List Sl) (e : Expr) (P : Bool → Prop) : Prop := PW X e (tDT X.K c ds P)
theorem db_w {P : Bool → Prop} (h : DW X c ds e P) : DT X c ds e P := PW.pt h
theorem dw_of {P : Bool → Prop} (h : PW X e tt) (i : EvT X.K c tt ds P) : DW X c ds e P := ⟨fun whole pins s σ H Q I ⟨M, ow, E, q⟩ => h.run whole pins s σ H Q I (i M ow σ H E Q q)⟩
theorem dw_and1 {P : Bool → Prop} (ha : DT X c ds ea P) : DW X c ds (.BoolOp .And [ea] pos) P := dw_of (pw_and1 ha) ev_t
theorem dw_or1 {P : Bool → Prop} (ha : DT X c ds ea P) : DW X c ds (.BoolOp .Or [ea] pos) P := dw_of (pw_or1 ha) ev_t
theorem dw_and {x y : Bool} {r : List Expr} (ha : DB X c ds ea x) (hb : x = true → DW X c ds (.BoolOp .And (eb :: r) pos) (· = y)) : DW X c ds (.BoolOp .And (ea :: eb :: r) pos) (· = (x && y)) := by
  by_cases hx : x = true
  · refine dw_of (pw_and ha (hb hx)) fun M ow σ H E Q q => ⟨M, ow, E, fun b H1 e l1 => ?_⟩
    subst e
    subst hx
    exact ⟨M, ow, E.up l1, fun v H3 p l3 => q v H3 p (l1.tr l3)⟩
  · have hx : x = false := by simpa using hx
    subst hx
    refine dw_of (pw_and (tB' := fun _ _ _ => False) ha ⟨fun _ _ _ _ _ _ _ z => z.elim⟩) fun M ow σ H E Q q => ⟨M, ow, E, fun b H1 e l1 => ?_⟩
    subst e
    exact q _ H1 rfl l1
theorem dw_or {x y : Bool} {r : List Expr} (ha : DB X c ds ea x) (hb : x = false → DW X c ds (.BoolOp .Or (eb :: r) pos) (· = y)) : DW X c ds (.BoolOp .Or (ea :: eb :: r) pos) (· = (x || y)) := by
  by_cases hx : x = true
  · subst hx
    refine dw_of (pw_or (tB' := fun _ _ _ => False) ha ⟨fun _ _ _ _ _ _ _ z => z.elim⟩) fun M ow σ H E Q q => ⟨M, ow, E, fun b H1 e l1 => ?_⟩
    subst e
    exact q _ H1 rfl l1
  · have hx : x = false := by simpa using hx
    refine dw_of (pw_or ha (hb hx)) fun M ow σ H E Q q => ⟨M, ow, E, fun b H1 e l1 => ?_⟩
    subst e
    subst hx
    exact ⟨M, ow, E.up l1, fun v H3 p l3 => q v H3 p (l1.tr l3)⟩
/-! displays, arguments -/
theorem da_nil : DL X c ds [] [] := da_of pa_nil fun M ow σ H E Q q => q [] [] H rfl .rfl' .nil
theorem da_cons {es : List Expr} {Pr : List D → Prop} (ha : DE X c ds ea Pa) (hr : DA X c ds es Pr) (hs : starEach (ea :: es) X.env = (false, eval ea X.env) :: starEach es X.env := by rfl) : DA X c ds (ea :: es) fun l => ∃ d r, l = d :: r ∧ Pa d ∧ Pr r :=
  da_of (pa_cons ha hr hs) fun M ow σ H E Q q => ⟨M, ow, E, fun x a H1 pa l1 i1 => ⟨M, ow, E.up l1, fun xs es H2 pr l2 i2 => q _ _ H2 ⟨a, es, rfl, pa, pr⟩ (l1.tr l2) (.cons (i1.up ((E.up l1).ok.cut l2)) i2)⟩⟩
theorem dl_cons {es : List Expr} {as : List D} (ha : DV X c ds ea a) (hr : DL X c ds es as) (hs : starEach (ea :: es) X.env = (false, eval ea X.env) :: starEach es X.env := by rfl) : DL X c ds (ea :: es) (a :: as) :=
  (da_cons ha hr hs).imp fun l ⟨d, r, e, e1, e2⟩ => by subst e1 e2; exact e
theorem de_tup {es : List Expr} {x1} {P : List D → Prop} (ha : DA X c ds es P) (hz : ∀ as, P as → as.length ≤ sizeLine) : DE X c ds (.Tuple es x1 pos) fun d => ∃ as, d = .tup as ∧ P as :=
  de_of (pe_tup ha) fun M ow σ H E Q q => ⟨M, ow, E, fun xs as H1 pa l1 i1 => ⟨i1.len ▸ hz as pa, fun p hp => q _ _ _ ⟨as, rfl, pa⟩ (l1.tr (.new hp)) (.tup ((E.up l1).ok.at_new hp) (i1.up ((E.up l1).ok.cutNew hp)))⟩⟩
theorem de_lst {es : List Expr} {P : List D → Prop} (ha : DA X c ds es P) (hz : ∀ as, P as → as.length ≤ sizeLine) : DE X c ds (.List es pos) fun d => ∃ as, d = .lst as ∧ P as :=
  de_of (pe_lst ha) fun M ow σ H E Q q => ⟨M, ow, E, fun xs as H1 pa l1 i1 => ⟨i1.len ▸ hz as pa, fun p hp => q _ _ _ ⟨as, rfl, pa⟩ (l1.tr (.new hp)) (.lst ((E.up l1).ok.at_new hp) (i1.up ((E.up l1).ok.cutNew hp)))⟩⟩
theorem small_line {n : Nat} (h : n ≤ 1000) : n ≤ sizeLine := Nat.le_trans h (by rw [sizeLine_eq]; decide)
theorem dv_tup {es : List Expr} {x1} {as : List D} (ha : DL X c ds es as) (hz : as.length ≤ 1000) : DV X c ds (.Tuple es x1 pos) (.tup as) :=
  (de_tup ha fun _ e => by subst e; exact small_line hz).imp fun d ⟨_, e, e2⟩ => by subst e2; exact e
theorem dv_lst {es : List Expr} {as : List D} (ha : DL X c ds es as) (hz : as.length ≤ 1000) : DV X c ds (.List es pos) (.lst as) :=
  (de_lst ha fun _ e => by subst e; exact small_line hz).imp fun d ⟨_, e, e2⟩ => by subst e2; exact e
/-! calls of what is built in -/
theorem de_callB {x : Str} {id : String} {es : List Expr} {p : Pos} {Pa : List D → Prop} (hg : Gl X x) (hm : X.mg x = none) (hv : bootBuiltins x = some (.builtin id)) (ha : DA X c ds (ea :: es) Pa) (ho : ∀ as, Pa as → CallD X (.builtin id) c as P) (hn : x ≠ "__name__" := by decide) (hdb : (x == ("__debug__" : Str)) = false := by decide)
    (he : starEach (ea :: es) X.env = (false, eval ea X.env) :: starEach es X.env := by rfl) (hpl : (backTo pos (starEach es X.env)).any (·.1) = false := by rfl) : DE X c ds (.Call (.Name x p) (ea :: es) [] pos) P := by
  have ho' : CallR X (.builtin id) (fun xs H Q => ∃ as, Pa as ∧ ∃ M, Ok c M H ∧ IsAll X.K (cut M H) xs as ∧ ∀ v d H', P d → Le c.z H H' → Is X.K (cut M H') v d → Q v H') := fun pins s σ H xs us Q I r ⟨as, pa, h⟩ => ho as pa pins s σ H xs us Q I r h
  exact de_of (pe_callB ho' hg hm hv ha hn hdb he hpl) fun M ow σ H E Q q => ⟨M, ow, E, fun xs as H1 pa l1 i1 => ⟨as, pa, M, (E.up l1).ok, i1, fun v d H3 p l3 i3 => q v d H3 p (l1.tr l3) i3⟩⟩
theorem dv_callB {x : Str} {id : String} {es : List Expr} {p : Pos} {as : List D} (hg : Gl X x) (hm : X.mg x = none) (hv : bootBuiltins x = some (.builtin id)) (ha : DL X c ds (ea :: es) as) (ho : CallD X (.builtin id) c as P) (hn : x ≠ "__name__" := by decide) (hdb : (x == ("__debug__" : Str)) = false := by decide)
    (he : starEach (ea :: es) X.env = (false, eval ea X.env) :: starEach es X.env := by rfl) (hpl : (backTo pos (starEach es X.env)).any (·.1) = false := by rfl) : DE X c ds (.Call (.Name x p) (ea :: es) [] pos) P :=
  de_callB hg hm hv ha (fun _ e => by subst e; exact ho) hn hdb he hpl
theorem de_callTy {x : Str} {T : String} {es : List Expr} {p : Pos} {Pa : List D → Prop} (hg : Gl X x) (hm : X.mg x = none) (hv : bootBuiltins x = some (.type T)) (ha : DA X c ds (ea :: es) Pa) (ho : ∀ as, Pa as → CallD X (.type T) c as P) (hn : x ≠ "__name__" := by decide) (hdb : (x == ("__debug__" : Str)) = false := by decide)
    (he : starEach (ea :: es) X.env = (false, eval ea X.env) :: starEach es X.env := by rfl) (hpl : (backTo pos (starEach es X.env)).any (·.1) = false := by rfl) : DE X c ds (.Call (.Name x p) (ea :: es) [] pos) P := by
  have ho' : CallR X (.type T) (fun xs H Q => ∃ as, Pa as ∧ ∃ M, Ok c M H ∧ IsAll X.K (cut M H) xs as ∧ ∀ v d H', P d → Le c.z H H' → Is X.K (cut M H') v d → Q v H') := fun pins s σ H xs us Q I r ⟨as, pa, h⟩ => ho as pa pins s σ H xs us Q I r h
  exact de_of (pe_callTy ho' hg hm hv ha hn hdb he hpl) fun M ow σ H E Q q => ⟨M, ow, E, fun xs as H1 pa l1 i1 => ⟨as, pa, M, (E.up l1).ok, i1, fun v d H3 p l3 i3 => q v d H3 p (l1.tr l3) i3⟩⟩
theorem dv_callTy {x : Str} {T : String} {es : List Expr} {p : Pos} {as : List D} (hg : Gl X x) (hm : X.mg x = none) (hv : bootBuiltins x = some (.type T)) (ha : DL X c ds (ea :: es) as) (ho : CallD X (.type T) c as P) (hn : x ≠ "__name__" := by decide) (hdb : (x == ("__debug__" : Str)) = false := by decide)
    (he : starEach (ea :: es) X.env = (false, eval ea X.env) :: starEach es X.env := by rfl) (hpl : (backTo pos (starEach es X.env)).any (·.1) = false := by rfl) : DE X c ds (.Call (.Name x p) (ea :: es) [] pos) P :=
  de_callTy hg hm hv ha (fun _ e => by subst e; exact ho) hn hdb he hpl
/-! a[b], a[lo:hi] -/
theorem de_ix (ha : DE X c ds ea Pa) (hb : DE X c ds eb Pb) (ho : ∀ a b, Pa a → Pb b → IxD X c a b P) (hs : PlainIx eb) : DE X c ds (.Subscript ea eb pos) P := by
  have ho' : IxR X (fun x y H Q => ∃ a b, Pa a ∧ Pb b ∧ ∃ M, Ok c M H ∧ Is X.K (cut M H) x a ∧ Is X.K (cut M H) y b ∧ ∀ v d H', P d → Le c.z H H' → Is X.K (cut M H') v d → Q v H') :=
    fun ve se pins s σ H x y v u Q I rx ry ⟨a, b, pa, pb, h⟩ hs => ho a b pa pb ve se pins s σ H x y v u Q I rx ry h hs
  exact de_of (pe_ix ho' ha hb hs) fun M ow σ H E Q q => ⟨M, ow, E, fun x a H1 pa l1 i1 => ⟨M, ow, E.up l1, fun y b H2 pb l2 i2 => ⟨a, b, pa, pb, M, (E.up (l1.tr l2)).ok, i1.up ((E.up l1).ok.cut l2), i2, fun v d H3 p l3 i3 => q v d H3 p ((l1.tr l2).tr l3) i3⟩⟩⟩
theorem dv_ix (ha : DV X c ds ea a) (hb : DV X c ds eb b) (ho : IxD X c a b P) (hs : PlainIx eb) : DE X c ds (.Subscript ea eb pos) P := de_ix ha hb (fun _ _ e1 e2 => by subst e1 e2; exact ho) hs
/-- a part of a slice -/
def DO (X : Cx) (c : Fx) (ds : List Sl) (e : Option Expr) (i : Option Int) : Prop := PO X e fun σ H Q => ∃ M ow, Env X.K c M ow σ H ds ∧ ∀ H', Le c.z H H' → Q i H'
theorem do_none : DO X c ds none none := ⟨fun pins s σ H Q I ⟨M, ow, E, q⟩ => po_none.run pins s σ H Q I (q H .rfl')⟩
theorem do_some {i : Int} (h : DV X c ds e (.int i)) : DO X c ds (some e) (some i) := ⟨fun pins s σ H Q I ⟨M, ow, E, q⟩ => (po_some h).run pins s σ H Q I ⟨M, ow, E, fun v d H' p l k => by
  subst p
  exact ⟨i, k.int_inv, q H' l⟩⟩⟩
theorem dv_slice {lo hi : Option Expr} {l u : Option Int} {p2 : Pos} (he : DV X c ds e a) (hl : DO X c ds lo l) (hu : DO X c ds hi u) (ho : SlD X c a l u P) : DE X c ds (.Subscript e (.Slice lo hi none p2) pos) P :=
  de_of (pe_slice ho he hl hu) fun M ow σ H E Q q => ⟨M, ow, E, fun v d H1 p l1 i1 => ⟨M, ow, E.up l1, fun H2 l2 => ⟨M, ow, E.up (l1.tr l2), fun H3 l3 => ⟨M, (E.up ((l1.tr l2).tr l3)).ok, by
    subst p
    exact i1.up ((E.up l1).ok.cut (l2.tr l3)), rfl, rfl, fun v d H4 p l4 i4 => q v d H4 p (((l1.tr l2).tr l3).tr l4) i4⟩⟩⟩⟩
/-! a method of what is built in -/
def TyD (X : Cx) (c : Fx) (T : String) (a : D) : Prop := ∀ M H x, Ok c M H → Is X.K (cut M H) x a → tyV X.K T x H
theorem de_bm {T id : String} {name : Str} {apos cpos : Pos} {es : List Expr} {Pa : D → Prop} {Pr : List D → Prop} (pa : PlainAttrs T) (slot : Slot T name id) (hty : typeOf (.builtin id) = pure (.type "method_descriptor"))
    (ho : DE X c ds ea Pa) (ht : ∀ a, Pa a → TyD X c T a) (ha : DA X c ds (eb :: es) Pr) (hm : ∀ a as, Pa a → Pr as → MtD X id c a as P)
    (hbase : attributeBase ea name X.env (eval ea X.env) = eval ea X.env := by rfl)
    (hfew : ((backTo cpos (starEach (eb :: es) X.env)).all (fun x => !x.1) && (backToKw cpos (keywordEach [] X.env)).all (fun x => x.1.isSome)
      && decide ((eb :: es).length + ([] : List Keyword).length + (if ([] : List Keyword).isEmpty then 0 else 1) < 30)) = true := by rfl)
    (hline : (apos.endLine == cpos.line) = true := by rfl) (hs : starEach (eb :: es) X.env = (false, eval eb X.env) :: starEach es X.env := by rfl) (hplain : (backTo cpos (starEach es X.env)).any (·.1) = false := by rfl) :
    DE X c ds (.Call (.Attribute ea name apos) (eb :: es) [] cpos) P := by
  have ho' : MtR X id (fun x xs H Q => ∃ a as, Pa a ∧ Pr as ∧ ∃ M, Ok c M H ∧ Is X.K (cut M H) x a ∧ IsAll X.K (cut M H) xs as ∧ ∀ v d H', P d → Le c.z H H' → Is X.K (cut M H') v d → Q v H') :=
    fun pins s σ H x xs v us Q I rx rs ⟨a, as, p1, p2, h⟩ => hm a as p1 p2 pins s σ H x xs v us Q I rx rs h
  exact de_of (pe_bm pa slot hty ho' ho ha hbase hfew hline hs hplain) fun M ow σ H E Q q => ⟨M, ow, E, fun x a H1 pa l1 i1 => ⟨ht a pa M H1 x (E.up l1).ok i1, M, ow, E.up l1, fun xs as H2 pr l2 i2 =>
    ⟨a, as, pa, pr, M, (E.up (l1.tr l2)).ok, i1.up ((E.up l1).ok.cut l2), i2, fun v d H3 p l3 i3 => q v d H3 p ((l1.tr l2).tr l3) i3⟩⟩⟩
theorem de_bm0 {T id : String} {name : Str} {apos cpos : Pos} {Pa : D → Prop} (pa : PlainAttrs T) (slot : Slot T name id) (hty : typeOf (.builtin id) = pure (.type "method_descriptor"))
    (ho : DE X c ds ea Pa) (ht : ∀ a, Pa a → TyD X c T a) (hm : ∀ a, Pa a → MtD X id c a [] P)
    (hbase : attributeBase ea name X.env (eval ea X.env) = eval ea X.env := by rfl) (hline : (apos.endLine == cpos.line) = true := by rfl) : DE X c ds (.Call (.Attribute ea name apos) [] [] cpos) P := by
  have ho' : MtR X id (fun x xs H Q => ∃ a, Pa a ∧ ∃ M, Ok c M H ∧ Is X.K (cut M H) x a ∧ IsAll X.K (cut M H) xs [] ∧ ∀ v d H', P d → Le c.z H H' → Is X.K (cut M H') v d → Q v H') :=
    fun pins s σ H x xs v us Q I rx rs ⟨a, p1, h⟩ => hm a p1 pins s σ H x xs v us Q I rx rs h
  exact de_of (pe_bm0 pa slot hty ho' ho hbase hline) fun M ow σ H E Q q => ⟨M, ow, E, fun x a H1 pa l1 i1 => ⟨ht a pa M H1 x (E.up l1).ok i1, a, pa, M, (E.up l1).ok, i1, .nil, fun v d H3 p l3 i3 => q v d H3 p (l1.tr l3) i3⟩⟩
/-! o.f -/
theorem dv_fld {C : Addr} {ns : List Str} {es : List D} {f : Str} {j : Nat} (he : DV X c ds e (.obj C ns es)) (hb : attributeBase e f X.env (eval e X.env) = eval e X.env) (cl : Cls X.K C) (na : NoAttr X.K C f) (hl : ∀ vs : List V, ns.length = vs.length → (ns.zip vs).lookup f = vs[j]?) (h : es[j]? = some d) : DV X c ds (.Attribute e f pos) d :=
  de_of (pe_fld he hb) fun M ow σ H E Q q => ⟨M, ow, E, fun v d' H1 p l1 i1 => by
    subst p
    cases i1 with
    | obj h1 hn ha =>
      obtain ⟨w, ew, iw⟩ := ha.at' h
      exact ⟨_, C, _, _, w, rfl, (cut_at h1).1, cl, na, by rw [hl _ hn]; exact ew, q w d H1 rfl l1 iw⟩⟩
end
end Dt

set_option Elab.async false
set_option linter.all false
set_option maxRecDepth 100000
set_option maxHeartbeats 4000000
/-! statements, loops, comprehensions, in data -/
namespace Dt
open PySem L2
/-- what is wanted behind a statement, in data -/
structure Po where
  nx : List Sl → Prop
  rt : D → Prop
  bk : List Sl → Prop := fun _ => False
  ct : List Sl → Prop := fun _ => False
def tDS (K : PySem.W.Frag) (c : Fx) (ds : List Sl) (po : Po) : TS := fun D σ H => ∃ M ow, Env K c M ow σ H ds ∧
  (∀ M' ow' σ' H' ds', po.nx ds' → Env K c M' ow' σ' H' ds' → Kp M H M' H' → D.nx σ' H') ∧
  (∀ v d H', po.rt d → Le c.z c.H0 H' → Is K (cut c.B H') v d → D.rt v H') ∧
  (∀ M' ow' σ' H' ds', po.bk ds' → Env K c M' ow' σ' H' ds' → Kp M H M' H' → D.bk σ' H') ∧
  (∀ M' ow' σ' H' ds', po.ct ds' → Env K c M' ow' σ' H' ds' → Kp M H M' H' → D.ct σ' H')
def DS (X : Cx) (c : Fx) (ds : List Sl) (st : Stmt) (po : Po) : Prop := PS X st (tDS X.K c ds po)
def DSs (X : Cx) (c : Fx) (ds : List Sl) (st : List Stmt) (po : Po) : Prop := PSs X st (tDS X.K c ds po)
/-- the wants of a data statement from those of a reading -/
def EvS (K : PySem.W.Frag) (c : Fx) (t : TS) (ds : List Sl) (po : Po) : Prop := ∀ M ow σ H, Env K c M ow σ H ds → ∀ D : Ends,
  (∀ M' ow' σ' H' ds', po.nx ds' → Env K c M' ow' σ' H' ds' → Kp M H M' H' → D.nx σ' H') →
  (∀ v d H', po.rt d → Le c.z c.H0 H' → Is K (cut c.B H') v d → D.rt v H') →
  (∀ M' ow' σ' H' ds', po.bk ds' → Env K c M' ow' σ' H' ds' → Kp M H M' H' → D.bk σ' H') →
  (∀ M' ow' σ' H' ds', po.ct ds' → Env K c M' ow' σ' H' ds' → Kp M H M' H' → D.ct σ' H') → t D σ H
section
variable {X : Cx} {c : Fx} {ds : List Sl} {P Pa Pb : D → Prop} {e ea eb ec : Expr} {a b d : D} {pos : Pos} {te : TE} {st : Stmt} {r sa sb : List Stmt} {t : TS} {po : Po}
theorem ds_of (h : PS X st t) (i : EvS X.K c t ds po) : DS X c ds st po := ⟨fun pins s σ H D I ⟨M, ow, E, q1, q2, q3, q4⟩ => h.run pins s σ H D I (i M ow σ H E D q1 q2 q3 q4)⟩
theorem dss_of (h : PSs X r t) (i : EvS X.K c t ds po) : DSs X c ds r po := ⟨fun pins s σ H D I ⟨M, ow, E, q1, q2, q3, q4⟩ => h.run pins s σ H D I (i M ow σ H E D q1 q2 q3 q4)⟩
theorem ev_s {K : PySem.W.Frag} : EvS K c (tDS K c ds po) ds po := fun M ow σ H E D q1 q2 q3 q4 => ⟨M, ow, E, q1, q2, q3, q4⟩
theorem DSs.imp {po' : Po} (h : DSs X c ds r po) (n : ∀ d, po.nx d → po'.nx d) (rt : ∀ d, po.rt d → po'.rt d) (bk : ∀ d, po.bk d → po'.bk d) (ct : ∀ d, po.ct d → po'.ct d) : DSs X c ds r po' :=
  dss_of h fun M ow σ H E D q1 q2 q3 q4 => ⟨M, ow, E, fun M' ow' σ' H' ds' p => q1 M' ow' σ' H' ds' (n _ p), fun v d H' p => q2 v d H' (rt _ p), fun M' ow' σ' H' ds' p => q3 M' ow' σ' H' ds' (bk _ p), fun M' ow' σ' H' ds' p => q4 M' ow' σ' H' ds' (ct _ p)⟩
theorem DS.imp {po' : Po} (h : DS X c ds st po) (n : ∀ d, po.nx d → po'.nx d) (rt : ∀ d, po.rt d → po'.rt d) (bk : ∀ d, po.bk d → po'.bk d) (ct : ∀ d, po.ct d → po'.ct d) : DS X c ds st po' :=
  ds_of h fun M ow σ H E D q1 q2 q3 q4 => ⟨M, ow, E, fun M' ow' σ' H' ds' p => q1 M' ow' σ' H' ds' (n _ p), fun v d H' p => q2 v d H' (rt _ p), fun M' ow' σ' H' ds' p => q3 M' ow' σ' H' ds' (bk _ p), fun M' ow' σ' H' ds' p => q4 M' ow' σ' H' ds' (ct _ p)⟩
/-! blocks -/
theorem dss_nil (h : po.nx ds) : DSs X c ds [] po := dss_of pss_nil fun M ow σ H E D q1 q2 q3 q4 => q1 M ow σ H ds h E .rfl'
theorem dss_cons {N : List Sl → Prop} (h1 : DS X c ds st { po with nx := N }) (h2 : ∀ ds', N ds' → DSs X c ds' r po) : DSs X c ds (st :: r) po := by
  have g2 : PSs X r fun D σ H => ∃ ds', N ds' ∧ tDS X.K c ds' po D σ H := ⟨fun pins s σ H D I ⟨ds', n, h⟩ => (h2 ds' n).run pins s σ H D I h⟩
  refine dss_of (pss_cons h1 g2) fun M ow σ H E D q1 q2 q3 q4 => ⟨M, ow, E, fun M' ow' σ' H' ds' n E' k => ⟨ds', n, M', ow', E', fun M2 ow2 σ2 H2 ds2 n2 E2 k2 => q1 M2 ow2 σ2 H2 ds2 n2 E2 (k.tr k2), q2, fun M2 ow2 σ2 H2 ds2 n2 E2 k2 => q3 M2 ow2 σ2 H2 ds2 n2 E2 (k.tr k2), fun M2 ow2 σ2 H2 ds2 n2 E2 k2 => q4 M2 ow2 σ2 H2 ds2 n2 E2 (k.tr k2)⟩, q2, q3, q4⟩
/-- the slots behind the first statement are known -/
theorem dss_to {ds' : List Sl} (h1 : DS X c ds st { po with nx := (· = ds') }) (h2 : DSs X c ds' r po) : DSs X c ds (st :: r) po := dss_cons h1 fun _ e => by subst e; exact h2
/-- a last statement that gives back -/
theorem dss_last (h1 : DS X c ds st { po with nx := fun _ => False }) : DSs X c ds (st :: r) po := dss_cons h1 fun _ z => z.elim
theorem dss_one (h1 : DS X c ds st po) : DSs X c ds [st] po := dss_cons (N := po.nx) h1 fun _ n => dss_nil n
/-! returns, tests -/
theorem ds_ret (he : DE X c ds e po.rt) : DS X c ds (.Return (some e) pos) po := ds_of (L2.ps_ret he) fun M ow σ H E D q1 q2 q3 q4 => ⟨M, ow, E, fun v d H' p l i => q2 v d H' p (E.up l).ok.le (i.up (cut_less (E.up l).ok.bM))⟩
theorem ds_retN (h : po.rt .non) : DS X c ds (.Return none pos) po := ds_of L2.ps_retN fun M ow σ H E D q1 q2 q3 q4 => q2 _ _ H h E.ok.le .non
theorem ds_if {Pt : Bool → Prop} (ht : DT X c ds ec Pt) (h1 : Pt true → DSs X c ds sa po) (h2 : Pt false → DSs X c ds sb po) : DS X c ds (.If ec sa sb pos) po := by
  have g1 : PSs X sa fun D σ H => Pt true ∧ tDS X.K c ds po D σ H := ⟨fun pins s σ H D I ⟨z, h⟩ => (h1 z).run pins s σ H D I h⟩
  have g2 : PSs X sb fun D σ H => Pt false ∧ tDS X.K c ds po D σ H := ⟨fun pins s σ H D I ⟨z, h⟩ => (h2 z).run pins s σ H D I h⟩
  refine ds_of (L2.ps_if ht g1 g2) fun M ow σ H E D q1 q2 q3 q4 => ⟨M, ow, E, fun b H1 p l1 => ?_⟩
  have k := Kp.of l1 E.ok
  cases b with
  | true => exact ⟨p, M, ow, E.up l1, fun M2 ow2 σ2 H2 ds2 n2 E2 k2 => q1 M2 ow2 σ2 H2 ds2 n2 E2 (k.tr k2), q2, fun M2 ow2 σ2 H2 ds2 n2 E2 k2 => q3 M2 ow2 σ2 H2 ds2 n2 E2 (k.tr k2), fun M2 ow2 σ2 H2 ds2 n2 E2 k2 => q4 M2 ow2 σ2 H2 ds2 n2 E2 (k.tr k2)⟩
  | false => exact ⟨p, M, ow, E.up l1, fun M2 ow2 σ2 H2 ds2 n2 E2 k2 => q1 M2 ow2 σ2 H2 ds2 n2 E2 (k.tr k2), q2, fun M2 ow2 σ2 H2 ds2 n2 E2 k2 => q3 M2 ow2 σ2 H2 ds2 n2 E2 (k.tr k2), fun M2 ow2 σ2 H2 ds2 n2 E2 k2 => q4 M2 ow2 σ2 H2 ds2 n2 E2 (k.tr k2)⟩
/-! stores -/
theorem ds_set {i : Nat} {x : Str} {pos' : Pos} (hN : X.N.Nodup) (hi : X.N[i]? = some x) (hx : Loc X.env.scope x) (he : DE X c ds e P) (h : ∀ d, P d → po.nx (ds.set i (.val d))) (hs : swapsWith e (some (.Name x pos')) pos.line X.env = pure false := by rfl) (hf : X.fn x = true ∨ X.env.scope.names.lookup x = some .local := by first | exact .inl rfl | exact .inr rfl | assumption) :
    DS X c ds (.Assign [.Name x pos'] e pos) po := ds_of (L2.ps_set hN hi hx he hs hf) fun M ow σ H E D q1 q2 q3 q4 => ⟨M, ow, E, fun v d H' p l k => q1 _ _ _ H' _ (h d p) ((E.up l).set i k) (.of l E.ok)⟩
/-- a new object, which only this slot will know -/
def tDN (K : PySem.W.Frag) (c : Fx) (ds : List Sl) (P : Sl → Prop) : TE := fun σ H Q => ∃ M ow, Env K c M ow σ H ds ∧ ∀ p o s H', P s → Le c.z H H' → H p = none → H' p = some o → NT o → SlOk K (p :: M) H' c.H0 p (some (some (.ref p))) s → Q (.ref p) H'
def DN (X : Cx) (c : Fx) (ds : List Sl) (e : Expr) (P : Sl → Prop) : Prop := PE X e (tDN X.K c ds P)
abbrev DNV (X : Cx) (c : Fx) (ds : List Sl) (e : Expr) (s : Sl) : Prop := DN X c ds e (· = s)
theorem dn_of {P : Sl → Prop} (h : PE X e te) (i : ∀ M ow σ H, Env X.K c M ow σ H ds → ∀ Q : VK, (∀ p o s H', P s → Le c.z H H' → H p = none → H' p = some o → NT o → SlOk X.K (p :: M) H' c.H0 p (some (some (.ref p))) s → Q (.ref p) H') → te σ H Q) : DN X c ds e P :=
  ⟨fun pins s σ H Q I ⟨M, ow, E, q⟩ => h.run pins s σ H Q I (i M ow σ H E Q q)⟩
theorem DN.imp {P P' : Sl → Prop} (h : DN X c ds e P) (i : ∀ s, P s → P' s) : DN X c ds e P' := dn_of h fun M ow σ H E Q q => ⟨M, ow, E, fun p o s H' z => q p o s H' (i s z)⟩
/-- a new list of these items -/
theorem dn_new {M : List Addr} {ow : Nat → Addr} {σ : L2.St} {H H1 : Hp} {p : Addr} {vs : List V} {es : List D} (E : Env X.K c M ow σ H ds) (l : Le c.z H H1) (hp : H1 p = none) (ha : IsAll X.K (cut M H1) vs es) :
    Le c.z H (upd H1 p (.lst vs)) ∧ H p = none ∧ upd H1 p (.lst vs) p = some (.lst vs) ∧ NT (.lst vs) ∧ SlOk X.K (p :: M) (upd H1 p (.lst vs)) c.H0 p (some (some (.ref p))) (.lst es) := by
  have E1 := E.up l
  have h0 : H p = none := by
    cases e : H p with
    | none => rfl
    | some o =>
      by_cases q : p ∈ c.z
      · exact absurd hp ((l.zok E.ok.zok).num q)
      · rw [l.keep p o q e] at hp
        cases hp
  exact ⟨l.tr (.new hp), h0, upd_same, (fun xs z => by cases z), rfl, List.mem_cons_self, E.ok.none0 h0, vs, upd_same, ha.up (E1.ok.subNew (.new hp) hp)⟩
theorem dn_lst {es : List Expr} {as : List D} (ha : DL X c ds es as) (hz : as.length ≤ 1000) : DNV X c ds (.List es pos) (.lst as) :=
  dn_of (L2.pe_lst ha) fun M ow σ H E Q q => ⟨M, ow, E, fun xs bs H1 pa l1 i1 => ⟨i1.len ▸ pa ▸ small_line hz, fun p hp => by
    subst pa
    obtain ⟨h1, h2, h3, h4, h5⟩ := dn_new E l1 hp i1
    exact q _ _ _ _ rfl h1 h2 h3 h4 h5⟩⟩
theorem ds_new {i : Nat} {x : Str} {pos' : Pos} {P : Sl → Prop} (hN : X.N.Nodup) (hi : X.N[i]? = some x) (hx : Loc X.env.scope x) (he : DN X c ds e P) (h : ∀ s, P s → po.nx (ds.set i s)) (hs : swapsWith e (some (.Name x pos')) pos.line X.env = pure false := by rfl) (hf : X.fn x = true ∨ X.env.scope.names.lookup x = some .local := by first | exact .inl rfl | exact .inr rfl | assumption) :
    DS X c ds (.Assign [.Name x pos'] e pos) po := ds_of (L2.ps_set hN hi hx he hs hf) fun M ow σ H E D q1 q2 q3 q4 => ⟨M, ow, E, fun p o s H' ps l h1 h2 no sk => q1 _ _ _ H' _ (h s ps) (E.more l h1 h2 no sk)
      ⟨fun a u na e => l.keep a u (fun z => na (E.ok.zM a z)) e, fun a m => (List.mem_cons.mp m).elim (fun z => .inr (z ▸ h1)) .inl⟩⟩
/-- two names at once -/
theorem ds_par {i j : Nat} {x y : Str} {px py pt : Pos} {kt k2 pt2} (hc : X.calm = true) (hN : X.N.Nodup) (hi : X.N[i]? = some x) (hj : X.N[j]? = some y) (hij : i ≠ j)
    (hx : X.env.scope.names.lookup x = some .local) (hy : X.env.scope.names.lookup y = some .local) (ha : DE X c ds ea Pa) (hb : DE X c ds eb Pb) (h : ∀ a b, Pa a → Pb b → po.nx ((ds.set i (.val a)).set j (.val b)))
    (hw : swappedStores [.Tuple [.Name x px, .Name y py] kt pt] (.Tuple [ea, eb] k2 pt2) X.env = pure (some [x, y]) := by rfl)
    (hs : swapsWithSole [.Tuple [.Name x px, .Name y py] kt pt] (.Tuple [ea, eb] k2 pt2) pos.line X.env = pure false := by rfl)
    (h1 : starEach [ea, eb] X.env = (false, eval ea X.env) :: starEach [eb] X.env := by rfl) (h2 : starEach [eb] X.env = (false, eval eb X.env) :: starEach [] X.env := by rfl) :
    DS X c ds (.Assign [.Tuple [.Name x px, .Name y py] kt pt] (.Tuple [ea, eb] k2 pt2) pos) po :=
  ds_of (L2.ps_par hc hN hi hj hij hx hy (L2.pa_cons ha (L2.pa_cons hb L2.pa_nil h2) h1) hw hs) fun M ow σ H E D q1 q2 q3 q4 => ⟨M, ow, E, fun v a H1 pa l1 i1 => ⟨M, ow, E.up l1, fun w b H2 pb l2 i2 => ⟨v, w, rfl,
    q1 _ _ _ H2 _ (h a b pa pb) (((E.up (l1.tr l2)).set i (i1.up ((E.up l1).ok.cut l2))).set j i2) (.of (l1.tr l2) E.ok)⟩⟩⟩
/-- .. the second a new object -/
theorem ds_parN {i j : Nat} {x y : Str} {px py pt : Pos} {kt k2 pt2} {Pn : Sl → Prop} (hc : X.calm = true) (hN : X.N.Nodup) (hi : X.N[i]? = some x) (hj : X.N[j]? = some y) (hij : i ≠ j)
    (hx : X.env.scope.names.lookup x = some .local) (hy : X.env.scope.names.lookup y = some .local) (ha : DE X c ds ea Pa) (hb : DN X c ds eb Pn) (h : ∀ a b, Pa a → Pn b → po.nx ((ds.set i (.val a)).set j b))
    (hw : swappedStores [.Tuple [.Name x px, .Name y py] kt pt] (.Tuple [ea, eb] k2 pt2) X.env = pure (some [x, y]) := by rfl)
    (hs : swapsWithSole [.Tuple [.Name x px, .Name y py] kt pt] (.Tuple [ea, eb] k2 pt2) pos.line X.env = pure false := by rfl)
    (h1 : starEach [ea, eb] X.env = (false, eval ea X.env) :: starEach [eb] X.env := by rfl) (h2 : starEach [eb] X.env = (false, eval eb X.env) :: starEach [] X.env := by rfl) :
    DS X c ds (.Assign [.Tuple [.Name x px, .Name y py] kt pt] (.Tuple [ea, eb] k2 pt2) pos) po :=
  ds_of (L2.ps_par hc hN hi hj hij hx hy (L2.pa_cons ha (L2.pa_cons hb L2.pa_nil h2) h1) hw hs) fun M ow σ H E D q1 q2 q3 q4 => ⟨M, ow, E, fun v a H1 pa l1 i1 => ⟨M, ow, E.up l1, fun p o s H2 ps l2 n1 n2 no sk => ⟨v, .ref p, rfl, by
    have E1 := (E.up l1).set i i1
    exact q1 _ _ _ H2 _ (h a s pa ps) (E1.more l2 n1 n2 no sk) (Kp.tr (.of l1 E.ok) ⟨fun a u na e => l2.keep a u (fun z => na (E.ok.zM a z)) e, fun a m => (List.mem_cons.mp m).elim (fun z => .inr (z ▸ n1)) .inl⟩)⟩⟩⟩
/-- .. both -/
theorem ds_parNN {i j : Nat} {x y : Str} {px py pt : Pos} {kt k2 pt2} {Pm Pn : Sl → Prop} (hc : X.calm = true) (hN : X.N.Nodup) (hi : X.N[i]? = some x) (hj : X.N[j]? = some y) (hij : i ≠ j)
    (hx : X.env.scope.names.lookup x = some .local) (hy : X.env.scope.names.lookup y = some .local) (ha : DN X c ds ea Pm) (hb : DN X c ds eb Pn) (h : ∀ a b, Pm a → Pn b → po.nx ((ds.set i a).set j b))
    (hw : swappedStores [.Tuple [.Name x px, .Name y py] kt pt] (.Tuple [ea, eb] k2 pt2) X.env = pure (some [x, y]) := by rfl)
    (hs : swapsWithSole [.Tuple [.Name x px, .Name y py] kt pt] (.Tuple [ea, eb] k2 pt2) pos.line X.env = pure false := by rfl)
    (h1 : starEach [ea, eb] X.env = (false, eval ea X.env) :: starEach [eb] X.env := by rfl) (h2 : starEach [eb] X.env = (false, eval eb X.env) :: starEach [] X.env := by rfl) :
    DS X c ds (.Assign [.Tuple [.Name x px, .Name y py] kt pt] (.Tuple [ea, eb] k2 pt2) pos) po :=
  ds_of (L2.ps_par hc hN hi hj hij hx hy (L2.pa_cons ha (L2.pa_cons hb L2.pa_nil h2) h1) hw hs) fun M ow σ H E D q1 q2 q3 q4 => ⟨M, ow, E, fun p1 o1 s1 H1 ps1 l1 n1 n2 no1 sk1 => ⟨p1 :: M, ow, E.addM l1 n1 n2 no1, fun p o s H2 ps l2 m1 m2 no sk => ⟨.ref p1, .ref p, rfl, by
    have E1 := E.addM l1 n1 n2 no1
    have o2 : H2 p1 = some o1 := by
      by_cases q : p1 ∈ c.z
      · exact absurd (E.ok.zM _ q) (E.ok.new n1)
      · exact l2.keep _ _ q n2
    have E2 := (E1.addM l2 m1 m2 no).take (i := i) (p := p1) (s := s1) (E.notOwn (E.ok.new n1)) (sk1.stay (fun _ => ⟨o2.trans n2.symm, List.mem_cons_of_mem _ List.mem_cons_self⟩) (E1.ok.subNew l2 m1))
    have np : p ≠ p1 := fun z => by
      rw [z, n2] at m1
      cases m1
    have E3 := E2.take (i := j) (p := p) (s := s) (fun k t hk w z => by
      by_cases hki : k = i
      · have z : (if k = i then p1 else ow k) = p := z
        rw [if_pos hki] at z
        exact np z.symm
      · have z : (if k = i then p1 else ow k) = p := z
        rw [if_neg hki] at z
        rw [List.getElem?_set_ne (Ne.symm hki)] at hk
        exact E1.notOwn (E1.ok.new m1) k t hk w z) sk
    refine q1 _ _ _ H2 _ (h s1 s ps1 ps) E3 (Kp.tr ⟨fun a u na e => l1.keep a u (fun z => na (E.ok.zM a z)) e, fun a m => (List.mem_cons.mp m).elim (fun z => .inr (z ▸ n1)) .inl⟩ ⟨fun a u na e => l2.keep a u (fun z => na (E1.ok.zM a z)) e, fun a m => (List.mem_cons.mp m).elim (fun z => .inr (z ▸ m1)) .inl⟩)⟩⟩⟩
/-! own objects as values -/
theorem ds_freeze {i : Nat} {s : Sl} (h : ds[i]? = some s) (w : s.own = true) (hs : DS X c (ds.set i s.frozen) st po) : DS X c ds st po := ds_of hs fun M ow σ H E D q1 q2 q3 q4 =>
  have k : Kp M H (M.filter (· ≠ ow i)) H := ⟨fun _ _ _ e => e, fun _ m => .inl (List.mem_filter.mp m).1⟩
  ⟨_, ow, E.freeze h w, fun M2 ow2 σ2 H2 ds2 n2 E2 k2 => q1 M2 ow2 σ2 H2 ds2 n2 E2 (k.tr k2), q2, fun M2 ow2 σ2 H2 ds2 n2 E2 k2 => q3 M2 ow2 σ2 H2 ds2 n2 E2 (k.tr k2), fun M2 ow2 σ2 H2 ds2 n2 E2 k2 => q4 M2 ow2 σ2 H2 ds2 n2 E2 (k.tr k2)⟩
theorem dss_freeze {i : Nat} {s : Sl} (h : ds[i]? = some s) (w : s.own = true) (hs : DSs X c (ds.set i s.frozen) r po) : DSs X c ds r po := dss_of hs fun M ow σ H E D q1 q2 q3 q4 =>
  have k : Kp M H (M.filter (· ≠ ow i)) H := ⟨fun _ _ _ e => e, fun _ m => .inl (List.mem_filter.mp m).1⟩
  ⟨_, ow, E.freeze h w, fun M2 ow2 σ2 H2 ds2 n2 E2 k2 => q1 M2 ow2 σ2 H2 ds2 n2 E2 (k.tr k2), q2, fun M2 ow2 σ2 H2 ds2 n2 E2 k2 => q3 M2 ow2 σ2 H2 ds2 n2 E2 (k.tr k2), fun M2 ow2 σ2 H2 ds2 n2 E2 k2 => q4 M2 ow2 σ2 H2 ds2 n2 E2 (k.tr k2)⟩
/-- for the length of one expression -/
theorem de_borrow {i : Nat} {s : Sl} (h : ds[i]? = some s) (w : s.own = true) (hs : DE X c (ds.set i s.frozen) e P) (f : ∀ d, P d → d.flat = true) : DE X c ds e P := de_of hs fun M ow σ H E Q q =>
  ⟨_, ow, E.freeze h w, fun v d H' p l i => q v d H' p l (i.flat (f d p))⟩
theorem dt_borrow {i : Nat} {s : Sl} {P : Bool → Prop} (h : ds[i]? = some s) (w : s.own = true) (hs : DT X c (ds.set i s.frozen) e P) : DT X c ds e P := dt_of hs fun M ow σ H E Q q =>
  ⟨_, ow, E.freeze h w, q⟩
end
end Dt

set_option Elab.async false
set_option linter.all false
set_option maxRecDepth 100000
set_option maxHeartbeats 4000000
/-! what is walked; loops; comprehensions -/
namespace Dt
open PySem L2
/-- the iterator J yields the data es, while what may be leaned on stays -/
def Walk (K : PySem.W.Frag) (M : List Addr) (H : Hp) (J : It) (es : List D) : Prop :=
  ∀ M2 H2, Kp M H M2 H2 → (∀ a ∈ M2, ∃ o, H2 a = some o ∧ NT o) → (∀ i d, es[i]? = some d → J.go i H2 ∧ ∀ x H3, J.yld i H2 x H3 → Sub H2 H3 ∧ Is K (cut M2 H3) x d) ∧ J.stop es.length H2
def tDI (K : PySem.W.Frag) (c : Fx) (ds : List Sl) (Ps : List D → Prop) : TI := fun σ H R => ∃ M ow, Env K c M ow σ H ds ∧ ∀ J H' es, Ps es → Le c.z H H' → Walk K M H' J es → R J H'
def DI (X : Cx) (c : Fx) (ds : List Sl) (tg iter : Expr) (Ps : List D → Prop) : Prop := PI X tg iter (tDI X.K c ds Ps)
section
variable {X : Cx} {c : Fx} {ds : List Sl} {Ps : List D → Prop} {tg iter e : Expr} {wi : TI} {pos p : Pos}
theorem di_of (h : PI X tg iter wi) (i : ∀ M ow σ H, Env X.K c M ow σ H ds → ∀ R : It → Hp → Prop, (∀ J H' es, Ps es → Le c.z H H' → Walk X.K M H' J es → R J H') → wi σ H R) : DI X c ds tg iter Ps :=
  ⟨fun pins s σ H R I ⟨M, ow, E, q⟩ => h.run pins s σ H R I (i M ow σ H E R q)⟩
theorem DI.imp {P' : List D → Prop} (h : DI X c ds tg iter Ps) (i : ∀ es, Ps es → P' es) : DI X c ds tg iter P' := di_of h fun M ow σ H E R q => ⟨M, ow, E, fun J H' es p => q J H' es (i es p)⟩
theorem unL {K : PySem.W.Frag} {M : List Addr} {H : Hp} {a : Addr} {xs : List V} (h : SqL K (cut M H) a xs) : SqL K H a xs := (cut_sub (M := M) (H := H)).sqL h
theorem unT {K : PySem.W.Frag} {M : List Addr} {H : Hp} {a : Addr} {xs : List V} (h : SqT K (cut M H) a xs) : SqT K H a xs := (cut_sub (M := M) (H := H)).sqT h
theorem di_list (he : DE X c ds e fun d => ∃ es, d = .lst es ∧ Ps es) : DI X c ds tg e Ps :=
  di_of (L2.pi_list he) fun M ow σ H E R q => ⟨M, ow, E, fun v d H1 p l1 i1 => by
    obtain ⟨es, rfl, p⟩ := p
    cases i1 with
    | lst h0 a =>
      have h : SqL X.K (cut M H1) _ _ := .inl (.inl h0)
      refine ⟨_, rfl, ⟨_, (unL h)⟩, q _ H1 es p l1 fun M2 H2 k ok => ⟨fun i d hd => ?_, ⟨_, (unL (k.is.sqL h)), Nat.le_of_eq a.len⟩⟩⟩
      obtain ⟨x, ex, ix⟩ := a.at' hd
      refine ⟨⟨_, x, (unL (k.is.sqL h)), ex⟩, fun y H3 hy => ?_⟩
      obtain ⟨e3, hy⟩ := hy
      subst e3
      have z := hy _ (unL (k.is.sqL h))
      rw [ex] at z
      cases z
      exact ⟨.rfl', ix.up k.is⟩⟩
theorem di_tup (he : DE X c ds e fun d => ∃ es, d = .tup es ∧ Ps es) : DI X c ds tg e Ps :=
  di_of (L2.pi_tup he) fun M ow σ H E R q => ⟨M, ow, E, fun v d H1 p l1 i1 => by
    obtain ⟨es, rfl, p⟩ := p
    cases i1 with
    | tup h0 a =>
      have h : SqT X.K (cut M H1) _ _ := .inl (.inl h0)
      refine ⟨_, rfl, ⟨_, (unT h)⟩, q _ H1 es p l1 fun M2 H2 k ok => ⟨fun i d hd => ?_, ⟨_, (unT (k.is.sqT h)), Nat.le_of_eq a.len⟩⟩⟩
      obtain ⟨x, ex, ix⟩ := a.at' hd
      refine ⟨⟨_, x, (unT (k.is.sqT h)), ex⟩, fun y H3 hy => ?_⟩
      obtain ⟨e3, hy⟩ := hy
      subst e3
      have z := hy _ (unT (k.is.sqT h))
      rw [ex] at z
      cases z
      exact ⟨.rfl', ix.up k.is⟩⟩
def rngD (lo : Int) (n : Nat) : List D := (List.range n).map fun (i : Nat) => D.int (lo + i)
theorem walk_rng {K : PySem.W.Frag} {M : List Addr} {H : Hp} {lo : Int} {n : Nat} : Walk K M H (Itr lo n) (rngD lo n) := fun M2 H2 k ok => ⟨fun i d hd => by
  unfold rngD at hd
  rw [List.getElem?_map, Option.map_eq_some_iff] at hd
  obtain ⟨j, hj, rfl⟩ := hd
  obtain ⟨h1, h2⟩ := List.getElem?_eq_some_iff.mp hj
  rw [List.getElem_range] at h2
  subst h2
  rw [List.length_range] at h1
  refine ⟨h1, fun x H3 hy => ?_⟩
  obtain ⟨e3, rfl⟩ := hy
  subst e3
  exact ⟨.rfl', .int⟩, by
  show n ≤ (rngD lo n).length
  unfold rngD
  rw [List.length_map, List.length_range]
  exact Nat.le_refl _⟩
theorem di_range1 {a : Expr} {S : Int → Prop} (hg : Gl X "range") (hm : X.mg "range" = none) (ha : DE X c ds a fun d => ∃ j, d = .int j ∧ S j) (hb : ∀ j, S j → -(2 ^ 62) ≤ j ∧ j < 2 ^ 62) (hs : starEach [a] X.env = [(false, eval a X.env)] := by rfl) (h1 : starEach [a] X.env = (false, eval a X.env) :: starEach [] X.env := by rfl) :
    DI X c ds tg (.Call (.Name "range" p) [a] [] pos) fun es => ∃ j, S j ∧ es = rngD 0 j.toNat :=
  di_of (L2.pi_range1 hg hm (L2.pa_cons ha L2.pa_nil h1) hs) fun M ow σ H E R q => ⟨M, ow, E, fun v d H1 p l1 i1 => by
    obtain ⟨j, rfl, sj⟩ := p
    exact ⟨j, by rw [i1.int_inv], (hb j sj).1, (hb j sj).2, q _ H1 _ ⟨j, sj, rfl⟩ l1 walk_rng⟩⟩
theorem di_range2 {a b : Expr} {S : Int → Int → Prop} {Sa Sb : Int → Prop} (hg : Gl X "range") (hm : X.mg "range" = none) (ha : DE X c ds a fun d => ∃ j, d = .int j ∧ Sa j) (hb' : DE X c ds b fun d => ∃ j, d = .int j ∧ Sb j)
    (hb : ∀ i j, Sa i → Sb j → -(2 ^ 62) ≤ i ∧ i < 2 ^ 62 ∧ -(2 ^ 62) ≤ j ∧ j < 2 ^ 62) (hs : starEach [a, b] X.env = [(false, eval a X.env), (false, eval b X.env)] := by rfl) (hs2 : starEach [b] X.env = [(false, eval b X.env)] := by rfl)
    (h1 : starEach [a, b] X.env = (false, eval a X.env) :: starEach [b] X.env := by rfl) (h2 : starEach [b] X.env = (false, eval b X.env) :: starEach [] X.env := by rfl) :
    DI X c ds tg (.Call (.Name "range" p) [a, b] [] pos) fun es => ∃ i j, Sa i ∧ Sb j ∧ es = rngD i (j - i).toNat :=
  di_of (L2.pi_range2 hg hm (L2.pa_cons ha (L2.pa_cons hb' L2.pa_nil h2) h1) hs hs2) fun M ow σ H E R q => ⟨M, ow, E, fun v d H1 p l1 i1 => ⟨M, ow, E.up l1, fun v2 d2 H2 p2 l2 i2 => by
    obtain ⟨i, rfl, si⟩ := p
    obtain ⟨j, rfl, sj⟩ := p2
    exact ⟨i, j, by rw [i1.int_inv, i2.int_inv], hb i j si sj, q _ H2 _ ⟨i, j, si, sj, rfl⟩ (l1.tr l2) walk_rng⟩⟩⟩
/-- enumerate's pairs -/
def enumD : Nat → List D → List D
  | _, [] => []
  | k, d :: r => .tup [.int (k : Nat), d] :: enumD (k + 1) r
theorem enumD_len : ∀ (k : Nat) (es : List D), (enumD k es).length = es.length
  | _, [] => rfl
  | k, _ :: r => congrArg Nat.succ (enumD_len (k + 1) r)
theorem enumD_at : ∀ (k : Nat) (es : List D) (i : Nat), (enumD k es)[i]? = (es[i]?).map fun d => D.tup [.int ((k + i : Nat) : Int), d]
  | _, [], _ => by simp [enumD]
  | k, d :: r, 0 => by simp [enumD]
  | k, d :: r, i + 1 => by
    have e := enumD_at (k + 1) r i
    have z : k + 1 + i = k + (i + 1) := by omega
    rw [z] at e
    simpa [enumD] using e
theorem di_enum {elts : List Expr} {kk : Nat} {tpos : Pos} (hg : Gl X "enumerate") (hm : X.mg "enumerate" = none) (he : DE X c ds e fun d => ∃ es, d = .lst es ∧ Ps es) (hs : starEach [e] X.env = [(false, eval e X.env)] := by rfl) (h1 : starEach [e] X.env = (false, eval e X.env) :: starEach [] X.env := by rfl) :
    DI X c ds (.Tuple elts kk tpos) (.Call (.Name "enumerate" p) [e] [] pos) fun r => ∃ es, Ps es ∧ r = enumD 0 es :=
  di_of (L2.pi_enum hg hm (L2.pa_cons he L2.pa_nil h1) hs) fun M ow σ H E R q => ⟨M, ow, E, fun v d H1 p l1 i1 => by
    obtain ⟨es, rfl, p⟩ := p
    cases i1 with
    | lst h0 a =>
      have h : SqL X.K (cut M H1) _ _ := .inl (.inl h0)
      refine ⟨_, _, rfl, (unL h), q _ H1 _ ⟨es, p, rfl⟩ l1 fun M2 H2 k ok => ⟨fun i d hd => ?_, ⟨_, (unL (k.is.sqL h)), ?_⟩⟩⟩
      · rw [enumD_at, Option.map_eq_some_iff] at hd
        obtain ⟨d0, hd, rfl⟩ := hd
        obtain ⟨x, ex, ix⟩ := a.at' hd
        refine ⟨⟨_, x, (unL (k.is.sqL h)), ex⟩, fun y H3 hy => ?_⟩
        obtain ⟨T, x', rfl, hT, e3, hy⟩ := hy
        subst e3
        have z := hy _ (unL (k.is.sqL h))
        rw [ex] at z
        cases z
        have nT : T ∉ M2 := fun m => by
          obtain ⟨o, eo, _⟩ := ok T m
          rw [hT] at eo
          cases eo
        refine ⟨.new hT, .tup (cut_of upd_same nT) (.cons ?_ (.cons ?_ .nil))⟩
        · rw [Nat.zero_add]
          exact .int
        · refine ix.up (k.is.tr fun b o eb => ?_)
          obtain ⟨e1, n⟩ := cut_at eb
          exact cut_of (by rw [upd_ne (ne_of_none e1 hT)]; exact e1) n
      · rw [enumD_len]
        exact Nat.le_of_eq a.len⟩
end
/-! ### targets -/
/-- the target g puts the item d into the slots (vs are the target's) -/
def GP (K : PySem.W.Frag) (c : Fx) (g : TG) (vs : List Nat) (d : D) (ds ds' : List Sl) : Prop :=
  ∀ M ow σ H v, Env K c M ow σ H ds → Is K (cut M H) v d → ∀ Q : L2.St → Hp → Prop, (∀ σ', L2.wipe σ' vs = L2.wipe σ vs → Env K c M ow σ' H ds' → Q σ' H) → g v σ H Q
theorem wipe_set (σ : L2.St) (i : Nat) (v : Option V) : ∀ vs : List Nat, i ∈ vs → L2.wipe (σ.set i v) vs = L2.wipe σ vs
  | [], h => by cases h
  | w :: vs, h => by
    unfold L2.wipe
    by_cases hw : w = i
    · subst hw
      by_cases hv : w ∈ vs
      · rw [wipe_set σ w v vs hv]
      · have e : ∀ vs : List Nat, w ∉ vs → L2.wipe (σ.set w v) vs = (L2.wipe σ vs).set w v := fun vs => by
          induction vs with
          | nil => exact fun _ => rfl
          | cons u us ih =>
            intro n
            unfold L2.wipe
            rw [ih fun z => n (List.mem_cons_of_mem _ z), List.set_comm]
            exact fun z => n (by rw [z]; exact List.mem_cons_self)
        rw [e vs hv, List.set_set]
    · rw [wipe_set σ i v vs ((List.mem_cons.mp h).resolve_left (Ne.symm hw))]
theorem gp_name {K : PySem.W.Frag} {c : Fx} {i : Nat} {vs : List Nat} {d : D} {ds : List Sl} (h : i ∈ vs) : GP K c (gName i) vs d ds (ds.set i (.val d)) := fun M ow σ H v E iv Q q => q _ (wipe_set σ i _ vs h) (E.set i iv)
theorem gp_pair {K : PySem.W.Frag} {c : Fx} {i j : Nat} {vs : List Nat} {a b : D} {ds : List Sl} (hi : i ∈ vs) (hj : j ∈ vs) : GP K c (gTup K 2 (gCons (gName i) (gCons (gName j) gNil))) vs (.tup [a, b]) ds ((ds.set i (.val a)).set j (.val b)) := fun M ow σ H v E iv Q q => by
  cases iv with
  | tup h0 al =>
    have h : SqT K (cut M H) _ _ := .inl (.inl h0)
    cases al with
    | cons ia al =>
      cases al with
      | cons ib al =>
        cases al
        exact ⟨_, _, rfl, (unT h), rfl, _, _, rfl, _, _, rfl, rfl, q _ (by rw [wipe_set _ j _ vs hj, wipe_set _ i _ vs hi]) ((E.set i ia).set j ib)⟩
theorem gp_triple {K : PySem.W.Frag} {c : Fx} {i j k : Nat} {vs : List Nat} {a b e : D} {ds : List Sl} (hi : i ∈ vs) (hj : j ∈ vs) (hk : k ∈ vs) : GP K c (gTup K 3 (gCons (gName i) (gCons (gName j) (gCons (gName k) gNil)))) vs (.tup [a, b, e]) ds (((ds.set i (.val a)).set j (.val b)).set k (.val e)) := fun M ow σ H v E iv Q q => by
  cases iv with
  | tup h0 al =>
    have h : SqT K (cut M H) _ _ := .inl (.inl h0)
    cases al with
    | cons ia al =>
      cases al with
      | cons ib al =>
        cases al with
        | cons ie al =>
          cases al
          exact ⟨_, _, rfl, (unT h), rfl, _, _, rfl, _, _, rfl, _, _, rfl, rfl, q _ (by rw [wipe_set _ k _ vs hk, wipe_set _ j _ vs hj, wipe_set _ i _ vs hi]) (((E.set i ia).set j ib).set k ie)⟩
/-! ### comprehensions -/
/-- rs: what is made of es, item by item -/
inductive Cm (Pt : D → Bool → Prop) (Pe : D → D → Prop) : List D → List D → Prop
  | nil : Cm Pt Pe [] []
  | skip {d : D} {es rs : List D} : Pt d false → Cm Pt Pe es rs → Cm Pt Pe (d :: es) rs
  | take {d r : D} {es rs : List D} : Pt d true → Pe d r → Cm Pt Pe es rs → Cm Pt Pe (d :: es) (r :: rs)
theorem Cm.snocS {Pt : D → Bool → Prop} {Pe : D → D → Prop} {d : D} (h : Pt d false) : ∀ {es rs : List D}, Cm Pt Pe es rs → Cm Pt Pe (es ++ [d]) rs
  | _, _, .nil => .skip h .nil
  | _, _, .skip a b => .skip a (Cm.snocS h b)
  | _, _, .take a b t => .take a b (Cm.snocS h t)
theorem Cm.snocT {Pt : D → Bool → Prop} {Pe : D → D → Prop} {d r : D} (h : Pt d true) (k : Pe d r) : ∀ {es rs : List D}, Cm Pt Pe es rs → Cm Pt Pe (es ++ [d]) (rs ++ [r])
  | _, _, .nil => .take h k .nil
  | _, _, .skip a b => .skip a (Cm.snocT h k b)
  | _, _, .take a b t => .take a b (Cm.snocT h k t)
theorem Cm.len {Pt : D → Bool → Prop} {Pe : D → D → Prop} : ∀ {es rs : List D}, Cm Pt Pe es rs → rs.length ≤ es.length
  | _, _, .nil => Nat.le_refl _
  | _, _, .skip _ b => Nat.le_succ_of_le (Cm.len b)
  | _, _, .take _ _ t => Nat.succ_le_succ (Cm.len t)
theorem Cm.map {f : D → D} : ∀ {es rs : List D}, Cm (fun _ b => b = true) (fun d r => r = f d) es rs → rs = es.map f
  | _, _, .nil => rfl
  | _, _, .skip a _ => by cases a
  | _, _, .take _ b t => by rw [b, Cm.map t]; rfl
theorem Cm.filter {t : D → Bool} {f : D → D} : ∀ {es rs : List D}, Cm (fun d b => b = t d) (fun d r => r = f d) es rs → rs = (es.filter t).map f
  | _, _, .nil => rfl
  | _, _, .skip a b => by rw [List.filter_cons, ← a]; exact Cm.filter b
  | _, _, .take a b t => by rw [List.filter_cons, ← a, b, Cm.filter t]; rfl
section
variable {K : PySem.W.Frag} {c : Fx} {M : List Addr} {ow : Nat → Addr} {σ : L2.St} {H H' : Hp} {ds : List Sl}
/-- an object that no slot knows, and that may not be leaned on, is changed -/
theorem Env.writeM (E : Env K c M ow σ H ds) {p : Addr} {o : HO} (m : p ∈ M) (n : c.H0 p = none) (pl : Pl H p) (no : NT o) (nn : ∀ j t, ds[j]? = some t → t.own = true → ow j ≠ p) : Env K c M ow σ (upd H p o) ds := by
  refine ⟨⟨E.ok.le.mut n pl, E.ok.bM, fun a ma => ?_⟩, E.len, fun j t q => ?_, E.ap⟩
  · by_cases q : a = p
    · subst q
      exact ⟨o, upd_same, no⟩
    · obtain ⟨u, e, nt⟩ := E.ok.kn a ma
      exact ⟨u, by rw [upd_ne q]; exact e, nt⟩
  · refine (E.at_ j t q).stay (fun wt => ?_) (by rw [cut_upd m]; exact .rfl')
    obtain ⟨_, mt, _⟩ := own_at (E.at_ j t q) wt
    exact ⟨upd_ne (nn j t q wt), mt⟩
end
/-- a clause's tests -/
def DTs (X : Cx) (c : Fx) (ds : List Sl) (ifs : List Expr) (P : Bool → Prop) : Prop := PTs X ifs (tDT X.K c ds P)
section
variable {X : Cx} {c : Fx} {ds : List Sl}
theorem dts_nil : DTs X c ds [] (· = true) := ⟨fun pins s σ H Q I ⟨M, ow, E, q⟩ => pts_nil.run pins s σ H Q I (q true H rfl .rfl')⟩
theorem dts_one {e : Expr} {P : Bool → Prop} (h : DT X c ds e P) : DTs X c ds [e] P := pts_one h
/-- the state of a comprehension ahead of turn i -/
structure LcI (K : PySem.W.Frag) (c : Fx) (ds : List Sl) (M : List Addr) (ow : Nat → Addr) (σ : L2.St) (H1 : Hp) (D0 : Addr) (Pt : D → Bool → Prop) (Pe : D → D → Prop) (es : List D) (i : Nat) (H : Hp) : Prop where
  env : Env K c (D0 :: M) ow σ H ds
  le : Le c.z H1 H
  ex : ∃ acc rs, H D0 = some (.lst acc) ∧ IsAll K (cut (D0 :: M) H) acc rs ∧ Cm Pt Pe (es.take i) rs
theorem lc_lg {own : List (Str × Nat)} {Ps : List D → Prop} {Pt : D → Bool → Prop} {Pe : D → D → Prop} {f : D → List Sl} {g : TG} {M : List Addr} {ow : Nat → Addr} {σ : L2.St} {H : Hp} {Q : VK}
    (gp : ∀ es d, Ps es → d ∈ es → GP X.K c g (own.map (·.2)) d (wipeD ds (own.map (·.2))) (f d)) (hz : ∀ es, Ps es → es.length ≤ sizeLine) (E : Env X.K c M ow σ H ds)
    (q : ∀ v d H', (∃ es rs, d = .lst rs ∧ Ps es ∧ Cm Pt Pe es rs) → Le c.z H H' → Is X.K (cut M H') v d → Q v H') :
    L2.tLc (tDI X.K c ds Ps) g (fun σ H Q => ∃ es d, (Ps es ∧ d ∈ es) ∧ tDT X.K c (f d) (Pt d) σ H Q) (fun σ H Q => ∃ es d, (Ps es ∧ d ∈ es ∧ Pt d true) ∧ tD X.K c (f d) (Pe d) σ H Q) (own.map (·.2)) σ H Q := by
  refine ⟨M, ow, E, fun J H1 es pe l1 wk D0 hD0 => ?_⟩
  have E1 := E.up l1
  have n0 : c.H0 D0 = none := E1.ok.none0 hD0
  have nM : D0 ∉ M := E1.ok.new hD0
  refine ⟨fun i m H => m = es.length - i ∧ i ≤ es.length ∧ LcI X.K c ds M ow σ H1 D0 Pt Pe es i H, ⟨es.length, by simp, Nat.zero_le _, ⟨?_, .new hD0, [], [], upd_same, .nil, .nil⟩⟩, ?_⟩
  · exact E1.addM (.new hD0) hD0 upd_same fun xs z => by cases z
  rintro i m H2 ⟨rfl, hi, p⟩
  have kp : Kp M H1 (D0 :: M) H2 := ⟨fun a o n e => p.le.keep a o (fun z => n (E1.ok.zM a z)) e, fun a m => (List.mem_cons.mp m).elim (fun z => .inr (z ▸ hD0)) .inl⟩
  obtain ⟨w1, w2⟩ := wk _ _ kp p.env.ok.kn
  obtain ⟨acc, rs, hacc, iacc, cm⟩ := p.ex
  by_cases hlt : i < es.length
  · have hd : es[i]? = some es[i] := List.getElem?_eq_getElem hlt
    have md : es[i] ∈ es := List.getElem_mem hlt
    have tk : es.take (i + 1) = es.take i ++ [es[i]] := by rw [List.take_append_getElem]
    generalize es[i] = d at hd md tk
    obtain ⟨go, yl⟩ := w1 i d hd
    refine .inr ⟨go, LcI X.K c ds M ow σ H1 D0 Pt Pe es (i + 1), fun H' p' => ⟨es.length - (i + 1), by omega, rfl, hlt, p'⟩, fun x H3 hy => ?_⟩
    obtain ⟨sb, ix⟩ := yl x H3 hy
    have le3 : Le c.z H2 H3 := .of sb
    have E3 := p.env.up le3
    refine gp es d pe md _ ow _ H3 x (E3.wipe (own.map (·.2))) ix _ fun σ2 hw E4 => ⟨?_, ?_⟩
    · rw [hw]
      have idem : ∀ (vs ws : List Nat), (∀ v ∈ vs, v ∈ ws) → L2.wipe (L2.wipe σ vs) ws = L2.wipe σ ws := fun vs ws => by
        induction vs with
        | nil => exact fun _ => rfl
        | cons u us ih =>
          intro h
          show L2.wipe ((L2.wipe σ us).set u none) ws = _
          rw [wipe_set _ u _ ws (h u List.mem_cons_self)]
          exact ih fun v hv => h v (List.mem_cons_of_mem _ hv)
      exact idem _ _ fun _ h => h
    · refine ⟨es, d, ⟨pe, md⟩, _, ow, E4, fun b H4 pb l4 => ?_⟩
      cases b with
      | false =>
        show LcI X.K c ds M ow σ H1 D0 Pt Pe es (i + 1) H4
        have l24 : Le c.z H2 H4 := le3.tr l4
        refine ⟨p.env.up l24, p.le.tr l24, acc, rs, l24.keep _ _ (own_z n0) hacc, iacc.up (p.env.ok.cut l24), ?_⟩
        rw [tk]
        exact cm.snocS pb
      | true =>
        refine ⟨es, d, ⟨pe, md, pb⟩, _, ow, E4.up l4, fun y r H5 pr l5 iy => ?_⟩
        have l25 : Le c.z H2 H5 := (le3.tr l4).tr l5
        have h5 : H5 D0 = some (.lst acc) := l25.keep _ _ (own_z n0) hacc
        have l0 : rs.length ≤ i := Nat.le_trans cm.len (by rw [List.length_take]; exact Nat.min_le_left _ _)
        refine ⟨acc, h5, ?_, ?_⟩
        · have := hz es pe
          rw [iacc.len]
          omega
        · refine ⟨(p.env.up l25).writeM List.mem_cons_self n0 (.at h5 rfl) (fun xs z => by cases z) (E.notOwn nM), (p.le.tr l25).mut hD0 (.at h5 rfl), acc ++ [y], rs ++ [r], upd_same, ?_, ?_⟩
          · rw [cut_upd List.mem_cons_self]
            exact (iacc.up (p.env.ok.cut l25)).app (.cons iy .nil)
          · rw [tk]
            exact cm.snocT pb pr
  · have e : i = es.length := by omega
    subst e
    refine .inl ⟨w2, q (.ref D0) (.lst rs) H2 ⟨es, rs, rfl, pe, ?_⟩ (l1.tr p.le) (.lst (cut_of hacc nM) (iacc.up (cut_less fun a m => List.mem_cons_of_mem _ m)))⟩
    rw [List.take_length] at cm
    exact cm
theorem de_lc {elt tg iter : Expr} {ifs : List Expr} {scope : Scope} {own : List (Str × Nat)} {pos : Pos} {Ps : List D → Prop} {Pt : D → Bool → Prop} {Pe : D → D → Prop} {f : D → List Sl} {g : TG}
    (hc : X.calm = true) (hN : X.N.Nodup) (hi : DI X c ds tg iter Ps) (ok : BlkOk X.N X.env.scope scope own)
    (hg : ∀ (s : Shared) (H : Hp) (C : Addr) (cl : List (Str × Addr)) (fp : List Addr), PG (X.blk s H scope (compEnvC scope cl C X.env) fp) tg g)
    (gp : ∀ es d, Ps es → d ∈ es → GP X.K c g (own.map (·.2)) d (wipeD ds (own.map (·.2))) (f d))
    (ht : ∀ es d, Ps es → d ∈ es → ∀ (s : Shared) (H : Hp) (C : Addr) (cl : List (Str × Addr)) (fp : List Addr), DTs (X.blk s H scope (compEnvC scope cl C X.env) fp) c (f d) ifs (Pt d))
    (he : ∀ es d, Ps es → d ∈ es → Pt d true → ∀ (s : Shared) (H : Hp) (C : Addr) (cl : List (Str × Addr)) (fp : List Addr), DE (X.blk s H scope (compEnvC scope cl C X.env) fp) c (f d) elt (Pe d))
    (hz : ∀ es, Ps es → es.length ≤ sizeLine) (hs : ∀ x, foldedSetIterable iter X.env x = pure x := by intro _; rfl) :
    DE X c ds (.ListComp elt [⟨tg, iter, ifs, 0⟩] scope pos) fun r => ∃ es rs, r = .lst rs ∧ Ps es ∧ Cm Pt Pe es rs := by
  have ht' : ∀ (s : Shared) (H : Hp) (C : Addr) (cl : List (Str × Addr)) (fp : List Addr), PTs (X.blk s H scope (compEnvC scope cl C X.env) fp) ifs (fun σ H Q => ∃ es d, (Ps es ∧ d ∈ es) ∧ tDT X.K c (f d) (Pt d) σ H Q) :=
    fun s H C cl fp => ⟨fun pins s2 σ H2 Q I ⟨es, d, ⟨z, m⟩, h⟩ => (ht es d z m s H C cl fp).run pins s2 σ H2 Q I h⟩
  have he' : ∀ (s : Shared) (H : Hp) (C : Addr) (cl : List (Str × Addr)) (fp : List Addr), PE (X.blk s H scope (compEnvC scope cl C X.env) fp) elt (fun σ H Q => ∃ es d, (Ps es ∧ d ∈ es ∧ Pt d true) ∧ tD X.K c (f d) (Pe d) σ H Q) :=
    fun s H C cl fp => ⟨fun pins s2 σ H2 Q I ⟨es, d, ⟨z, m, t⟩, h⟩ => (he es d z m t s H C cl fp).run pins s2 σ H2 Q I h⟩
  exact de_of (L2.pe_lc hc hN hi ok hg ht' he' hs) fun M ow σ H E Q q => lc_lg gp hz E q
/-- name = [..] on one line, the name a local -/
theorem ds_setLc {po : Po} {i : Nat} {y : Str} {py spos : Pos} {elt tg iter : Expr} {ifs : List Expr} {scope : Scope} {own : List (Str × Nat)} {pos : Pos} {Ps : List D → Prop} {Pt : D → Bool → Prop} {Pe : D → D → Prop} {f : D → List Sl} {g : TG}
    (hc : X.calm = true) (hN : X.N.Nodup) (hy : X.N[i]? = some y) (hyl : X.env.scope.names.lookup y = some .local) (hsw : swapsWith (.ListComp elt [⟨tg, iter, ifs, 0⟩] scope pos) (some (.Name y py)) spos.line X.env = pure true) (hi : DI X c ds tg iter Ps) (ok : BlkOk X.N X.env.scope scope own)
    (hg : ∀ (s : Shared) (H : Hp) (C : Addr) (cl : List (Str × Addr)) (fp : List Addr), PG (X.blk s H scope (compEnvC scope cl C X.env) fp) tg g)
    (gp : ∀ es d, Ps es → d ∈ es → GP X.K c g (own.map (·.2)) d (wipeD ds (own.map (·.2))) (f d))
    (ht : ∀ es d, Ps es → d ∈ es → ∀ (s : Shared) (H : Hp) (C : Addr) (cl : List (Str × Addr)) (fp : List Addr), DTs (X.blk s H scope (compEnvC scope cl C X.env) fp) c (f d) ifs (Pt d))
    (he : ∀ es d, Ps es → d ∈ es → Pt d true → ∀ (s : Shared) (H : Hp) (C : Addr) (cl : List (Str × Addr)) (fp : List Addr), DE (X.blk s H scope (compEnvC scope cl C X.env) fp) c (f d) elt (Pe d))
    (hz : ∀ es, Ps es → es.length ≤ sizeLine) (h : ∀ es rs, Ps es → Cm Pt Pe es rs → po.nx (ds.set i (.val (.lst rs)))) (hs : ∀ x, foldedSetIterable iter X.env x = pure x := by intro _; rfl) :
    DS X c ds (.Assign [.Name y py] (.ListComp elt [⟨tg, iter, ifs, 0⟩] scope pos) spos) po := by
  have ht' : ∀ (s : Shared) (H : Hp) (C : Addr) (cl : List (Str × Addr)) (fp : List Addr), PTs (X.blk s H scope (compEnvC scope cl C X.env) fp) ifs (fun σ H Q => ∃ es d, (Ps es ∧ d ∈ es) ∧ tDT X.K c (f d) (Pt d) σ H Q) :=
    fun s H C cl fp => ⟨fun pins s2 σ H2 Q I ⟨es, d, ⟨z, m⟩, h⟩ => (ht es d z m s H C cl fp).run pins s2 σ H2 Q I h⟩
  have he' : ∀ (s : Shared) (H : Hp) (C : Addr) (cl : List (Str × Addr)) (fp : List Addr), PE (X.blk s H scope (compEnvC scope cl C X.env) fp) elt (fun σ H Q => ∃ es d, (Ps es ∧ d ∈ es ∧ Pt d true) ∧ tD X.K c (f d) (Pe d) σ H Q) :=
    fun s H C cl fp => ⟨fun pins s2 σ H2 Q I ⟨es, d, ⟨z, m, t⟩, h⟩ => (he es d z m t s H C cl fp).run pins s2 σ H2 Q I h⟩
  exact ds_of (L2.ps_setLc hc hN hy hyl hsw hi ok hg ht' he' hs) fun M ow σ H E D q1 q2 q3 q4 => lc_lg gp hz E fun v d H' ⟨es, rs, e, p, cm⟩ l k => by
    subst e
    exact q1 _ _ _ H' _ (h es rs p cm) ((E.up l).set i k) (.of l E.ok)
/-- no test, each item's answer known -/
theorem dv_map {elt tg iter : Expr} {scope : Scope} {own : List (Str × Nat)} {pos : Pos} {es : List D} {r : D → D} {f : D → List Sl} {g : TG}
    (hc : X.calm = true) (hN : X.N.Nodup) (hi : DI X c ds tg iter (· = es)) (ok : BlkOk X.N X.env.scope scope own)
    (hg : ∀ (s : Shared) (H : Hp) (C : Addr) (cl : List (Str × Addr)) (fp : List Addr), PG (X.blk s H scope (compEnvC scope cl C X.env) fp) tg g)
    (gp : ∀ d, d ∈ es → GP X.K c g (own.map (·.2)) d (wipeD ds (own.map (·.2))) (f d))
    (he : ∀ d, d ∈ es → ∀ (s : Shared) (H : Hp) (C : Addr) (cl : List (Str × Addr)) (fp : List Addr), DV (X.blk s H scope (compEnvC scope cl C X.env) fp) c (f d) elt (r d))
    (hz : es.length ≤ sizeLine) (hs : ∀ x, foldedSetIterable iter X.env x = pure x := by intro _; rfl) : DV X c ds (.ListComp elt [⟨tg, iter, [], 0⟩] scope pos) (.lst (es.map r)) :=
  (de_lc (Pt := fun _ b => b = true) (Pe := fun d x => x = r d) hc hN hi ok hg (fun _ d e m => gp d (e ▸ m)) (fun _ d e m s H C cl fp => dts_nil) (fun _ d e m _ s H C cl fp => he d (e ▸ m) s H C cl fp) (fun _ e => by subst e; exact hz) hs).imp fun x ⟨es', rs, e1, e2, cm⟩ => by
    subst e2
    rw [e1, cm.map]
theorem dv_filter {elt tg iter ec : Expr} {scope : Scope} {own : List (Str × Nat)} {pos : Pos} {es : List D} {t : D → Bool} {r : D → D} {f : D → List Sl} {g : TG}
    (hc : X.calm = true) (hN : X.N.Nodup) (hi : DI X c ds tg iter (· = es)) (ok : BlkOk X.N X.env.scope scope own)
    (hg : ∀ (s : Shared) (H : Hp) (C : Addr) (cl : List (Str × Addr)) (fp : List Addr), PG (X.blk s H scope (compEnvC scope cl C X.env) fp) tg g)
    (gp : ∀ d, d ∈ es → GP X.K c g (own.map (·.2)) d (wipeD ds (own.map (·.2))) (f d))
    (ht : ∀ d, d ∈ es → ∀ (s : Shared) (H : Hp) (C : Addr) (cl : List (Str × Addr)) (fp : List Addr), DB (X.blk s H scope (compEnvC scope cl C X.env) fp) c (f d) ec (t d))
    (he : ∀ d, d ∈ es → t d = true → ∀ (s : Shared) (H : Hp) (C : Addr) (cl : List (Str × Addr)) (fp : List Addr), DV (X.blk s H scope (compEnvC scope cl C X.env) fp) c (f d) elt (r d))
    (hz : es.length ≤ sizeLine) (hs : ∀ x, foldedSetIterable iter X.env x = pure x := by intro _; rfl) : DV X c ds (.ListComp elt [⟨tg, iter, [ec], 0⟩] scope pos) (.lst ((es.filter t).map r)) :=
  (de_lc (Pt := fun d b => b = t d) (Pe := fun d x => x = r d) hc hN hi ok hg (fun _ d e m => gp d (e ▸ m)) (fun _ d e m s H C cl fp => dts_one (ht d (e ▸ m) s H C cl fp)) (fun _ d e m z s H C cl fp => he d (e ▸ m) z.symm s H C cl fp) (fun _ e => by subst e; exact hz) hs).imp fun x ⟨es', rs, e1, e2, cm⟩ => by
    subst e2
    rw [e1, cm.filter]
/-! ### loops -/
theorem ds_for {iter tg : Expr} {body : List Stmt} {pos : Pos} {Ps : List D → Prop} {g : TG} {po : Po} {f : D → List Sl → List Sl} (I : List D → Nat → List Sl → Prop)
    (hp : PassesOwn (model X.prog X.w) X.A X.env X.xe) (hc : X.calm = true) (hi : DI X c ds tg iter Ps) (hg : PG X tg g) (vs : List Nat)
    (gp : ∀ es d ds', Ps es → d ∈ es → GP X.K c g vs d ds' (f d ds'))
    (h0 : ∀ es, Ps es → I es 0 ds)
    (hb : ∀ es i d ds', Ps es → es[i]? = some d → I es i ds' → DSs X c (f d ds') body ⟨I es (i + 1), po.rt, po.nx, I es (i + 1)⟩)
    (hd : ∀ es ds', Ps es → I es es.length ds' → po.nx ds') (hs : ∀ x, foldedSetIterable iter X.env x = pure x := by intro _; rfl) : DS X c ds (.For tg iter body [] pos) po := by
  have hb' : PSs X body fun D σ H => ∃ es i d ds', (Ps es ∧ es[i]? = some d ∧ I es i ds') ∧ tDS X.K c (f d ds') ⟨I es (i + 1), po.rt, po.nx, I es (i + 1)⟩ D σ H :=
    ⟨fun pins s σ H D I ⟨es, i, d, ds', ⟨p1, p2, p3⟩, h⟩ => (hb es i d ds' p1 p2 p3).run pins s σ H D I h⟩
  refine ds_of (L2.ps_for hp hc hi hg hb' hs) fun M ow σ H E D q1 q2 q3 q4 => ⟨M, ow, E, fun J H1 es pe l1 wk => ?_⟩
  refine ⟨fun i m σ' H' => m = es.length - i ∧ i ≤ es.length ∧ ∃ M' ow' ds', Env X.K c M' ow' σ' H' ds' ∧ I es i ds' ∧ Kp M H1 M' H', ⟨es.length, by simp, Nat.zero_le _, M, ow, ds, E.up l1, h0 es pe, .rfl'⟩, ?_⟩
  rintro i m σ' H' ⟨rfl, hle, M', ow', ds', E', pI, kp⟩
  obtain ⟨w1, w2⟩ := wk _ _ kp E'.ok.kn
  by_cases hlt : i < es.length
  · have hd' : es[i]? = some es[i] := List.getElem?_eq_getElem hlt
    have md : es[i] ∈ es := List.getElem_mem hlt
    generalize es[i] = d at hd' md
    obtain ⟨go, yl⟩ := w1 i d hd'
    refine .inr ⟨go, fun σ2 H2 => i + 1 ≤ es.length ∧ ∃ M' ow' ds', Env X.K c M' ow' σ2 H2 ds' ∧ I es (i + 1) ds' ∧ Kp M H1 M' H2, fun σ2 H2 p' => ⟨es.length - (i + 1), by omega, rfl, p'.1, p'.2⟩, fun x H3 hy => ?_⟩
    obtain ⟨sb, ix⟩ := yl x H3 hy
    have le3 : Le c.z H' H3 := .of sb
    have k3 : Kp M H1 M' H3 := kp.tr (.of le3 E'.ok)
    refine gp es d ds' pe md M' ow' σ' H3 x (E'.up le3) ix _ fun σ2 hw E4 => ⟨es, i, d, ds', ⟨pe, hd', pI⟩, M', ow', E4, ?_, q2, ?_, ?_⟩
    · exact fun M5 ow5 σ5 H5 ds5 n5 E5 k5 => ⟨hlt, M5, ow5, ds5, E5, n5, k3.tr k5⟩
    · exact fun M5 ow5 σ5 H5 ds5 n5 E5 k5 => q1 M5 ow5 σ5 H5 ds5 n5 E5 (.tr (.of l1 E.ok) (k3.tr k5))
    · exact fun M5 ow5 σ5 H5 ds5 n5 E5 k5 => ⟨hlt, M5, ow5, ds5, E5, n5, k3.tr k5⟩
  · have e : i = es.length := by omega
    subst e
    exact .inl ⟨w2, q1 _ _ _ _ _ (hd es ds' pe pI) E' (.tr (.of l1 E.ok) kp)⟩
theorem ds_while {ec : Expr} {body : List Stmt} {pos : Pos} {po : Po} (I : Nat → List Sl → Prop) (Pt : Nat → List Sl → Bool → Prop) (hp : PassesOwn (model X.prog X.w) X.A X.env X.xe)
    (h0 : ∃ n, I n ds) (ht : ∀ n ds', I n ds' → DT X c ds' ec (Pt n ds'))
    (hb : ∀ n ds', I n ds' → Pt n ds' true → DSs X c ds' body ⟨fun ds2 => ∃ m, m < n ∧ I m ds2, po.rt, po.nx, fun ds2 => ∃ m, m < n ∧ I m ds2⟩)
    (hd : ∀ n ds', I n ds' → Pt n ds' false → po.nx ds') : DS X c ds (.While ec body [] pos) po := by
  have ht' : PT X ec fun σ H Q => ∃ n ds', I n ds' ∧ tDT X.K c ds' (Pt n ds') σ H Q := ⟨fun pins s σ H Q J ⟨n, ds', p, h⟩ => (ht n ds' p).run pins s σ H Q J h⟩
  have hb' : PSs X body fun D σ H => ∃ n ds', (I n ds' ∧ Pt n ds' true) ∧ tDS X.K c ds' ⟨fun ds2 => ∃ m, m < n ∧ I m ds2, po.rt, po.nx, fun ds2 => ∃ m, m < n ∧ I m ds2⟩ D σ H :=
    ⟨fun pins s σ H D J ⟨n, ds', ⟨p1, p2⟩, h⟩ => (hb n ds' p1 p2).run pins s σ H D J h⟩
  refine ds_of (L2.ps_while hp ht' hb') fun M ow σ H E D q1 q2 q3 q4 => ?_
  obtain ⟨n0, i0⟩ := h0
  refine ⟨fun n σ' H' => ∃ M' ow' ds', Env X.K c M' ow' σ' H' ds' ∧ I n ds' ∧ Kp M H M' H', ⟨n0, M, ow, ds, E, i0, .rfl'⟩, ?_⟩
  rintro n σ' H' ⟨M', ow', ds', E', pI, kp⟩
  refine ⟨n, ds', pI, M', ow', E', fun b H2 pb l2 => ?_⟩
  have k2 : Kp M H M' H2 := kp.tr (.of l2 E'.ok)
  cases b with
  | false => exact q1 _ _ _ _ _ (hd n ds' pI pb) (E'.up l2) k2
  | true =>
    refine ⟨fun σ2 H2 => ∃ m, m < n ∧ ∃ M' ow' ds', Env X.K c M' ow' σ2 H2 ds' ∧ I m ds' ∧ Kp M H M' H2, fun σ2 H2 p => p, n, ds', ⟨pI, pb⟩, M', ow', E'.up l2, ?_, q2, ?_, ?_⟩
    · exact fun M5 ow5 σ5 H5 ds5 ⟨m, hm, n5⟩ E5 k5 => ⟨m, hm, M5, ow5, ds5, E5, n5, k2.tr k5⟩
    · exact fun M5 ow5 σ5 H5 ds5 n5 E5 k5 => q1 M5 ow5 σ5 H5 ds5 n5 E5 (k2.tr k5)
    · exact fun M5 ow5 σ5 H5 ds5 ⟨m, hm, n5⟩ E5 k5 => ⟨m, hm, M5, ow5, ds5, E5, n5, k2.tr k5⟩
end
end Dt

set_option Elab.async false
set_option linter.all false
set_option maxRecDepth 100000
set_option maxHeartbeats 4000000
/-! promises, calls, defs; what is raised; own objects' methods -/
namespace Dt
open PySem PyProof.Rows L2
/-- the dice of a call: the first argument's, or none -/
def zOf : Bool → List D → List Addr
  | true, .adr a :: _ => [a]
  | _, _ => []
/-- a promise in data: pre of the arguments; post of them and the answer; xs of them and an exception's class -/
def spT (K : PySem.W.Frag) (T : List (Addr × Str)) (dice : Bool) (pre : List D → Prop) (post : List D → D → Prop) (xs : List D → Value → Prop) : Sp := fun vs H Q E => ∃ (c : Fx) (as : List D), c.H0 = H ∧ ((∀ a ∈ zOf dice as, c.Di a) ∧ c.z.tb = T) ∧ pre as ∧ IsAll K (cut c.B H) vs as ∧
  (∀ v d H', post as d → Le c.z H H' → Is K (cut c.B H') v d → Q v H') ∧ (∀ cls H', xs as cls → Le c.z H H' → E cls none H')
/-- .. of a def that makes no lambda -/
abbrev spD (K : PySem.W.Frag) (dice : Bool) (pre : List D → Prop) (post : List D → D → Prop) (xs : List D → Value → Prop) : Sp := spT K [] dice pre post xs
def noX : List D → Value → Prop := fun _ _ => False
/-- nothing leaves -/
def EF : XK := fun _ _ _ => False
theorem passF {X : Cx} : Passes (L2.CX X.prog X.w) X EF := fun _ _ _ _ _ _ _ h => by
  obtain ⟨_, _, _, _, _, _, _, _, _, _, _, _, z⟩ := h
  exact z.elim
/-- a def that may be called by its name -/
structure Cl (P : Program) (w : World) (K : PySem.W.Frag) (mg : Str → Option Value) (base : Heap) (k : Nat) (x : Str) (sp : Sp) (dvs : List V) : Prop where
  ex : ∃ (f : Addr) (fd : FuncData) (ps : List Str) (dd : List Value), FnOk P w K mg base (L2.CX P w) k f fd ps sp ∧ mg x = some (.ref f) ∧ PySem.W.keepIn K (.ref f) = true ∧ Binds K fd ps dd ∧ Vals dvs dd
/-- a class that may be made by its name; sp: its __init__ -/
structure Mkr (P : Program) (w : World) (K : PySem.W.Frag) (mg : Str → Option Value) (base : Heap) (k : Nat) (x : Str) (C : Addr) (sp : Sp) (dvs : List V) : Prop where
  ex : ∃ (f : Addr) (fd : FuncData) (ps : List Str) (dd : List Value), L2.Mk K C f ∧ FnOk P w K mg base (L2.CX P w) k f fd ps sp ∧ mg x = some (.ref C) ∧ Binds K fd ps dd ∧ Vals dvs dd
/-- a method of the class at C -/
structure Mtd (P : Program) (w : World) (K : PySem.W.Frag) (mg : Str → Option Value) (base : Heap) (k : Nat) (C : Addr) (m : Str) (sp : Sp) : Prop where
  ex : ∃ (f : Addr) (fd : FuncData) (ps : List Str), L2.Cls K C ∧ L2.Meth K C m f ∧ FnOk P w K mg base (L2.CX P w) k f fd ps sp ∧ Binds K fd ps []
section
variable {X : Cx} {c : Fx} {ds : List Sl} {P : D → Prop} {e : Expr} {es : List Expr} {pos p : Pos} {x m : Str} {dice : Bool} {pre : List D → Prop} {post : List D → D → Prop} {xs : List D → Value → Prop} {dvs : List V} {das : List D} {j k : Nat} {E : XK} {Pa : List D → Prop}
/-- what a call of such a promise needs and gives, in data -/
theorem spD_of {K : PySem.W.Frag} {M : List Addr} {H : Hp} {vs : List V} {as : List D} {Q : VK} (ok : Ok c M H) (ia : IsAll K (cut M H) vs as) {T : List (Addr × Str)} (hp : pre as) (hz : ∀ a ∈ zOf dice as, c.Di a)
    (q : ∀ v d H', post as d → Le c.z H H' → Is K (cut M H') v d → Q v H') (hE : ∀ cls H', xs as cls → Le c.z c.H0 H' → E cls none H') (hT : T = [] ∨ T = c.z.tb := by exact .inl rfl) : spT K T dice pre post xs vs H Q E := by
  have k : Zok ⟨zOf dice as, T⟩ H := ⟨fun a m => ok.dice (hz a m), fun p m => by
    rcases hT with e | e
    · have m : p ∈ T := m
      rw [e] at m
      cases m
    · exact ok.tabs p (by rw [← e]; exact m)⟩
  refine ⟨ok.fx ⟨zOf dice as, T⟩ (fun a m => ?_) k, as, rfl, ⟨fun a m => m, rfl⟩, hp, ia, fun v d H' pd l i => q v d H' pd (l.up hz hT k) i, fun cls H' h l => hE cls H' h (ok.le.tr (l.up hz hT k))⟩
  rcases m with m | m
  · exact .inl (hz a m)
  · rcases hT with e | e
    · have m : a ∈ T.map (·.1) := m
      rw [e] at m
      cases m
    · exact .inr (by rw [← e]; exact m)
theorem de_call (C : Cl X.prog X.w X.K X.mg X.base k x (spD X.K dice pre post xs) dvs) (hd : ∀ H, IsAll X.K H dvs das) (hr : Room j X.A) (hk : k ≤ j) (hg : Gl X x) (hx : Passes (L2.CX X.prog X.w) X E) (ha : DA X c ds (e :: es) Pa)
    (hp : ∀ as, Pa as → pre (as ++ das)) (hz : ∀ as, Pa as → ∀ a ∈ zOf dice (as ++ das), c.Di a) (hq : ∀ as d, Pa as → post (as ++ das) d → P d) (hE : ∀ as cls H', Pa as → xs (as ++ das) cls → Le c.z c.H0 H' → E cls none H')
    (hdb : (x == ("__debug__" : Str)) = false := by decide) (he : starEach (e :: es) X.env = (false, eval e X.env) :: starEach es X.env := by rfl) (hpl : (backTo pos (starEach es X.env)).any (·.1) = false := by rfl) :
    DE X c ds (.Call (.Name x p) (e :: es) [] pos) P := by
  obtain ⟨f, fd, ps, dd, F, hm, kp, b, d⟩ := C.ex
  exact de_of (L2.pe_call F (hr.mono hk) hg hm kp b d hx ha hdb he hpl) fun M ow σ H E Q q => ⟨M, ow, E, fun vs as H1 pa l1 i1 =>
    spD_of (E.up l1).ok (i1.app (hd _)) (hp as pa) (hz as pa) (fun v d H' pd l i => q v d H' (hq as d pa pd) (l1.tr l) i) fun cls H' h l => hE as cls H' pa h l⟩
theorem de_call0 (C : Cl X.prog X.w X.K X.mg X.base k x (spD X.K dice pre post xs) dvs) (hd : ∀ H, IsAll X.K H dvs das) (hr : Room j X.A) (hk : k ≤ j) (hg : Gl X x) (hx : Passes (L2.CX X.prog X.w) X E)
    (hp : pre das) (hz : ∀ a ∈ zOf dice das, c.Di a) (hq : ∀ d, post das d → P d) (hE : ∀ cls H', xs das cls → Le c.z c.H0 H' → E cls none H') (hdb : (x == ("__debug__" : Str)) = false := by decide) :
    DE X c ds (.Call (.Name x p) [] [] pos) P := by
  obtain ⟨f, fd, ps, dd, F, hm, kp, b, d⟩ := C.ex
  exact de_of (L2.pe_call0 F (hr.mono hk) hg hm kp b d hx hdb) fun M ow σ H E Q q => spD_of E.ok (hd _) hp hz (fun v d H' pd l i => q v d H' (hq d pd) l i) hE
/-- a pure def's call, all known -/
theorem dv_call {as : List D} (C : Cl X.prog X.w X.K X.mg X.base k x (spD X.K false pre post noX) []) (hr : Room j X.A) (hk : k ≤ j) (hg : Gl X x) (ha : DL X c ds (e :: es) as) (hp : pre as) (hq : ∀ d, post as d → P d)
    (hdb : (x == ("__debug__" : Str)) = false := by decide) (he : starEach (e :: es) X.env = (false, eval e X.env) :: starEach es X.env := by rfl) (hpl : (backTo pos (starEach es X.env)).any (·.1) = false := by rfl) :
    DE X c ds (.Call (.Name x p) (e :: es) [] pos) P :=
  de_call (das := []) C (fun _ => .nil) hr hk hg passF ha (fun _ e => by subst e; rw [List.append_nil]; exact hp) (fun as _ a h => by cases h) (fun _ d e => by subst e; rw [List.append_nil]; exact hq d) (fun _ _ _ _ z => z.elim) hdb he hpl
/-- a def's call with dice -/
theorem dv_callZ {as : List D} {a : Addr} (hc : c.Di a) (C : Cl X.prog X.w X.K X.mg X.base k x (spD X.K true pre post noX) []) (hr : Room j X.A) (hk : k ≤ j) (hg : Gl X x) (ha : DL X c ds (e :: es) (.adr a :: as)) (hp : pre (.adr a :: as)) (hq : ∀ d, post (.adr a :: as) d → P d)
    (hdb : (x == ("__debug__" : Str)) = false := by decide) (he : starEach (e :: es) X.env = (false, eval e X.env) :: starEach es X.env := by rfl) (hpl : (backTo pos (starEach es X.env)).any (·.1) = false := by rfl) :
    DE X c ds (.Call (.Name x p) (e :: es) [] pos) P :=
  de_call (das := []) C (fun _ => .nil) hr hk hg passF ha (fun _ e => by subst e; rw [List.append_nil]; exact hp) (fun as e b h => by
    subst e
    rw [List.append_nil] at h
    have : b = a := by simpa [zOf] using h
    rw [this]
    exact hc) (fun _ d e => by subst e; rw [List.append_nil]; exact hq d) (fun _ _ _ _ z => z.elim) hdb he hpl
/-- .. whose arguments are drawn too -/
theorem de_callZ {a : Addr} (hc : c.Di a) (C : Cl X.prog X.w X.K X.mg X.base k x (spD X.K true pre post noX) []) (hr : Room j X.A) (hk : k ≤ j) (hg : Gl X x) (ha : DA X c ds (e :: es) Pa) (h1 : ∀ as, Pa as → ∃ r, as = .adr a :: r) (hp : ∀ as, Pa as → pre as) (hq : ∀ as d, Pa as → post as d → P d)
    (hdb : (x == ("__debug__" : Str)) = false := by decide) (he : starEach (e :: es) X.env = (false, eval e X.env) :: starEach es X.env := by rfl) (hpl : (backTo pos (starEach es X.env)).any (·.1) = false := by rfl) :
    DE X c ds (.Call (.Name x p) (e :: es) [] pos) P :=
  de_call (das := []) C (fun _ => .nil) hr hk hg passF ha (fun as pa => by rw [List.append_nil]; exact hp as pa) (fun as pa b h => by
    obtain ⟨r, rfl⟩ := h1 as pa
    rw [List.append_nil] at h
    have : b = a := by simpa [zOf] using h
    rw [this]
    exact hc) (fun as d pa => by rw [List.append_nil]; exact hq as d pa) (fun _ _ _ _ z => z.elim) hdb he hpl
/-! a method of an own class -/
theorem de_meth {C : Addr} {ns : List Str} {os : List D} {o : Expr} {apos : Pos} {pl : Sem Bool} (T : Mtd X.prog X.w X.K X.mg X.base k C m (spD X.K dice pre post xs)) (hr : Room j X.A) (hk : k ≤ j) (hx : Passes (L2.CX X.prog X.w) X E)
    (ho : DV X c ds o (.obj C ns os)) (hl : ∀ vs : List V, (ns.zip vs).lookup m = none) (ha : DA X c ds (e :: es) Pa)
    (hp : ∀ as, Pa as → pre (.obj C ns os :: as)) (hz : dice = false) (hq : ∀ as d, Pa as → post (.obj C ns os :: as) d → P d) (hE : ∀ as cls H', Pa as → xs (.obj C ns os :: as) cls → Le c.z c.H0 H' → E cls none H')
    (hst : starEach (e :: es) X.env = (false, eval e X.env) :: starEach es X.env := by rfl) (hpl : (backTo pos (starEach es X.env)).any (·.1) = false := by rfl)
    (ht : eval (.Call (.Attribute o m apos) (e :: es) [] pos) X.env = (do
      let ov ← eval o X.env
      standAt apos.atName
      let (f, first) ← holding [ov] (getMethod ov m pl)
      callWith pos f first (backTo pos (starEach (e :: es) X.env)) (backToKw pos (keywordEach [] X.env))) := by rfl) : DE X c ds (.Call (.Attribute o m apos) (e :: es) [] pos) P := by
  obtain ⟨f, fd, ps, cl, me, F, b⟩ := T.ex
  refine de_of (L2.pe_meth (pl := pl) ho cl me F (hr.mono hk) b .nil hx ha hst hpl ht) fun M ow σ H E Q q => ⟨M, ow, E, fun v d H1 pd l1 i1 => ?_⟩
  subst pd
  cases i1 with
  | obj h1 hn ia =>
    refine ⟨_, _, _, rfl, (cut_at h1).1, hl _, M, ow, E.up l1, fun vs as H2 pa l2 i2 => ?_⟩
    show spD X.K dice pre post xs (V.ref _ :: (vs ++ [])) H2 Q _
    rw [List.append_nil]
    exact spD_of (E.up (l1.tr l2)).ok (.cons ((Is.obj h1 hn ia).up ((E.up l1).ok.cut l2)) i2) (hp as pa) (by subst hz; exact fun a h => by cases h) (fun v d H' pd l i => q v d H' (hq as d pa pd) ((l1.tr l2).tr l) i) fun cls H' h l => hE as cls H' pa h l
theorem de_meth0 {C : Addr} {ns : List Str} {os : List D} {o : Expr} {apos : Pos} {pl : Sem Bool} (T : Mtd X.prog X.w X.K X.mg X.base k C m (spD X.K dice pre post xs)) (hr : Room j X.A) (hk : k ≤ j) (hx : Passes (L2.CX X.prog X.w) X E)
    (ho : DV X c ds o (.obj C ns os)) (hl : ∀ vs : List V, (ns.zip vs).lookup m = none)
    (hp : pre [.obj C ns os]) (hz : dice = false) (hq : ∀ d, post [.obj C ns os] d → P d) (hE : ∀ cls H', xs [.obj C ns os] cls → Le c.z c.H0 H' → E cls none H')
    (ht : eval (.Call (.Attribute o m apos) [] [] pos) X.env = (do
      let ov ← eval o X.env
      standAt apos.atName
      let (f, first) ← holding [ov] (getMethod ov m pl)
      callWith pos f first (backTo pos (starEach [] X.env)) (backToKw pos (keywordEach [] X.env))) := by rfl) : DE X c ds (.Call (.Attribute o m apos) [] [] pos) P := by
  obtain ⟨f, fd, ps, cl, me, F, b⟩ := T.ex
  refine de_of (L2.pe_meth0 (pl := pl) ho cl me F (hr.mono hk) b .nil hx ht) fun M ow σ H E Q q => ⟨M, ow, E, fun v d H1 pd l1 i1 => ?_⟩
  subst pd
  cases i1 with
  | obj h1 hn ia =>
    refine ⟨_, _, _, rfl, (cut_at h1).1, hl _, ?_⟩
    exact spD_of (E.up l1).ok (.cons (.obj h1 hn ia) .nil) hp (by subst hz; exact fun a h => by cases h) (fun v d H' pd l i => q v d H' (hq d pd) (l1.tr l) i) hE
/-- a property -/
theorem de_prop {C : Addr} {ns : List Str} {os : List D} {f : Str} {p g : Addr} {fd : FuncData} {ps : List Str} (cl : L2.Cls X.K C) (hp' : PropOf X.K C f p g) (F : FnOk X.prog X.w X.K X.mg X.base (L2.CX X.prog X.w) k g fd ps (spD X.K false pre post noX)) (hr : Room j X.A) (hk : k + 1 ≤ j) (b : Binds X.K fd ps [])
    (ho : DV X c ds e (.obj C ns os)) (hp : pre [.obj C ns os]) (hq : ∀ d, post [.obj C ns os] d → P d) (hb : attributeBase e f X.env (eval e X.env) = eval e X.env := by rfl) : DE X c ds (.Attribute e f pos) P :=
  de_of (L2.pe_prop ho cl hp' F (hr.mono hk) b .nil (E := EF) passF hb) fun M ow σ H E Q q => ⟨M, ow, E, fun v d H1 pd l1 i1 => by
    subst pd
    cases i1 with
    | obj h1 hn ia =>
      exact ⟨_, _, _, rfl, (cut_at h1).1, spD_of (E.up l1).ok (.cons (.obj h1 hn ia) .nil) hp (fun a h => by cases h) (fun v d H' pd l i => q v d H' (hq d pd) (l1.tr l) i) fun _ _ z => z.elim⟩⟩
end
/-! ### defs -/
def startD (N : List Str) (as : List D) : List Sl := as.map .val ++ List.replicate (N.length - as.length) .no
theorem env_start {K : PySem.W.Frag} {c : Fx} {N : List Str} {vs : List V} {as : List D} (h : IsAll K (cut c.B c.H0) vs as) : Env K c c.B (fun _ => 0) (L2.start N vs) c.H0 (startD N as) := by
  refine ⟨c.ok, ?_, fun i s e => ?_, fun i j s t e1 e2 w1 w2 _ => ?_⟩
  · unfold L2.start startD
    simp [h.len]
  · unfold startD at e
    by_cases hi : i < as.length
    · rw [List.getElem?_append_left (by simpa using hi), List.getElem?_map, Option.map_eq_some_iff] at e
      obtain ⟨d, hd, rfl⟩ := e
      obtain ⟨v, hv, iv⟩ := h.at' hd
      refine ⟨v, ?_, iv⟩
      unfold L2.start
      rw [List.getElem?_append_left (by rw [List.length_map, h.len]; exact hi), List.getElem?_map, hv]
      rfl
    · rw [List.getElem?_append_right (by simpa using hi), List.getElem?_replicate] at e
      split at e
      · cases e
        trivial
      · cases e
  · have no : ∀ (i : Nat) (s : Sl), (startD N as)[i]? = some s → s.own = false := fun i s e => by
      unfold startD at e
      by_cases hi : i < as.length
      · rw [List.getElem?_append_left (by simpa using hi), List.getElem?_map, Option.map_eq_some_iff] at e
        obtain ⟨d, hd, rfl⟩ := e
        rfl
      · rw [List.getElem?_append_right (by simpa using hi), List.getElem?_replicate] at e
        split at e
        · cases e
          rfl
        · cases e
    rw [no i s e1] at w1
    cases w1
section
variable {P : Program} {w : World} {K : PySem.W.Frag} {mg : Str → Option Value} {base : Heap} {x qual : Str} {params : Arguments} {body : List Stmt} {scope : Scope} {dvs : List V} {kws : List (Str × V)} {f : Addr} {fd : FuncData}
variable {N ps : List Str} {k : Nat} {dice : Bool} {pre : List D → Prop} {post : List D → D → Prop} {xs : List D → Value → Prop}
theorem body_of {X : Cx} {c : Fx} {as : List D} {vs : List V} {Q : VK} (hX : X.K = K) (h : DSs X c (startD N as) body ⟨fun _ => post as .non, post as, fun _ => False, fun _ => False⟩) (ia : IsAll K (cut c.B c.H0) vs as) (q : ∀ v d H', post as d → Le c.z c.H0 H' → Is K (cut c.B H') v d → Q v H') :
    ∃ t, PSs X body t ∧ t { nx := fun _ H' => Q .non H', rt := Q } (L2.start N vs) c.H0 := by
  subst hX
  exact ⟨_, h, c.B, _, env_start ia, fun M' ow' σ' H' ds' n E' k => q .non .non H' n E'.ok.le .non, q, fun _ _ _ _ _ z => z.elim, fun _ _ _ _ _ z => z.elim⟩
/-- a def from which nothing leaves -/
theorem fn_d (F : FunD K x qual params body scope dvs kws f fd) (S : FnScope N ps scope) (hl : ∀ as, pre as → as.length = ps.length)
    (hb : ∀ (c : Fx) (as : List D) (cdv : Value) (A : Around) (outer : List PySem.Env) (s : Shared) (E : XK), Room k (A.deeper (envOfC qual scope s.heap.objs.size f cdv)) → pre as → (∀ a ∈ zOf dice as, c.Di a) →
      DSs (cxOf (L2.CX P w) P w K mg base N qual scope f cdv A outer s c.H0 E).nox c (startD N as) body ⟨fun _ => post as .non, post as, fun _ => False, fun _ => False⟩) :
    FnOk P w K mg base (L2.CX P w) (k + 1) f fd ps (spD K dice pre post xs) := by
  refine F.ok S (fun vs H Q E h => ?_) fun cdv A outer s H vs Q E hr h => ?_
  · obtain ⟨c, as, _, _, hp, ia, _⟩ := h
    rw [ia.len, hl as hp]
  · obtain ⟨c, as, rfl, ⟨hz, _⟩, hp, ia, q, _⟩ := h
    obtain ⟨t, h1, h2⟩ := body_of (K := K) rfl (hb c as cdv A outer s E hr hp hz) ia q
    exact ⟨t, h1.nox, h2⟩
/-- a def that may raise -/
theorem fn_dX (F : FunD K x qual params body scope dvs kws f fd) (S : FnScope N ps scope) (hl : ∀ as, pre as → as.length = ps.length)
    (hb : ∀ (c : Fx) (as : List D) (cdv : Value) (A : Around) (outer : List PySem.Env) (s : Shared) (E : XK), Room k (A.deeper (envOfC qual scope s.heap.objs.size f cdv)) → pre as → (∀ a ∈ zOf dice as, c.Di a) → (∀ cls H', xs as cls → Le c.z c.H0 H' → E cls none H') →
      DSs (cxOf (L2.CX P w) P w K mg base N qual scope f cdv A outer s c.H0 E) c (startD N as) body ⟨fun _ => post as .non, post as, fun _ => False, fun _ => False⟩) :
    FnOk P w K mg base (L2.CX P w) (k + 1) f fd ps (spD K dice pre post xs) := by
  refine F.ok S (fun vs H Q E h => ?_) fun cdv A outer s H vs Q E hr h => ?_
  · obtain ⟨c, as, _, _, hp, ia, _⟩ := h
    rw [ia.len, hl as hp]
  · obtain ⟨c, as, rfl, ⟨hz, _⟩, hp, ia, q, qx⟩ := h
    exact body_of (K := K) rfl (hb c as cdv A outer s E hr hp hz qx) ia q
end
/-! ### raise -/
section
variable {X : Cx} {c : Fx} {ds : List Sl} {P Pa : D → Prop} {e : Expr} {pos p : Pos} {po : Po} {st : Stmt}
theorem ds_raise {W : WX} {C : Value} (hc : X.calm = true) (tk : L2.Takes X W) (pm : L2.PMk X e fun _ H Q => Q C none H) (h : ∀ σ H', Le c.z c.H0 H' → W C none σ H') : DS X c ds (.Raise (some e) none pos) po :=
  ds_of (L2.ps_raise hc tk pm) fun M ow σ H E D q1 q2 q3 q4 => h σ H E.ok.le
/-! ### own lists -/
theorem at_own {K : PySem.W.Frag} {M : List Addr} {ow : Nat → Addr} {σ : L2.St} {H : Hp} {i : Nat} {es : List D} (E : Env K c M ow σ H ds) (h : ds[i]? = some (.lst es)) : σ[i]? = some (some (.ref (ow i))) ∧ ow i ∈ M ∧ c.H0 (ow i) = none ∧ ∃ vs, H (ow i) = some (.lst vs) ∧ IsAll K (cut M H) vs es := E.at_ i _ h
theorem Env.lset {K : PySem.W.Frag} {M : List Addr} {ow : Nat → Addr} {σ : L2.St} {H : Hp} {i : Nat} {es es' : List D} {vs' : List V} (E : Env K c M ow σ H ds) (h : ds[i]? = some (.lst es)) (ia : IsAll K (cut M H) vs' es') : Env K c M ow σ (upd H (ow i) (.lst vs')) (ds.set i (.lst es')) := by
  obtain ⟨e1, m, n, vs, hv, _⟩ := at_own E h
  exact E.write h rfl (fun xs z => by cases z) ⟨rfl, m, n, vs', upd_same, by rw [cut_upd m]; exact ia⟩
theorem kp_own {K : PySem.W.Frag} {M : List Addr} {ow : Nat → Addr} {σ : L2.St} {H H1 : Hp} {p : Addr} {o : HO} (E : Env K c M ow σ H ds) (l : Le c.z H H1) (m : p ∈ M) : Kp M H M (upd H1 p o) :=
  ⟨fun a u n e => by
    rw [upd_ne fun z => n (by rw [z]; exact m)]
    exact l.keep a u (fun z => n (E.ok.zM a z)) e, fun _ m => .inl m⟩
/-- found.append(e) -/
theorem ds_append {i : Nat} {x : Str} {es : List D} {pn apos cpos : Pos} (hN : X.N[i]? = some x) (hv : L2.Vis X.env.scope x) (h : ds[i]? = some (.lst es)) (ha : DE X c ds e P) (hz : es.length < sizeLine) (hq : ∀ d, P d → po.nx (ds.set i (.lst (es ++ [d]))))
    (hbase : attributeBase (.Name x pn) "append" X.env (eval (.Name x pn) X.env) = eval (.Name x pn) X.env := by rfl)
    (hfew : ((backTo cpos (starEach [e] X.env)).all (fun x => !x.1) && (backToKw cpos (keywordEach [] X.env)).all (fun x => x.1.isSome) && decide (([e] : List Expr).length + ([] : List Keyword).length + (if ([] : List Keyword).isEmpty then 0 else 1) < 30)) = true := by rfl)
    (hline : (apos.endLine == cpos.line) = true := by rfl) (hs : starEach [e] X.env = (false, eval e X.env) :: starEach [] X.env := by rfl) (hplain : (backTo cpos (starEach [] X.env)).any (·.1) = false := by rfl)
    (hsw : swapsWith (.Call (.Attribute (.Name x pn) "append" apos) [e] [] cpos) none pos.line X.env = pure false := by rfl) (hd : (x == ("__debug__" : Str)) = false := by decide) (hcd : (x == ("__classdict__" : Str)) = false := by decide) :
    DS X c ds (.Expr (.Call (.Attribute (.Name x pn) "append" apos) [e] [] cpos) pos) po :=
  ds_of (L2.ps_expr (L2.pe_bm PySem.F.plainAttrs_list PySem.F.slot_list_append PySem.F.type_list_append L2.mt_append (L2.pe_var (i := i) hN hv hd hcd) (L2.pa_cons ha L2.pa_nil hs) hbase hfew hline hs hplain) hsw) fun M ow σ H E D q1 q2 q3 q4 => by
    obtain ⟨e1, m, n, vs, hl, ia⟩ := at_own E h
    refine ⟨_, e1, .inl ⟨rfl, vs, .inl (.inl hl)⟩, M, ow, E, fun v d H1 pd l1 i1 => ?_⟩
    have hl1 : H1 (ow i) = some (.lst vs) := l1.keep _ _ (own_z n) hl
    refine ⟨_, vs, v, rfl, rfl, hl1, by rw [ia.len]; exact hz, q1 _ _ _ _ _ (hq d pd) ((E.up l1).lset h ((ia.up (E.ok.cut l1)).app (.cons i1 .nil))) (kp_own E l1 m)⟩
/-- found.extend(e), e a list -/
theorem ds_extend {i : Nat} {x : Str} {es : List D} {pn apos cpos : Pos} {Pn : Sl → Prop} (hN : X.N[i]? = some x) (hv : L2.Vis X.env.scope x) (h : ds[i]? = some (.lst es)) (ha : DN X c ds e Pn) (hz : ∀ s, Pn s → ∃ rs, s = .lst rs ∧ es.length + rs.length ≤ sizeLine) (hq : ∀ rs, Pn (.lst rs) → po.nx (ds.set i (.lst (es ++ rs))))
    (hbase : attributeBase (.Name x pn) "extend" X.env (eval (.Name x pn) X.env) = eval (.Name x pn) X.env := by rfl)
    (hfew : ((backTo cpos (starEach [e] X.env)).all (fun x => !x.1) && (backToKw cpos (keywordEach [] X.env)).all (fun x => x.1.isSome) && decide (([e] : List Expr).length + ([] : List Keyword).length + (if ([] : List Keyword).isEmpty then 0 else 1) < 30)) = true := by rfl)
    (hline : (apos.endLine == cpos.line) = true := by rfl) (hs : starEach [e] X.env = (false, eval e X.env) :: starEach [] X.env := by rfl) (hplain : (backTo cpos (starEach [] X.env)).any (·.1) = false := by rfl)
    (hsw : swapsWith (.Call (.Attribute (.Name x pn) "extend" apos) [e] [] cpos) none pos.line X.env = pure false := by rfl) (hd : (x == ("__debug__" : Str)) = false := by decide) (hcd : (x == ("__classdict__" : Str)) = false := by decide) :
    DS X c ds (.Expr (.Call (.Attribute (.Name x pn) "extend" apos) [e] [] cpos) pos) po :=
  ds_of (L2.ps_expr (L2.pe_bm PySem.F.plainAttrs_list PySem.F.slot_list_extend PySem.F.type_list_extend L2.mt_extend (L2.pe_var (i := i) hN hv hd hcd) (L2.pa_cons ha L2.pa_nil hs) hbase hfew hline hs hplain) hsw) fun M ow σ H E D q1 q2 q3 q4 => by
    obtain ⟨e1, m, n, vs, hl, ia⟩ := at_own E h
    refine ⟨_, e1, .inl ⟨rfl, vs, .inl (.inl hl)⟩, M, ow, E, fun p o s H1 ps l1 n1 n2 no sk => ?_⟩
    obtain ⟨rs, rfl, hz⟩ := hz s ps
    obtain ⟨_, mp, _, us, hp, iu⟩ := sk
    have hl1 : H1 (ow i) = some (.lst vs) := l1.keep _ _ (own_z n) hl
    have iu' : IsAll X.K (cut M H1) us rs := iu.up (cut_less fun a m => List.mem_cons_of_mem _ m)
    refine ⟨_, _, vs, us, rfl, rfl, hl1, hp, by rw [ia.len, iu.len]; exact hz, q1 _ _ _ _ _ (hq rs ps) ((E.up l1).lset h ((ia.up (E.ok.cut l1)).app iu')) (kp_own E l1 m)⟩
end
end Dt

set_option Elab.async false
set_option linter.all false
set_option maxRecDepth 100000
set_option maxHeartbeats 4000000
/-! operators and builtins, in data -/
namespace Dt
open PySem PyProof.Rows L2
section
variable {X : Cx} {c : Fx} {a b d : D} {P : D → Prop} {f : Value → Value → Sem Value} {as : List D}
theorem opd_of {r : R2} (h : OpR X f r) (i : ∀ M H x y, Ok c M H → Is X.K (cut M H) x a → Is X.K (cut M H) y b → ∀ Q : VK, (∀ v d H', P d → Le c.z H H' → Is X.K (cut M H') v d → Q v H') → r x y H Q) : OpD X f c a b P :=
  fun pins s σ H x y v u Q I rx ry ⟨M, ok, i1, i2, q⟩ => h pins s σ H x y v u Q I rx ry (i M H x y ok i1 i2 Q q)
theorem und_of {f : Value → Sem Value} {r : V → Hp → VK → Prop} (h : UnR X f r) (i : ∀ M H x, Ok c M H → Is X.K (cut M H) x a → ∀ Q : VK, (∀ v d H', P d → Le c.z H H' → Is X.K (cut M H') v d → Q v H') → r x H Q) : UnD X f c a P :=
  fun pins s σ H x v Q I rx ⟨M, ok, i1, q⟩ => h pins s σ H x v Q I rx (i M H x ok i1 Q q)
theorem cad_of {f : Value} {r : List V → Hp → VK → Prop} (h : CallR X f r) (i : ∀ M H xs, Ok c M H → IsAll X.K (cut M H) xs as → ∀ Q : VK, (∀ v d H', P d → Le c.z H H' → Is X.K (cut M H') v d → Q v H') → r xs H Q) : CallD X f c as P :=
  fun pins s σ H xs us Q I r ⟨M, ok, i1, q⟩ => h pins s σ H xs us Q I r (i M H xs ok i1 Q q)
theorem ixd_of {r : R2} (h : IxR X r) (i : ∀ M H x y, Ok c M H → Is X.K (cut M H) x a → Is X.K (cut M H) y b → ∀ Q : VK, (∀ v d H', P d → Le c.z H H' → Is X.K (cut M H') v d → Q v H') → r x y H Q) : IxD X c a b P :=
  fun ve se pins s σ H x y v u Q I rx ry ⟨M, ok, i1, i2, q⟩ hs => h ve se pins s σ H x y v u Q I rx ry (i M H x y ok i1 i2 Q q) hs
theorem mtd_of {id : String} {r : V → List V → Hp → VK → Prop} (h : MtR X id r) (i : ∀ M H x xs, Ok c M H → Is X.K (cut M H) x a → IsAll X.K (cut M H) xs as → ∀ Q : VK, (∀ v d H', P d → Le c.z H H' → Is X.K (cut M H') v d → Q v H') → r x xs H Q) : MtD X id c a as P :=
  fun pins s σ H x xs v us Q I rx rs ⟨M, ok, i1, i2, q⟩ => h pins s σ H x xs v us Q I rx rs (i M H x xs ok i1 i2 Q q)
theorem sld_of {lo hi : Option Int} {r : V → Option Int → Option Int → Hp → VK → Prop} (h : SlR X r) (i : ∀ M H x, Ok c M H → Is X.K (cut M H) x a → ∀ Q : VK, (∀ v d H', P d → Le c.z H H' → Is X.K (cut M H') v d → Q v H') → r x lo hi H Q) : SlD X c a lo hi P :=
  fun pins s σ H x v vl vu l u sl Q I rx hs p1 p2 ⟨M, ok, i1, e1, e2, q⟩ => h pins s σ H x v vl vu l u sl Q I rx hs p1 p2 (by subst e1 e2; exact i M H x ok i1 Q q)
theorem OpD.imp {P' : D → Prop} (h : OpD X f c a b P) (i : ∀ d, P d → P' d) : OpD X f c a b P' := opd_of h fun M H x y ok i1 i2 Q q => ⟨M, ok, i1, i2, fun v d H' p => q v d H' (i d p)⟩
theorem CallD.imp {f : Value} {P' : D → Prop} (h : CallD X f c as P) (i : ∀ d, P d → P' d) : CallD X f c as P' := cad_of h fun M H xs ok i1 Q q => ⟨M, ok, i1, fun v d H' p => q v d H' (i d p)⟩
/-! ints -/
theorem o_add {i j : Int} : OpD X (binaryOp .Add) c (.int i) (.int j) (· = .int (i + j)) := opd_of op_add fun M H x y ok i1 i2 Q q => ⟨i, j, i1.int_inv, i2.int_inv, q _ _ H rfl .rfl' .int⟩
theorem o_sub {i j : Int} : OpD X (binaryOp .Sub) c (.int i) (.int j) (· = .int (i - j)) := opd_of op_sub fun M H x y ok i1 i2 Q q => ⟨i, j, i1.int_inv, i2.int_inv, q _ _ H rfl .rfl' .int⟩
theorem o_mul {i j : Int} (h : CMulW i j) : OpD X (binaryOp .Mult) c (.int i) (.int j) (· = .int (i * j)) := opd_of op_mulW fun M H x y ok i1 i2 Q q => ⟨i, j, i1.int_inv, i2.int_inv, h, q _ _ H rfl .rfl' .int⟩
theorem o_mod {i j : Int} (h : 0 < j) : OpD X (binaryOp .Mod) c (.int i) (.int j) (· = .int (i % j)) := opd_of op_mod fun M H x y ok i1 i2 Q q => ⟨i, j, i1.int_inv, i2.int_inv, h, q _ _ H rfl .rfl' .int⟩
theorem o_div {i j : Int} (h : CDivW i j) : OpD X (binaryOp .FloorDiv) c (.int i) (.int j) (· = .int (i / j)) := opd_of op_fdivW fun M H x y ok i1 i2 Q q => ⟨i, j, i1.int_inv, i2.int_inv, h, q _ _ H rfl .rfl' .int⟩
theorem o_pow {i j : Int} (h : CPow i j) : OpD X (binaryOp .Pow) c (.int i) (.int j) (· = .int (i ^ j.toNat)) := opd_of op_pow fun M H x y ok i1 i2 Q q => ⟨i, j, i1.int_inv, i2.int_inv, h, q _ _ H rfl .rfl' .int⟩
theorem o_lt {i j : Int} : OpD X (compareOp .Lt) c (.int i) (.int j) (· = .bl (decide (i < j))) := opd_of op_lt fun M H x y ok i1 i2 Q q => ⟨i, j, i1.int_inv, i2.int_inv, q _ _ H rfl .rfl' .bl⟩
theorem o_le {i j : Int} : OpD X (compareOp .LtE) c (.int i) (.int j) (· = .bl (decide (i ≤ j))) := opd_of op_le fun M H x y ok i1 i2 Q q => ⟨i, j, i1.int_inv, i2.int_inv, q _ _ H rfl .rfl' .bl⟩
theorem o_gt {i j : Int} : OpD X (compareOp .Gt) c (.int i) (.int j) (· = .bl (decide (j < i))) := opd_of op_gt fun M H x y ok i1 i2 Q q => ⟨i, j, i1.int_inv, i2.int_inv, q _ _ H rfl .rfl' .bl⟩
theorem o_ge {i j : Int} : OpD X (compareOp .GtE) c (.int i) (.int j) (· = .bl (decide (j ≤ i))) := opd_of op_ge fun M H x y ok i1 i2 Q q => ⟨i, j, i1.int_inv, i2.int_inv, q _ _ H rfl .rfl' .bl⟩
theorem o_eqI {i j : Int} : OpD X (compareOp .Eq) c (.int i) (.int j) (· = .bl (decide (i = j))) := opd_of op_eq fun M H x y ok i1 i2 Q q => by
  rw [i1.int_inv, i2.int_inv]
  refine ⟨rfl, q _ _ H rfl .rfl' ?_⟩
  rw [show decide (V.int i = V.int j) = decide (i = j) by simp]
  exact .bl
theorem o_neI {i j : Int} : OpD X (compareOp .NotEq) c (.int i) (.int j) (· = .bl (!decide (i = j))) := opd_of op_ne fun M H x y ok i1 i2 Q q => by
  rw [i1.int_inv, i2.int_inv]
  refine ⟨rfl, q _ _ H rfl .rfl' ?_⟩
  rw [show decide (V.int i = V.int j) = decide (i = j) by simp]
  exact .bl
theorem o_eqB {i j : Bool} : OpD X (compareOp .Eq) c (.bl i) (.bl j) (· = .bl (decide (i = j))) := opd_of op_eq fun M H x y ok i1 i2 Q q => by
  rw [i1.bl_inv, i2.bl_inv]
  refine ⟨rfl, q _ _ H rfl .rfl' ?_⟩
  rw [show decide (V.bl i = V.bl j) = decide (i = j) by simp]
  exact .bl
theorem o_neB {i j : Bool} : OpD X (compareOp .NotEq) c (.bl i) (.bl j) (· = .bl (!decide (i = j))) := opd_of op_ne fun M H x y ok i1 i2 Q q => by
  rw [i1.bl_inv, i2.bl_inv]
  refine ⟨rfl, q _ _ H rfl .rfl' ?_⟩
  rw [show decide (V.bl i = V.bl j) = decide (i = j) by simp]
  exact .bl
theorem o_eqS {i j : Str} : OpD X (compareOp .Eq) c (.str i) (.str j) (· = .bl (decide (i = j))) := opd_of op_eq fun M H x y ok i1 i2 Q q => by
  rw [i1.str_inv, i2.str_inv]
  refine ⟨rfl, q _ _ H rfl .rfl' ?_⟩
  rw [show decide (V.str i = V.str j) = decide (i = j) by simp]
  exact .bl
theorem o_neS {i j : Str} : OpD X (compareOp .NotEq) c (.str i) (.str j) (· = .bl (!decide (i = j))) := opd_of op_ne fun M H x y ok i1 i2 Q q => by
  rw [i1.str_inv, i2.str_inv]
  refine ⟨rfl, q _ _ H rfl .rfl' ?_⟩
  rw [show decide (V.str i = V.str j) = decide (i = j) by simp]
  exact .bl
theorem o_isB {i j : Bool} : OpD X (compareOp .Is) c (.bl i) (.bl j) (· = .bl (decide (i = j))) := opd_of op_is_bl fun M H x y ok i1 i2 Q q => ⟨i, j, i1.bl_inv, i2.bl_inv, q _ _ H rfl .rfl' .bl⟩
def D.isN : D → Bool
  | .non => true
  | _ => false
theorem Is.isN {K : PySem.W.Frag} {H : Hp} {v : V} {d : D} (h : Is K H v d) : decide (v = .non) = d.isN := by
  cases h <;> simp [D.isN]
theorem o_isN : OpD X (compareOp .Is) c a .non (· = .bl a.isN) := opd_of op_isN fun M H x y ok i1 i2 Q q => ⟨i2.non_inv, by rw [i1.isN]; exact q _ _ H rfl .rfl' .bl⟩
theorem o_notN : OpD X (compareOp .IsNot) c a .non (· = .bl (!a.isN)) := opd_of op_notN fun M H x y ok i1 i2 Q q => ⟨i2.non_inv, by rw [i1.isN]; exact q _ _ H rfl .rfl' .bl⟩
theorem u_neg {i : Int} : UnD X (unaryOp .USub) c (.int i) (· = .int (-i)) := und_of un_neg fun M H x ok i1 Q q => ⟨i, i1.int_inv, q _ _ H rfl .rfl' .int⟩
/-! texts -/
theorem o_addS {i j : Str} (h : i.length + j.length ≤ sizeLine) : OpD X (binaryOp .Add) c (.str i) (.str j) (· = .str (i ++ j)) := opd_of op_add_str fun M H x y ok i1 i2 Q q => ⟨i, j, i1.str_inv, i2.str_inv, h, q _ _ H rfl .rfl' .str⟩
theorem c_strI {i : Int} (h : i.natAbs.log2 < 1920) : CallD X (.type "str") c [.int i] (· = .str (toString i)) := cad_of call_str_int fun M H xs ok i1 Q q => by
  cases i1 with
  | cons h1 t =>
    cases t
    exact ⟨i, by rw [h1.int_inv], h, q _ _ H rfl .rfl' .str⟩
theorem c_intI {i : Int} : CallD X (.type "int") c [.int i] (· = .int i) := cad_of call_int1 fun M H xs ok i1 Q q => by
  cases i1 with
  | cons h1 t =>
    cases t
    exact .inl ⟨i, by rw [h1.int_inv], q _ _ H rfl .rfl' .int⟩
theorem c_intB {i : Bool} : CallD X (.type "int") c [.bl i] (· = .int (if i then 1 else 0)) := cad_of call_int1 fun M H xs ok i1 Q q => by
  cases i1 with
  | cons h1 t =>
    cases t
    exact .inr ⟨i, by rw [h1.bl_inv], q _ _ H rfl .rfl' .int⟩
theorem c_abs {i : Int} : CallD X (.builtin "abs") c [.int i] (· = .int (if i < 0 then -i else i)) := cad_of call_abs fun M H xs ok i1 Q q => by
  cases i1 with
  | cons h1 t =>
    cases t
    exact ⟨i, by rw [h1.int_inv], q _ _ H rfl .rfl' .int⟩
theorem c_max2 {i j : Int} (hc : X.calm = true) : CallD X (.builtin "max") c [.int i, .int j] (· = .int (if j > i then j else i)) := cad_of (call_max2 hc) fun M H xs ok i1 Q q => by
  cases i1 with
  | cons h1 t =>
    cases t with
    | cons h2 t =>
      cases t
      exact ⟨i, j, by rw [h1.int_inv, h2.int_inv], q _ _ H rfl .rfl' .int⟩
theorem c_min2 {i j : Int} (hc : X.calm = true) : CallD X (.builtin "min") c [.int i, .int j] (· = .int (if j < i then j else i)) := cad_of (call_min2 hc) fun M H xs ok i1 Q q => by
  cases i1 with
  | cons h1 t =>
    cases t with
    | cons h2 t =>
      cases t
      exact ⟨i, j, by rw [h1.int_inv, h2.int_inv], q _ _ H rfl .rfl' .int⟩
/-! lists and tuples -/
theorem Is.lst_inv {K : PySem.W.Frag} {H : Hp} {v : V} {ds : List D} (h : Is K H v (.lst ds)) : ∃ p xs, v = .ref p ∧ H p = some (.lst xs) ∧ IsAll K H xs ds := by
  cases h with
  | lst h a => exact ⟨_, _, rfl, h, a⟩
theorem Is.tup_inv {K : PySem.W.Frag} {H : Hp} {v : V} {ds : List D} (h : Is K H v (.tup ds)) : ∃ p xs, v = .ref p ∧ H p = some (.tup xs) ∧ IsAll K H xs ds := by
  cases h with
  | tup h a => exact ⟨_, _, rfl, h, a⟩
theorem IsAll.one {K : PySem.W.Frag} {H : Hp} {vs : List V} {d : D} (h : IsAll K H vs [d]) : ∃ v, vs = [v] ∧ Is K H v d := by
  cases h with
  | cons h t =>
    cases t
    exact ⟨_, rfl, h⟩
theorem IsAll.two {K : PySem.W.Frag} {H : Hp} {vs : List V} {d e : D} (h : IsAll K H vs [d, e]) : ∃ v w, vs = [v, w] ∧ Is K H v d ∧ Is K H w e := by
  cases h with
  | cons h t =>
    cases t with
    | cons h2 t =>
      cases t
      exact ⟨_, _, rfl, h, h2⟩
theorem c_lenL {ds : List D} : CallD X (.builtin "len") c [.lst ds] (· = .int ds.length) := cad_of call_len_seq fun M H xs ok i1 Q q => by
  obtain ⟨v, rfl, h⟩ := i1.one
  obtain ⟨p, ys, rfl, hp, ia⟩ := h.lst_inv
  exact ⟨p, ys, rfl, .inl (.inl (.inl (cut_at hp).1)), by rw [ia.len]; exact q _ _ H rfl .rfl' .int⟩
theorem c_lenT {ds : List D} : CallD X (.builtin "len") c [.tup ds] (· = .int ds.length) := cad_of call_len_seq fun M H xs ok i1 Q q => by
  obtain ⟨v, rfl, h⟩ := i1.one
  obtain ⟨p, ys, rfl, hp, ia⟩ := h.tup_inv
  exact ⟨p, ys, rfl, .inr ((.inl (.inl (cut_at hp).1))), by rw [ia.len]; exact q _ _ H rfl .rfl' .int⟩
theorem c_lenR {ns : List Int} : CallD X (.builtin "len") c [.scr ns] (· = .int ns.length) := cad_of call_len_seq fun M H xs ok i1 Q q => by
  obtain ⟨v, rfl, h⟩ := i1.one
  cases h with
  | scr h => exact ⟨_, _, rfl, .inl (unL h), by rw [List.length_map]; exact q _ _ H rfl .rfl' .int⟩
theorem n_list {M : List Addr} {H : Hp} {p : Addr} {xs : List V} {ds : List D} (ok : Ok c M H) (h : IsAll X.K (cut M H) xs ds) (hp : H p = none) : Is X.K (cut M (upd H p (.lst xs))) (.ref p) (.lst ds) := .lst (ok.at_new hp) (h.up (ok.cutNew hp))
theorem n_tup {M : List Addr} {H : Hp} {p : Addr} {xs : List V} {ds : List D} (ok : Ok c M H) (h : IsAll X.K (cut M H) xs ds) (hp : H p = none) : Is X.K (cut M (upd H p (.tup xs))) (.ref p) (.tup ds) := .tup (ok.at_new hp) (h.up (ok.cutNew hp))
theorem c_listL {ds : List D} : CallD X (.type "list") c [.lst ds] (· = .lst ds) := cad_of call_list_of fun M H xs ok i1 Q q => by
  obtain ⟨v, rfl, h⟩ := i1.one
  obtain ⟨p, ys, rfl, hp, ia⟩ := h.lst_inv
  exact ⟨p, ys, rfl, .inl (.inl (.inl (cut_at hp).1)), fun l hl => q _ _ _ rfl (.new hl) (n_list ok ia hl)⟩
theorem c_listT {ds : List D} : CallD X (.type "list") c [.tup ds] (· = .lst ds) := cad_of call_list_of fun M H xs ok i1 Q q => by
  obtain ⟨v, rfl, h⟩ := i1.one
  obtain ⟨p, ys, rfl, hp, ia⟩ := h.tup_inv
  exact ⟨p, ys, rfl, .inr ((.inl (.inl (cut_at hp).1))), fun l hl => q _ _ _ rfl (.new hl) (n_list ok ia hl)⟩
theorem c_tupL {ds : List D} : CallD X (.type "tuple") c [.lst ds] (· = .tup ds) := cad_of call_tuple_of fun M H xs ok i1 Q q => by
  obtain ⟨v, rfl, h⟩ := i1.one
  obtain ⟨p, ys, rfl, hp, ia⟩ := h.lst_inv
  exact ⟨p, ys, rfl, .inl ⟨.inl (.inl (cut_at hp).1), fun l hl => q _ _ _ rfl (.new hl) (n_tup ok ia hl)⟩⟩
theorem c_tupT {ds : List D} : CallD X (.type "tuple") c [.tup ds] (· = .tup ds) := cad_of call_tuple_of fun M H xs ok i1 Q q => by
  obtain ⟨v, rfl, h⟩ := i1.one
  obtain ⟨p, ys, rfl, hp, ia⟩ := h.tup_inv
  exact ⟨p, ys, rfl, .inr ⟨(.inl (.inl (cut_at hp).1)), q _ _ _ rfl .rfl' (.tup hp ia)⟩⟩
theorem o_cat {xs ys : List D} (h : xs.length + ys.length ≤ sizeLine) : OpD X (binaryOp .Add) c (.lst xs) (.lst ys) (· = .lst (xs ++ ys)) := opd_of op_cat fun M H x y ok i1 i2 Q q => by
  obtain ⟨p, us, rfl, hp, ia⟩ := i1.lst_inv
  obtain ⟨p2, vs, rfl, hp2, ia2⟩ := i2.lst_inv
  exact ⟨p, p2, us, vs, rfl, rfl, (cut_at hp).1, (cut_at hp2).1, by rw [ia.len, ia2.len]; exact h, fun l hl => q _ _ _ rfl (.new hl) (n_list ok (ia.app ia2) hl)⟩
theorem o_catT {xs ys : List D} (h : xs.length + ys.length ≤ sizeLine) : OpD X (binaryOp .Add) c (.tup xs) (.tup ys) (· = .tup (xs ++ ys)) := opd_of op_catA fun M H x y ok i1 i2 Q q => by
  obtain ⟨p, us, rfl, hp, ia⟩ := i1.tup_inv
  obtain ⟨p2, vs, rfl, hp2, ia2⟩ := i2.tup_inv
  refine ⟨p, p2, us, vs, rfl, rfl, (.inl (.inl (cut_at hp).1)), (.inl (.inl (cut_at hp2).1)), by rw [ia.len, ia2.len]; exact h, fun e => ?_, fun _ e => ?_, fun _ _ l hl => q _ _ _ rfl (.new hl) (n_tup ok (ia.app ia2) hl)⟩
  · subst e
    have e1 : xs = [] := List.length_eq_zero_iff.mp ia.len.symm
    exact q _ _ H rfl .rfl' (by rw [e1]; exact .tup hp2 ia2)
  · subst e
    have e1 : ys = [] := List.length_eq_zero_iff.mp ia2.len.symm
    exact q _ _ H rfl .rfl' (by rw [e1, List.append_nil]; exact .tup hp ia)
theorem IsAll.rep {K : PySem.W.Frag} {H : Hp} {vs : List V} {ds : List D} (h : IsAll K H vs ds) : ∀ n, IsAll K H (List.replicate n vs).flatten (List.replicate n ds).flatten
  | 0 => .nil
  | n + 1 => by
    rw [List.replicate_succ, List.replicate_succ, List.flatten_cons, List.flatten_cons]
    exact h.app (IsAll.rep h n)
theorem o_rep {xs : List D} {k : Int} (h1 : -(2 ^ 63) ≤ k) (h2 : k < 2 ^ 63) (h : xs.length * k.toNat ≤ sizeLine) : OpD X (binaryOp .Mult) c (.lst xs) (.int k) (· = .lst (List.replicate k.toNat xs).flatten) := opd_of op_rep fun M H x y ok i1 i2 Q q => by
  obtain ⟨p, us, rfl, hp, ia⟩ := i1.lst_inv
  exact ⟨p, k, us, rfl, i2.int_inv, (cut_at hp).1, h1, h2, by rw [ia.len]; exact h, fun l hl => q _ _ _ rfl (.new hl) (n_list ok (ia.rep _) hl)⟩
theorem x_list {xs : List D} {i : Nat} (h : xs[i]? = some d) : IxD X c (.lst xs) (.int (i : Int)) (· = d) := ixd_of ix_list fun M H x y ok i1 i2 Q q => by
  obtain ⟨p, us, rfl, hp, ia⟩ := i1.lst_inv
  obtain ⟨v, ev, iv⟩ := ia.at' h
  exact ⟨p, us, _, v, rfl, i2.int_inv, .inl (.inl (cut_at hp).1), atI_nat ev, q _ _ H rfl .rfl' iv⟩
theorem x_tup {xs : List D} {i : Nat} (h : xs[i]? = some d) : IxD X c (.tup xs) (.int (i : Int)) (· = d) := ixd_of ix_tup fun M H x y ok i1 i2 Q q => by
  obtain ⟨p, us, rfl, hp, ia⟩ := i1.tup_inv
  obtain ⟨v, ev, iv⟩ := ia.at' h
  exact ⟨p, us, _, v, rfl, i2.int_inv, (.inl (.inl (cut_at hp).1)), atI_nat ev, q _ _ H rfl .rfl' iv⟩
theorem x_scr {ns : List Int} {i : Nat} {n : Int} (h : ns[i]? = some n) : IxD X c (.scr ns) (.int (i : Int)) (· = .int n) := ixd_of ix_list fun M H x y ok i1 i2 Q q => by
  cases i1 with
  | scr hp => exact ⟨_, _, _, _, rfl, i2.int_inv, unL hp, atI_nat (by rw [List.getElem?_map, h]; rfl), q _ _ H rfl .rfl' .int⟩
/-- drawn places -/
theorem x_listN {xs : List D} {i : Int} (h0 : 0 ≤ i) (h1 : i < xs.length) : IxD X c (.lst xs) (.int i) (· ∈ xs) := by
  obtain ⟨n, rfl⟩ := Int.eq_ofNat_of_zero_le h0
  have hn : n < xs.length := by omega
  refine ixd_of ix_list fun M H x y ok i1 i2 Q q => ?_
  obtain ⟨p, us, rfl, hp, ia⟩ := i1.lst_inv
  obtain ⟨v, ev, iv⟩ := ia.at' (List.getElem?_eq_getElem hn)
  exact ⟨p, us, _, v, rfl, i2.int_inv, .inl (.inl (cut_at hp).1), atI_nat ev, q _ _ H (List.getElem_mem hn) .rfl' iv⟩
theorem x_tupN {xs : List D} {i : Int} (h0 : 0 ≤ i) (h1 : i < xs.length) : IxD X c (.tup xs) (.int i) (· ∈ xs) := by
  obtain ⟨n, rfl⟩ := Int.eq_ofNat_of_zero_le h0
  have hn : n < xs.length := by omega
  refine ixd_of ix_tup fun M H x y ok i1 i2 Q q => ?_
  obtain ⟨p, us, rfl, hp, ia⟩ := i1.tup_inv
  obtain ⟨v, ev, iv⟩ := ia.at' (List.getElem?_eq_getElem hn)
  exact ⟨p, us, _, v, rfl, i2.int_inv, (.inl (.inl (cut_at hp).1)), atI_nat ev, q _ _ H (List.getElem_mem hn) .rfl' iv⟩
/-- a slice, in data -/
def cutD (xs : List D) (lo hi : Option Int) : List D := (xs.drop (HT.sIx xs.length 0 lo)).take (HT.sIx xs.length xs.length hi - HT.sIx xs.length 0 lo)
theorem IsAll.cutV {K : PySem.W.Frag} {H : Hp} {vs : List V} {ds : List D} (h : IsAll K H vs ds) (lo hi : Option Int) : IsAll K H (L2.cutV vs lo hi) (cutD ds lo hi) := by
  unfold L2.cutV cutD
  rw [h.len]
  exact (h.drop _).take _
theorem s_list {xs : List D} {lo hi : Option Int} : SlD X c (.lst xs) lo hi (· = .lst (cutD xs lo hi)) := sld_of sl_list fun M H x ok i1 Q q => by
  obtain ⟨p, us, rfl, hp, ia⟩ := i1.lst_inv
  exact ⟨p, us, rfl, .inl (.inl (cut_at hp).1), fun l hl => q _ _ _ rfl (.new hl) (n_list ok (ia.cutV lo hi) hl)⟩
theorem s_tup {xs : List D} {lo hi : Option Int} (h : ¬ (HT.sIx xs.length 0 lo = 0 ∧ HT.sIx xs.length xs.length hi = xs.length)) : SlD X c (.tup xs) lo hi (· = .tup (cutD xs lo hi)) := sld_of sl_tup fun M H x ok i1 Q q => by
  obtain ⟨p, us, rfl, hp, ia⟩ := i1.tup_inv
  exact ⟨p, us, rfl, (.inl (.inl (cut_at hp).1)), by rw [ia.len]; exact h, fun l hl => q _ _ _ rfl (.new hl) (n_tup ok (ia.cutV lo hi) hl)⟩
/-! all, any, sum of written lists -/
theorem c_all {bs : List Bool} (hc : X.calm = true) : CallD X (.builtin "all") c [.lst (bs.map D.bl)] (· = .bl (bs.all id)) := cad_of (cr_all hc) fun M H xs ok i1 Q q => by
  obtain ⟨v, rfl, h⟩ := i1.one
  obtain ⟨p, us, rfl, hp, ia⟩ := h.lst_inv
  exact ⟨p, bs, rfl, .inl (.inl (by rw [← bls_inv ia]; exact (cut_at hp).1)), q _ _ H rfl .rfl' .bl⟩
theorem c_any {bs : List Bool} (hc : X.calm = true) : CallD X (.builtin "any") c [.lst (bs.map D.bl)] (· = .bl (bs.any id)) := cad_of (cr_any hc) fun M H xs ok i1 Q q => by
  obtain ⟨v, rfl, h⟩ := i1.one
  obtain ⟨p, us, rfl, hp, ia⟩ := h.lst_inv
  exact ⟨p, bs, rfl, .inl (.inl (by rw [← bls_inv ia]; exact (cut_at hp).1)), q _ _ H rfl .rfl' .bl⟩
/-! ==, != of plain data -/
theorem o_eqD {p r : PyData} (hu : X.A.units + 64 < cLine) (ha : a.py = some p) (hb : b.py = some r) (s1 : SeqAt.shaped p = true) (s2 : SeqAt.shaped r = true) : OpD X (compareOp .Eq) c a b (· = .bl (PyData.eqv p r)) := opd_of (op_eqD hu) fun M H x y ok i1 i2 Q q =>
  ⟨p, r, (i1.up cut_sub).dp ha, (i2.up cut_sub).dp hb, s1, s2, q _ _ H rfl .rfl' .bl⟩
theorem o_neD {p r : PyData} (hu : X.A.units + 64 < cLine) (ha : a.py = some p) (hb : b.py = some r) (s1 : SeqAt.shaped p = true) (s2 : SeqAt.shaped r = true) : OpD X (compareOp .NotEq) c a b (· = .bl (!PyData.eqv p r)) := opd_of (op_neD hu) fun M H x y ok i1 i2 Q q =>
  ⟨p, r, (i1.up cut_sub).dp ha, (i2.up cut_sub).dp hb, s1, s2, q _ _ H rfl .rfl' .bl⟩
theorem o_inD {p : PyData} {rs : List PyData} (hu : X.A.units + 65 < cLine) (ha : a.py = some p) (hb : b.py = some (.list rs)) (s1 : SeqAt.shaped p = true) (s2 : SeqAt.shaped (.list rs) = true) : OpD X (compareOp .In) c a b (· = .bl (rs.any fun z => PyData.eqv z p)) := opd_of (op_inD hu) fun M H x y ok i1 i2 Q q =>
  ⟨p, rs, (i1.up cut_sub).dp ha, (i2.up cut_sub).dp hb, s1, s2, q _ _ H rfl .rfl' .bl⟩
theorem o_notInD {p : PyData} {rs : List PyData} (hu : X.A.units + 65 < cLine) (ha : a.py = some p) (hb : b.py = some (.list rs)) (s1 : SeqAt.shaped p = true) (s2 : SeqAt.shaped (.list rs) = true) : OpD X (compareOp .NotIn) c a b (· = .bl (!rs.any fun z => PyData.eqv z p)) := opd_of (op_notInD hu) fun M H x y ok i1 i2 Q q =>
  ⟨p, rs, (i1.up cut_sub).dp ha, (i2.up cut_sub).dp hb, s1, s2, q _ _ H rfl .rfl' .bl⟩
end
end Dt

set_option Elab.async false
set_option linter.all false
set_option maxRecDepth 100000
set_option maxHeartbeats 4000000
/-! dicts whose keys are tuples: written, made by a comprehension, of pairs, of a dict; compared -/
namespace L2
open PySem PySem.Spec PyProof.Rows
abbrev KV3 : Type := List L2.Key × Addr × Value
section
variable {X : Cx} {pins : List (Addr × Obj)} {σ : St} {H : Hp} {s : Shared}
def mergeT (kvs more : List (List L2.Key × V)) : List (List L2.Key × V) := more.foldl (fun acc kv => putK acc kv.1 kv.2) kvs
theorem length_mergeT : ∀ (more kvs : List (List L2.Key × V)), (mergeT kvs more).length ≤ kvs.length + more.length
  | [], kvs => Nat.le_refl _
  | q :: more, kvs => by
    have e1 := length_mergeT more (putK kvs q.1 q.2)
    have e2 := length_putK kvs q.1 q.2
    rw [List.length_cons]
    exact Nat.le_trans e1 (by omega)
/-- pairs stored one behind another -/
theorem KT.all {G : Hp} {more : List (List L2.Key × V)} {ps : List KV3} (h : KT G more ps) : ∀ {kvs : List (List L2.Key × V)} {xs : List KV3}, KT G kvs xs → KT G (mergeT kvs more) (storedAllH xs ps) := by
  unfold KT at h
  induction h with
  | nil => exact fun r => r
  | @cons q y l m hq t ih =>
    intro kvs xs r
    have e := KT.put r q.1 (b := y.2.1) hq.2.1 hq.2.2
    rw [hq.1] at e
    have e2 : putK kvs q.1 q.2 = putK kvs y.1 q.2 := by rw [hq.1]
    show KT G (mergeT (putK kvs q.1 q.2) l) _
    rw [e2]
    exact ih e
theorem dt_new {P : Program} {w : World} {G : Hp} {h : Heap} {a : Addr} {kvs : List (List L2.Key × V)} {xs : List KV3} (hl : kvs.length ≤ sizeLine) (hs : (a == sysModules) = false) (rel : KT G kvs xs) (dd : h.DictOfH (tupleKind (mixKind P w)) a xs) : ObjOk P w G h a (.dT kvs) := by
  obtain ⟨o, es, ep, h1, h2, h3, h4, _, h5⟩ := dd
  exact ⟨hl, hs, xs, rel, o, es, ep, h1, h2, h3, h4, h5⟩
/-- tuple keys and values, as they are evaluated -/
theorem carriesT_of (I : Inv X pins σ H s) : ∀ {ps : List (V × V)} {ws : List (Value × Value)} {kvs : List (List L2.Key × V)}, VV ps ws → Paired (fun p kv => (∃ b, p.1 = .ref b ∧ H b = some (.tup (kv.1.map kV))) ∧ p.2 = kv.2) ps kvs →
    ∃ xs : List KV3, CarriesH (tupleKind (mixKind X.prog X.w)) s.heap ws xs ∧ KT H kvs xs
  | _, _, _, .nil, .nil => ⟨[], trivial, .nil⟩
  | _, _, _, .cons (b := q) hv t, .cons (b := kv) hk t2 => by
    obtain ⟨xs, c, r⟩ := carriesT_of I t t2
    obtain ⟨⟨b, e1, eb⟩, e2⟩ := hk
    have r1 := hv.1
    rw [e1] at r1
    obtain ⟨q1, q2⟩ := q
    have e3 : q1 = .ref b := r1
    subst e3
    exact ⟨(kv.1, b, q2) :: xs, ⟨rfl, rfl, key_of I.hok eb, c⟩, .cons ⟨rfl, eb, e2 ▸ hv.2⟩ r⟩
end
section
variable {X : Cx} {pos : Pos}
/-- {k: v, ..} with tuple keys -/
def tDispT (trs : List (TE × TE)) : TE := fun σ H Q => ∀ p, H p = none → tPairs trs σ (upd H p (.dT [])) fun ps G => G p = some (.dT []) ∧ ∃ kvs : List (List L2.Key × V),
  Paired (fun y kv => (∃ b, y.1 = .ref b ∧ G b = some (.tup (kv.1.map kV))) ∧ y.2 = kv.2) ps kvs ∧ kvs.length ≤ 15 ∧ Q (.ref p) (upd G p (.dT (mergeT [] kvs)))
theorem pe_dispT {keys : List (Option Expr)} {values : List Expr} {trs : List (TE × TE)} (hu : X.A.units < cLine) (h : PPs X pos keys values trs) (hall : keys.all (·.isSome) = true) (hl : keys.length = values.length) (h0 : keys ≠ [])
    (h15 : keys.length ≤ 15) : PE X (.Dict keys values pos) (tDispT trs) := by
  refine ⟨fun pins s σ H Q I q => ?_⟩
  have fresh := I.hok.fresh (Nat.le_refl s.heap.objs.size)
  have J := I.laid (a := s.heap.objs.size) (o := .dT []) (h' := s.heap.push { cls := .type "dict", data := .dict #[] }) (t' := s.toks) (fun _ _ e => Heap.get?_push_of_some _ e) (Nat.le_refl _) (dt_empty s.heap I.big)
  have hn := pairTrees_length keys values X.env pos hall hl
  rw [arm_eval_Dict, zip_pairTrees keys values X.env pos hall hl, dictDisplay_pairs (pairTrees keys values X.env pos) (fun e => h0 (List.length_eq_zero_iff.mp (by rw [e] at hn; exact hn.symm))) (by rw [hn]; omega)]
  refine wpAny_bind (wpAny_standAt (wpAny_bind (wpAny_subDictH (knd := tupleKind (mixKind X.prog X.w)) (Q := fun d s' => wpAny (model X.prog X.w) X.A (pure (Value.ref d)) _ X.xe s') hu (by rw [hn]; exact h15)
    (thn (h.run pins _ σ _ _ J (q _ fresh)) fun ws s2 ⟨ps, G, J2, rel, e, kvs, pr, lk, q2⟩ => ?_))))
  obtain ⟨xs, c, r⟩ := carriesT_of J2 rel pr
  obtain ⟨z, hd, ys, r0, dd⟩ := dt_of J2.hok e
  cases r0
  refine ⟨xs, c, dd, fun h' tk dk hs => ?_⟩
  have rr : KT G (mergeT [] kvs) (storedAllH [] xs) := r.all .nil
  have hz : (mergeT [] kvs).length ≤ sizeLine := by
    have e1 := length_mergeT kvs []
    rw [List.length_nil] at e1
    rw [sizeLine_eq]
    omega
  have there : ∃ o, h'.get? s.heap.objs.size = some o := let ⟨o, _, _, ho, _⟩ := dk; ⟨o, ho⟩
  refine wpAny_pure ⟨.ref s.heap.objs.size, _, d_write (t' := tk) J2 (by rw [e]; trivial) hs there (dt_new hz hd (rr.keeps fun b ys eb => ?_) dk), rfl, q2⟩
  rw [upd_ne (ne_of eb e fun z => nomatch z)]
  exact eb
end
end L2

namespace L2
open PySem PySem.Spec PyProof.Rows
section
variable {X : Cx}
/-- a pair stored by a comprehension, the key a tuple -/
theorem d_dictSetT {pins : List (Addr × Obj)} {σ : St} {H : Hp} {s : Shared} {E : Value → Shared → Prop} {D b : Addr} {kvs : List (List L2.Key × V)} {k : List L2.Key} {v : V} {u r : Value} {Q : Unit → Shared → Prop} (hu : X.A.units < cLine) (I : Inv X pins σ H s) (hD : H D = some (.dT kvs)) (eb : H b = some (.tup (k.map kV))) (hz : kvs.length < sizeLine)
    (ry : RelV (.ref b) u) (rv : RelV v r) (h : ∀ s', Inv X pins σ (upd H D (.dT (putK kvs k v))) s' → Q () s') : wpAny (model X.prog X.w) X.A (dictSet D u r) Q E s := by
  have eu : u = .ref b := ry
  subst eu
  obtain ⟨z, hd, xs, rel, dd⟩ := dt_of I.hok hD
  have hx : xs.length ≤ sizeLine := by rw [← Paired.length rel]; exact z
  have hl : (putK kvs k v).length ≤ sizeLine := by have := length_putK kvs k v; omega
  refine wpAny_dictSet_heap (knd := tupleKind (mixKind X.prog X.w)) (hsz := hx) hu (key_of I.hok eb) dd fun h' d2 hs => h _ ?_
  have there : ∃ o, h'.get? D = some o := let ⟨o, _, _, ho, _⟩ := d2; ⟨o, ho⟩
  refine d_write I (by rw [hD]; trivial) hs there (dt_new hl hd ((rel.put k eb rv).keeps fun c ys ec => ?_) d2)
  rw [upd_ne (ne_of ec hD fun z => nomatch z)]
  exact ec
/-- {k: v for target in iter if ..}, keys tuples of ints and texts: D the new dict -/
def tDcT (wi : TI) (g : TG) (tt : TT) (tk tv : TE) (vs : List Nat) : TE := fun σ H Q => wi σ H fun J G1 => ∀ D, G1 D = none → ∃ W : Nat → Nat → Hp → Prop, (∃ m, W 0 m (upd G1 D (.dT []))) ∧ ∀ i m G, W i m G →
  (J.stop i G ∧ Q (.ref D) G) ∨ (J.go i G ∧ ∃ Nx : Hp → Prop, (∀ G', Nx G' → ∃ m', m' < m ∧ W (i + 1) m' G') ∧ ∀ x G', J.yld i G x G' → g x (wipe σ vs) G' fun σ2 G2 => wipe σ2 vs = wipe σ vs ∧ tt σ2 G2 fun b G3 =>
    if b = true then tk σ2 G3 fun y G4 => tv σ2 G4 fun z G5 => ∃ (kvs : List (List L2.Key × V)) (k : List L2.Key) (b : Addr), y = .ref b ∧ G5 b = some (.tup (k.map kV)) ∧ G5 D = some (.dT kvs) ∧ kvs.length < sizeLine ∧ Nx (upd G5 D (.dT (putK kvs k z))) else Nx G3)
theorem dc_coreT (hu : X.A.units < cLine) {pins : List (Addr × Obj)} {s : Shared} {σ : St} {H : Hp} {Q : VK} {kx vx tg iter : Expr} {ifs : List Expr} {scope : Scope} {own : List (Str × Nat)} {pos pos' : Pos} {wi : TI} {g : TG} {tt : TT} {tk tv : TE} {use : Option (Value → Sem Unit)} {Qf : Value → Shared → Prop}
    (hc : X.calm = true) (hN : X.N.Nodup) (I : Inv X pins σ H s) (hi : PI X tg iter wi) (ok : BlkOk X.N X.env.scope scope own)
    (hg : ∀ (s : Shared) (H : Hp) (C : Addr) (cl : List (Str × Addr)) (fp : List Addr), PG (X.blk s H scope (compEnvC scope cl C X.env) fp) tg g) (ht : ∀ (s : Shared) (H : Hp) (C : Addr) (cl : List (Str × Addr)) (fp : List Addr), PTs (X.blk s H scope (compEnvC scope cl C X.env) fp) ifs tt)
    (hk : ∀ (s : Shared) (H : Hp) (C : Addr) (cl : List (Str × Addr)) (fp : List Addr), PE (X.blk s H scope (compEnvC scope cl C X.env) fp) kx tk)
    (he : ∀ (s : Shared) (H : Hp) (C : Addr) (cl : List (Str × Addr)) (fp : List Addr), PE (X.blk s H scope (compEnvC scope cl C X.env) fp) vx tv) (hs : ∀ x, foldedSetIterable iter X.env x = pure x)
    (h : tDcT wi g tt tk tv (own.map (·.2)) σ H Q)
    (hRR : ∀ D C s' m H', Inv X pins σ H' s' → Q (.ref D) H' → s'.heap.Ns C m → FpOk X pins H' C → compPost (model X.prog X.w) X.A X.xe use Qf (.ref D) C (.ok .next) s') :
    wpAny (model X.prog X.w) X.A (comprehension (.DictComp kx vx [⟨tg, iter, ifs, 0⟩] scope pos) scope X.env pos' newDict false (eval iter X.env) use) Qf X.xe s := by
  have hcap : ∀ y ∈ scope.names, y.2 = .free → ∃ c, X.env.cells.lookup y.1 = some c := fun y hy e => by
    rcases ok.free y hy e with k | k
    · exact I.ok.has _ (.inl k)
    · exact I.ok.has _ (.inr k)
  refine wpAny_comprehension_free (use := use) rfl hs (closure_ok hcap) ok.kind (fun y hy e => by rw [ok.uniq y hy, e])
    (thn (hi.run pins s σ H _ I h) fun xw u1 hx => thn hx fun itw u2 h2 => ?_)
  obtain ⟨it, fp, tn, J, G2, e, J2, T, z2, g2, q⟩ := h2
  subst e
  refine wpAny_newObj_type (newEnv_comp ?_)
  generalize hL : u2.heap.objs.size = D
  have hLn : G2 D = none := J2.hok.fresh (Nat.le_of_eq hL)
  obtain ⟨W, ⟨k0, v0⟩, tn2⟩ := q D hLn
  -- the new list
  generalize hu3 : ({ u2 with heap := u2.heap.push { cls := .type "dict", data := .dict #[] } } : Shared) = u3
  have J3 : Inv X pins σ (upd G2 D (.dT [])) u3 := by
    rw [← hu3]
    refine J2.laid (t' := u2.toks) (fun b o e => Heap.get?_push_of_some _ e) (Nat.le_of_eq hL) ?_
    rw [← hL]
    exact dt_empty u2.heap J2.big
  have h3 : u3.heap = u2.heap.push { cls := .type "dict", data := .dict #[] } := by rw [← hu3]
  have szf : ∀ b ∈ fp, b < u2.heap.objs.size := fun b hb => by
    obtain ⟨o, e, _⟩ := T.obj _ _ z2 b hb
    exact Heap.lt_size e
  have g3 : ∀ b ∈ fp, FpOk X pins (upd G2 D (.dT [])) b ∧ b < u3.heap.objs.size := fun b hb => by
    have hlt := szf b hb
    refine ⟨⟨?_, (g2 b hb).2⟩, by rw [h3, Heap.size_push]; exact Nat.lt_succ_of_lt hlt⟩
    rw [upd_ne (by rw [← hL]; exact Nat.ne_of_lt hlt)]
    exact (g2 b hb).1
  have z3 : tn 0 u3.heap := T.keep _ _ _ z2 fun b _ o e => by rw [h3]; exact Heap.get?_push_of_some _ e
  have J4 := block_start J3 ok hN g3
  have ag := hg u3 (upd G2 D (.dT [])) u3.heap.objs.size (cellsFrom (u3.heap.objs.size + 1) scope.names (cloFrom X.env.cells scope.names [])) fp
  have at2 := ht u3 (upd G2 D (.dT [])) u3.heap.objs.size (cellsFrom (u3.heap.objs.size + 1) scope.names (cloFrom X.env.cells scope.names [])) fp
  have ak := hk u3 (upd G2 D (.dT [])) u3.heap.objs.size (cellsFrom (u3.heap.objs.size + 1) scope.names (cloFrom X.env.cells scope.names [])) fp
  have ae := he u3 (upd G2 D (.dT [])) u3.heap.objs.size (cellsFrom (u3.heap.objs.size + 1) scope.names (cloFrom X.env.cells scope.names [])) fp
  show codeAny _ _ (.compStart (.DictComp kx vx [⟨tg, iter, ifs, 0⟩] scope pos) 0 (.ref it) (.ref D) (compEnvC scope (cellsFrom (u3.heap.objs.size + 1) scope.names (cloFrom X.env.cells scope.names [])) u3.heap.objs.size X.env)) (compPost (model X.prog X.w) X.A X.xe use Qf (.ref D) u3.heap.objs.size) { u3 with heap := pushCells (u3.heap.push { cls := .type "dict", data := .dict #[] }) scope.names }
  have nof : ∀ b ∈ fp, (upd G2 D (.dT [])) b = none := fun b hb => (g3 b hb).1.1
  generalize hcx : compEnvC scope (cellsFrom (u3.heap.objs.size + 1) scope.names (cloFrom X.env.cells scope.names [])) u3.heap.objs.size X.env = cx at J4 ag at2 ak ae ⊢
  have cLx : cx.locals = u3.heap.objs.size := by subst hcx; rfl
  generalize hG3 : upd G2 D (.dT []) = G3 at J3 J4 ag at2 ak ae v0 nof g3
  generalize hu4 : ({ u3 with heap := pushCells (u3.heap.push { cls := .type "dict", data := .dict #[] }) scope.names } : Shared) = u4 at J4 ⊢
  have z4 : tn 0 u4.heap := T.keep _ _ _ z3 fun b _ o e => by rw [← hu4]; exact pushCells_keeps _ _ _ _ (Heap.get?_push_of_some _ e)
  have stay : ∀ {σ' : St} {H' : Hp} {s' : Shared}, Inv (X.blk u3 G3 scope cx fp) [] σ' H' s' → (∀ b ∈ fp, H' b = none) → ∀ b ∈ fp, FpOk (X.blk u3 G3 scope cx fp) [] H' b := fun {σ' H' s'} I' hm2 b hb =>
    ⟨hm2 b hb, (I'.ok.exf b hb).1, I'.ok.exfs b hb, .inl hb, fun x c e => (I'.ok.exf b hb).2 x c e, fun p hp => absurd (show p ∈ ([] : List (Addr × Obj)) ++ [] from hp) (by simp)⟩
  have body : codeAny (model X.prog X.w) X.A (.compLoop (.DictComp kx vx [⟨tg, iter, ifs, 0⟩] scope pos) 0 (.ref it) (.ref D) cx) (compPost (model X.prog X.w) X.A X.xe use Qf (.ref D) u3.heap.objs.size) u4 := by
    refine compLoop_anyD (fun n s' => ∃ i H', Inv (X.blk u3 G3 scope cx fp) [] (wipe σ (own.map (·.2))) H' s' ∧ tn i s'.heap ∧ (∀ b ∈ fp, H' b = none) ∧ W i n H') ?_ k0 ⟨0, G3, J4, z4, nof, v0⟩
    rintro n u5 ⟨i, G5, J5, z5, n5, v5⟩
    rcases tn2 i n G5 v5 with ⟨sto, qx⟩ | ⟨gon, Nx, hNx, stp⟩
    · have ed := T.done (X.blk u3 G3 scope cx fp) rfl rfl rfl hc i [] u5 _ G5 (fun _ _ => False) J5 (stay J5 n5) z5 sto
      refine thnF ed fun r u6 ⟨hq, J6⟩ => ?_
      subst hq
      -- back in the def's context
      have J7 : Inv X pins σ G5 u6 := J3.call' (ch := fp) J6.os J6.base J6.hok J6.bare fun b hb => ⟨(g3 b hb).1.2.2.2.1, (g3 b hb).1.2.1, (g3 b hb).1.2.2.2.2.1, (g3 b hb).1.2.2.2.2.2⟩
      have nCx : G5 u3.heap.objs.size = none := by
        have z : G5 cx.locals = none := J6.free
        rw [cLx] at z
        exact z
      obtain ⟨m, hm2, _⟩ := J6.loc
      have hm2 : u6.heap.Ns cx.locals m := hm2
      rw [cLx] at hm2
      exact hRR D u3.heap.objs.size u6 m G5 J7 qx hm2 (J3.fpOk (Nat.le_refl _) nCx)
    · have ei := T.item (X.blk u3 G3 scope cx fp) rfl rfl rfl hc i [] u5 _ G5 (fun _ _ => False) J5 (stay J5 n5) z5 gon
      refine thnF ei fun r u6 ⟨u, hq, h6⟩ => ?_
      subst hq
      refine thnF h6 fun _ u7 ⟨x, G7, J7, r7, y7, z7, n7⟩ => ?_
      have I7' := J7.pinned (stay J7 n7) (T.obj _ _ z7)
      refine thnF (ag.run _ u7 _ G7 x u _ I7' r7 (stp x G7 y7)) fun _ u8 ⟨σ8, G8, J8, hw8, q8⟩ => ?_
      refine thnF (at2.run _ u8 σ8 G8 _ J8 q8) fun b u9 ⟨G9, J9, q9⟩ => ?_
      -- the turn's end
      have last : ∀ {s' : Shared} {H' : Hp}, Inv (X.blk u3 G3 scope cx fp) ([] ++ pinsAt fp u7.heap) σ8 H' s' → Nx H' → ∃ m, m < n ∧ ∃ i H', Inv (X.blk u3 G3 scope cx fp) [] (wipe σ (own.map (·.2))) H' s' ∧ tn i s'.heap ∧ (∀ b ∈ fp, H' b = none) ∧ W i m H' := fun {s' H'} I' nx => by
        obtain ⟨m', hm, w'⟩ := hNx H' nx
        have pinK : ∀ b ∈ fp, ∀ o, u7.heap.get? b = some o → s'.heap.get? b = some o ∧ H' b = none := fun b hb o e =>
          let z := I'.pin (b, o) (List.mem_append_right _ (List.mem_append_right _ (mem_pinsAt hb e)))
          ⟨z.1, z.2.1⟩
        have hl : (wipe σ (own.map (·.2))).length = σ8.length := by rw [← hw8, wipe_length]
        refine ⟨m', hm, i + 1, H', (I'.unpinned (pins := [])).weak hl (fun j v e => ?_), T.keep _ _ _ z7 fun b hb o e => (pinK b hb o e).1, fun b hb => ?_, w'⟩
        · rw [← hw8] at e
          exact (wipe_some e).1
        · obtain ⟨o, e, _⟩ := T.obj _ _ z7 b hb
          exact (pinK b hb o e).2
      cases b with
      | false =>
        simp only [Bool.false_eq_true, if_false] at q9 ⊢
        exact last J9 q9
      | true =>
        simp only [if_true] at q9 ⊢
        refine thnF (ak.run _ u9 σ8 G9 _ J9 q9) fun z u10 ⟨yk, G10, J10, r10, q10⟩ => ?_
        refine thnF (ae.run _ u10 σ8 G10 _ J10 q10) fun z2 u11 ⟨yv, G11, J11, r11, kvs, k, b1, ek, eb1, hD11, hz11, nx⟩ => ?_
        subst ek
        exact d_dictSetT (X := X.blk u3 G3 scope cx fp) hu J11 hD11 eb1 hz11 r10 r11 fun u12 J12 => last J12 nx
  exact codeAny_compStart_dict body (T.self X.A 0 _ _ _ z4 body)
/-- as a value -/
theorem pe_dcT (hu : X.A.units < cLine) {kx vx tg iter : Expr} {ifs : List Expr} {scope : Scope} {own : List (Str × Nat)} {pos : Pos} {wi : TI} {g : TG} {tt : TT} {tk tv : TE} (hc : X.calm = true) (hN : X.N.Nodup) (hi : PI X tg iter wi) (ok : BlkOk X.N X.env.scope scope own)
    (hg : ∀ (s : Shared) (H : Hp) (C : Addr) (cl : List (Str × Addr)) (fp : List Addr), PG (X.blk s H scope (compEnvC scope cl C X.env) fp) tg g) (ht : ∀ (s : Shared) (H : Hp) (C : Addr) (cl : List (Str × Addr)) (fp : List Addr), PTs (X.blk s H scope (compEnvC scope cl C X.env) fp) ifs tt)
    (hk : ∀ (s : Shared) (H : Hp) (C : Addr) (cl : List (Str × Addr)) (fp : List Addr), PE (X.blk s H scope (compEnvC scope cl C X.env) fp) kx tk)
    (he : ∀ (s : Shared) (H : Hp) (C : Addr) (cl : List (Str × Addr)) (fp : List Addr), PE (X.blk s H scope (compEnvC scope cl C X.env) fp) vx tv) (hs : ∀ x, foldedSetIterable iter X.env x = pure x := by intro _; rfl) :
    PE X (.DictComp kx vx [⟨tg, iter, ifs, 0⟩] scope pos) (tDcT wi g tt tk tv (own.map (·.2))) := by
  refine ⟨fun pins s σ H Q I h => ?_⟩
  rw [arm_eval_DictComp]
  refine dc_coreT hu hc hN I hi ok hg ht hk he hs h fun D C s' m H' I' q hm2 f => ⟨m, hm2, fun h'' sb => ?_⟩
  obtain ⟨f0, f1, g2, g3, f4, f5⟩ := f
  exact ⟨.ref D, H', I'.turned (t' := s'.toks) (fun b o hb e => (sb.2 b hb).trans e) f0 f1 g3 f4 f5, rfl, q⟩
end
end L2

set_option Elab.async false
set_option linter.all false
set_option maxRecDepth 100000
set_option maxHeartbeats 4000000
/-! dict(d), dict(pairs), d == e, with tuple keys -/
namespace L2
open PySem PySem.Spec PyProof.Rows
section
variable {prog : Program} {w : World} {K : Type} [DecidableEq K] {knd : HeapKind prog w K} {A : Around} {E : Value → Shared → Prop} {s : Shared}
/-- dict(d): the keys objects, no two of one hash -/
theorem copyByCall {o : Addr} {more : List (K × Addr × Value)} {Q : Value → Shared → Prop} (hu : knd.room A.in1.in1) (hoS : (o == sysModules) = false) (ho : s.heap.DictOfH knd o more) (hsz : more.length ≤ sizeLine)
    (hty : ∀ x ∈ more, s.TypeIs (.ref x.2.1) "tuple") (hap : (more.map fun x => knd.hash x.1).Nodup) (hst : ∀ h', (∀ b o, s.heap.get? b = some o → h'.get? b = some o) → ∀ x ∈ more, knd.is h' x.1 x.2.1)
    (h : ∀ h', h'.DictOfH knd s.heap.objs.size more → (∀ b o, s.heap.get? b = some o → h'.get? b = some o) → Q (.ref s.heap.objs.size) { s with heap := h' }) :
    wpAny (model prog w) A (call (.type "dict") [.ref o]) Q E s := by
  refine callType_codes (Q₁ := fun obj t => obj = .ref s.heap.objs.size ∧ t = { s with heap := s.heap.push { cls := .type "dict", data := .dict #[] } }) PySem.F.kt_called_dict (PySem.F.kt_typeCall_dict_1 _) PySem.F.entry_dict_init (kt_code_dict_new _ ⟨rfl, rfl⟩) ?_
  rintro obj t ⟨rfl, rfl⟩
  have keep : ∀ b ob, s.heap.get? b = some ob → (s.heap.push { cls := .type "dict", data := .dict #[] }).get? b = some ob := fun _ _ e => Heap.get?_push_of_some _ e
  have new : (s.heap.push { cls := .type "dict", data := .dict #[] }).DictOfH knd s.heap.objs.size [] := Heap.DictOfH.new s.heap
  have old : (s.heap.push { cls := .type "dict", data := .dict #[] }).DictOfH knd o more := ho.at' (keep o) (hst _ keep)
  have hno := ho.nodup
  have apart : s.heap.objs.size ≠ o := by
    obtain ⟨_, _, _, hg, _⟩ := ho
    exact fun e => absurd (Heap.lt_size hg) (by rw [e]; exact Nat.lt_irrefl _)
  refine ⟨new.typeIs, PySem.F.args_dict_init_2 _ _, ?_⟩
  unfold Builtin.«dict.__init__»
  refine wpAny_bind ?_
  unfold Builtin.Dict.selfAndRest
  refine wpAny_bind (wpAny_notOrdered_dict new.typeIs ?_)
  show wpAny _ _ (pure (s.heap.objs.size, [Value.ref o])) _ _ _
  refine wpAny_pure ?_
  show wpAny _ _ (Builtin.Dict.updateFrom "dict.__init__" s.heap.objs.size (.ref o) [] .none) _ _ _
  refine updateFrom_dictH .none hu apart hoS new old (.inr ⟨fun x hx => ?_, hap⟩) (by simpa using hsz) fun h' d1 _ hs => ?_
  · obtain ⟨ob, e, c⟩ := hty x hx
    exact ⟨ob, keep _ _ e, c⟩
  · rw [storedAllH_nil_of_nodup more hno] at d1
    refine ⟨rfl, h h' d1 fun b ob e => (hs.2 b fun z => ?_).trans (keep b ob e)⟩
    rw [z] at e
    exact absurd (Heap.lt_size e) (Nat.lt_irrefl _)
end
section
variable {X : Cx}
/-- the hash of a key of ints (the same in every world) -/
def hT (P : Program) (w : World) (k : List L2.Key) : Int := (tupleKind (mixKind P w)).hash k
def rDictCopyT (P : Program) (w : World) : List V → Hp → VK → Prop := fun xs H Q => ∃ (d : Addr) (kvs : List (List L2.Key × V)), xs = [.ref d] ∧ Rd H d (.dT kvs) ∧ (kvs.map fun q => hT P w q.1).Nodup ∧ ∀ p, H p = none → Q (.ref p) (upd H p (.dT kvs))
theorem kt_hash {P : Program} {w : World} {G : Hp} : ∀ {kvs : List (List L2.Key × V)} {xs : List KV3}, KT G kvs xs → (xs.map fun x => (tupleKind (mixKind P w)).hash x.1) = kvs.map fun q => hT P w q.1
  | _, _, .nil => rfl
  | _, _, .cons h t => by
    rw [List.map_cons, List.map_cons, kt_hash t, ← h.1]
    rfl
theorem call_dictCopyT (hu : X.A.units + 2 < cLine) : CallR X (.type "dict") (rDictCopyT X.prog X.w) := by
  intro pins s σ H xs us Q I r h
  obtain ⟨d, kvs, rfl, hd, hap, q⟩ := h
  obtain ⟨u, rfl, rx⟩ := vals1 r
  obtain rfl : u = Value.ref d := rx
  obtain ⟨z, hS, ys, rel, dd⟩ := dt_rd I.hok hd
  obtain ⟨_, _, _, _, _, _, _, his, _⟩ := id dd
  refine copyByCall (knd := tupleKind (mixKind X.prog X.w)) (show X.A.in1.in1.units < cLine from hu) hS dd (by rw [← Paired.length rel]; exact z) (fun x hx => tupleKind_stays.tuple (his x hx)) (by rw [kt_hash rel]; exact hap)
    (fun h' k x hx => tupleKind_stays.stays (fun b o _ _ e _ => k b o e) (his x hx)) fun h' d1 k => ?_
  have hm : (s.heap.objs.size == sysModules) = false := beq_eq_false_iff_ne.mpr (Nat.ne_of_gt I.big)
  have fresh := I.hok.fresh (Nat.le_refl s.heap.objs.size)
  refine ⟨.ref s.heap.objs.size, _, I.laid (t' := s.toks) (o := .dT kvs) k (Nat.le_refl _) (dt_new z hm (rel.keeps fun b ys eb => ?_) d1), rfl, q _ fresh⟩
  rw [upd_ne (ne_of_none eb fresh)]
  exact eb
/-- dict(ps), ps a list of pairs whose keys are tuples -/
def rDictPT (K : PySem.W.Frag) : List V → Hp → VK → Prop := fun xs H Q => ∃ (a : Addr) (ps : List Addr) (kvs : List (List L2.Key × V)), xs = [.ref a] ∧ SqL K H a (ps.map V.ref) ∧
  Paired (fun p kv => ∃ b, H p = some (.tup [.ref b, kv.2]) ∧ H b = some (.tup (kv.1.map kV))) ps kvs ∧ ∀ p, H p = none → Q (.ref p) (upd H p (.dT (mergeT [] kvs)))
theorem pairsT_of {pins : List (Addr × Obj)} {σ : St} {H : Hp} {s : Shared} (I : Inv X pins σ H s) : ∀ {ps : List Addr} {kvs : List (List L2.Key × V)}, Paired (fun p kv => ∃ b, H p = some (.tup [.ref b, kv.2]) ∧ H b = some (.tup (kv.1.map kV))) ps kvs →
    ∃ xs : List KV3, KT H kvs xs ∧ xs.length = ps.length ∧ (∀ x ∈ xs, (tupleKind (mixKind X.prog X.w)).is s.heap x.1 x.2.1) ∧ ∀ (j : Nat) (x : KV3), xs[j]? = some x → ∃ T, ps[j]? = some T ∧ s.heap.IsTuple T #[.ref x.2.1, x.2.2]
  | _, _, .nil => ⟨[], .nil, rfl, fun x hx => (nomatch hx), fun j x e => by simp at e⟩
  | _, _, .cons (a := p) (b := kv) h t => by
    obtain ⟨xs, r, hl, hi, hp⟩ := pairsT_of I t
    obtain ⟨b, e1, e2⟩ := h
    obtain ⟨_, its, rv, ht⟩ := (show ObjOk X.prog X.w H s.heap p (.tup [.ref b, kv.2]) from I.hok p _ e1)
    obtain ⟨u, y, rfl, ru, ry⟩ := vals2 rv
    obtain rfl : u = Value.ref b := ru
    refine ⟨(kv.1, b, y) :: xs, .cons ⟨rfl, e2, ry⟩ r, by rw [List.length_cons, List.length_cons, hl], fun x hx => ?_, fun j x e => ?_⟩
    · rcases List.mem_cons.mp hx with rfl | hx
      · exact key_of I.hok e2
      · exact hi x hx
    · cases j with
      | zero =>
        have e' : (kv.1, b, y) = x := Option.some.inj e
        subst e'
        obtain ⟨o, h1, h2, n, h3⟩ := ht
        exact ⟨p, rfl, o, h1, h2, n, h3⟩
      | succ j =>
        obtain ⟨T, e1, e2⟩ := hp j x (by simpa using e)
        exact ⟨T, by simpa using e1, e2⟩
theorem call_dictPT (hc : X.calm = true) (hu : X.A.units + 2 < cLine) : CallR X (.type "dict") (rDictPT X.K) := by
  intro pins s σ H xs us Q I r h
  obtain ⟨a, ps, kvs, rfl, hq, hp, q⟩ := h
  obtain ⟨u, rfl, rx⟩ := vals1 r
  obtain rfl : u = Value.ref a := rx
  obtain ⟨its, rv, pl, hz⟩ := I.list hq
  have ei := refs_at rv
  subst ei
  rw [List.length_map] at hz
  obtain ⟨ys, rel, hl, his, hpr⟩ := pairsT_of I hp
  obtain ⟨o, n, ho, hcl, hd, hdat⟩ := pl
  have hm : (s.heap.objs.size == sysModules) = false := beq_eq_false_iff_ne.mpr (Nat.ne_of_gt I.big)
  have fresh := I.hok.fresh (Nat.le_refl s.heap.objs.size)
  refine call_dict_pairsH (knd := tupleKind (mixKind X.prog X.w)) (ps := ys) (n := (ys.map fun x => (Value.ref x.2.1, x.2.2)).length) (PairArg.list a (ps.map Value.ref).toArray (fun j => ps.getD j 0) (ys.map fun x => (Value.ref x.2.1, x.2.2))) (I.ok.hd hc) (show X.A.in1.in1.units < cLine from hu) ⟨⟨o, n, ho, hcl, hd, hdat⟩, by simp [hl], fun j k v e => ?_⟩ ⟨by simp, fun j k v e => ?_⟩
    (fun h' hk x hx => tupleKind_stays.stays (fun b ob vs m e dd => hk b ob (fun z => by rw [z] at e; exact absurd (Heap.lt_size e) (Nat.lt_irrefl _)) (by simp) e) (his x hx)) (by rw [List.length_map, hl]; exact hz) fun h' tk d1 k => ?_
  · have e : (ys.map fun x => (Value.ref x.2.1, x.2.2))[j]? = some (k, v) := e
    rw [List.getElem?_map, Option.map_eq_some_iff] at e
    obtain ⟨x, ex, e2⟩ := e
    cases e2
    exact ⟨x.1, x.2.1, ex, rfl⟩
  · have rr := rel.all (kvs := []) (xs := []) .nil
    have hz2 : (mergeT [] kvs).length ≤ sizeLine := by
      refine Nat.le_trans (length_mergeT kvs []) ?_
      rw [List.length_nil, Nat.zero_add, Paired.length rel, hl]
      exact hz
    refine ⟨.ref s.heap.objs.size, _, I.laid (t' := tk) (o := .dT (mergeT [] kvs)) (fun b ob e => k b ob (by simp) e) (Nat.le_refl _) (dt_new hz2 hm (rr.keeps fun b ys eb => ?_) d1), rfl, q _ fresh⟩
    rw [upd_ne (ne_of_none eb fresh)]
    exact eb
  · rw [List.getElem?_map, Option.map_eq_some_iff] at e
    obtain ⟨x, ex, e2⟩ := e
    cases e2
    obtain ⟨T, e3, e4⟩ := hpr j x ex
    have e5 : ps.getD j 0 = T := by rw [List.getD_eq_getElem?_getD, e3]; rfl
    show (List.map Value.ref ps).toArray[j]? = some (Value.ref (ps.getD j 0)) ∧ PairAt s.heap (ps.getD j 0) _ _
    rw [e5]
    exact ⟨by simp [e3], .inl e4⟩
end
end L2

set_option Elab.async false
set_option linter.all false
set_option maxRecDepth 100000
set_option maxHeartbeats 4000000
/-! d == e, d != e: dicts whose keys are tuples -/
namespace L2
open PySem PySem.Spec PyProof.Rows
section
variable {prog : Program} {w : World} {K : Type} [DecidableEq K] {knd : HeapKind prog w K} {A : Around} {E : Value → Shared → Prop} {s : Shared}
/-- the entries xs are found in ys: the answer -/
inductive Hits (A : Around) (s : Shared) (ys : List (K × Addr × Value)) : List (K × Addr × Value) → Bool → Prop
  | nil : Hits A s ys [] true
  | miss {x : K × Addr × Value} {r : List (K × Addr × Value)} : atKey ys x.1 = none → Hits A s ys (x :: r) false
  | hit {x : K × Addr × Value} {p : Addr × Value} {r : List (K × Addr × Value)} {e b : Bool} : atKey ys x.1 = some p → SeqAt.EqAt A s x.2.2 p.2 e → Hits A s ys r b → Hits A s ys (x :: r) (e && b)
theorem Hits.look {ys : List (K × Addr × Value)} {x : K × Addr × Value} {r : List (K × Addr × Value)} {b : Bool} (h : Hits A s ys (x :: r) b) :
    (atKey ys x.1 = none ∧ b = false) ∨ ∃ p e b', atKey ys x.1 = some p ∧ SeqAt.EqAt A s x.2.2 p.2 e ∧ Hits A s ys r b' ∧ b = (e && b') := by
  cases h with
  | miss n => exact .inl ⟨n, rfl⟩
  | hit y e t => exact .inr ⟨_, _, _, y, e, t, rfl⟩
theorem samePairsH {nm : String} {a b : Addr} {xs ys : List (K × Addr × Value)} {r : Bool} {Q : Bool → Shared → Prop} (hu : knd.room A) (ha : (a == sysModules) = false) (hb : (b == sysModules) = false)
    (da : s.heap.DictOfH knd a xs) (db : s.heap.DictOfH knd b ys) (hits : xs.length = ys.length → Hits A s ys xs r) (h : Q (xs.length == ys.length && r) s) :
    wpAny (model prog w) A (Builtin.Dict.samePairs nm a b) Q E s := by
  obtain ⟨oa, es, ep, hoa, _, hda, hea, hia, _⟩ := da
  obtain ⟨ob, fs, fp, hob, _, hdb, heb, hib, hnb⟩ := db
  have la : xs.length = es.size := (size_of_entries hea).symm
  have lb : ys.length = fs.size := (size_of_entries heb).symm
  rw [la, lb] at h
  unfold Builtin.Dict.samePairs Builtin.Dict.showsAll
  rw [if_neg (show ¬ (a == sysModules) = true by rw [ha]; decide), if_neg (show ¬ (b == sysModules) = true by rw [hb]; decide)]
  refine wpAny_bind (wpAny_pure (wpAny_bind (wpAny_pure (wpAny_bind (wpAny_dictEntries hoa hda ?_)))))
  dsimp only
  refine wpAny_bind (wpAny_dictEntries hob hdb ?_)
  by_cases eq : es.size = fs.size
  case neg =>
    rw [if_pos (by simpa using eq)]
    have z : (es.size == fs.size) = false := by simpa using eq
    rw [z, Bool.false_and] at h
    exact wpAny_bind (wpAny_rule (wpAny_pure h))
  case pos =>
    have q : Q r s := by simpa [eq] using h
    have run := hits (by rw [la, lb]; exact eq)
    rw [if_neg (by rw [eq]; simp)]
    refine wpAny_bind (wpAny_dictEpoch hoa hda (wpAny_bind ?_))
    rw [Std.Legacy.Range.forIn_eq_forIn_range']
    simp only [Std.Legacy.Range.size, Nat.sub_zero, Nat.add_sub_cancel, Nat.div_one]
    refine wpAny_forIn_list _
      (fun left acc t => t = s ∧ acc = (none, ()) ∧ ∃ i, left = List.range' i (es.size - i) ∧ i ≤ es.size ∧ Hits A s ys (xs.drop i) r)
      _ ?_ ?_ _ _ ⟨rfl, rfl, 0, by simp, Nat.zero_le _, run⟩
    · rintro n left acc t ⟨rfl, rfl, i, hr, hi, pre⟩
      have lt : i < es.size := by
        rcases Nat.lt_or_ge i es.size with z | z
        · exact z
        · rw [Nat.sub_eq_zero_of_le z] at hr
          simp at hr
      obtain ⟨rfl, more⟩ : n = i ∧ left = List.range' (i + 1) (es.size - (i + 1)) := by
        have e : es.size - i = es.size - (i + 1) + 1 := by omega
        rw [e, List.range'_succ] at hr
        injection hr with z1 z2
        exact ⟨z1, z2⟩
      refine wpAny_bind (wpAny_dictEntries hoa hda ?_)
      have ltx : n < xs.length := by rw [la]; exact lt
      have ent : es[n]? = some (entryOfKey knd xs[n]) := by
        rw [entry_at hea n, List.getElem?_eq_getElem ltx]
        rfl
      have drp : xs.drop n = xs[n] :: xs.drop (n + 1) := List.drop_eq_getElem_cons ltx
      have key := hia xs[n] (List.getElem_mem ltx)
      rw [drp] at pre
      rw [ent]
      generalize xs[n] = x at pre key
      show wpAny _ _ (holding [Value.ref x.2.1, x.2.2] _ >>= _) _ _ _
      refine wpAny_bind (wpAny_holding (wpAny_bind (wpAny_dictFind_heap hu key hob hdb heb hib hnb (fun none_ => ?_) fun j p at_ => ?_)))
      · rcases pre.look with ⟨_, e⟩ | ⟨p, _, _, y, _⟩
        · rw [e] at q
          refine wpAny_pure ?_
          show wpAny _ _ (if (!false) = true then _ else _) _ _ _
          rw [if_pos (by decide)]
          exact wpAny_pure (wpAny_pure q)
        · rw [atKey_none_of_get none_] at y
          cases y
      · have fj : fs[j]? = some (entryOfKey knd (x.1, p)) := by
          rw [entry_at heb j, at_]
          rfl
        refine wpAny_bind (wpAny_dictEntries hob hdb ?_)
        rw [fj]
        have found := atKey_of_get hnb at_
        rcases pre.look with ⟨z, _⟩ | ⟨p', e, b', y, he, rest, er⟩
        · rw [found] at z
          cases z
        · rw [found] at y
          cases y
          refine wpAny_holding (he prog w _ _ ?_)
          cases e with
          | false =>
            rw [er, Bool.false_and] at q
            show wpAny _ _ (if (!false) = true then _ else _) _ _ _
            rw [if_pos (by decide)]
            exact wpAny_pure (wpAny_pure q)
          | true =>
            rw [Bool.true_and] at er
            rw [← er] at rest
            show wpAny _ _ (if (!true) = true then _ else _) _ _ _
            rw [if_neg (by decide)]
            refine wpAny_bind (wpAny_dictEpoch hoa hda ?_)
            rw [if_neg (by simp)]
            exact wpAny_pure ⟨rfl, rfl, n + 1, more, lt, rest⟩
    · rintro acc t ⟨rfl, rfl, i, hr, hi, pre⟩
      have all : i = es.size := by
        rcases Nat.lt_or_ge i es.size with z | z
        · have e : es.size - i = es.size - (i + 1) + 1 := by omega
          rw [e, List.range'_succ] at hr
          cases hr
        · exact Nat.le_antisymm hi z
      refine wpAny_pure ?_
      rw [all, ← la, List.drop_length] at pre
      cases pre
      exact q
theorem eqDictH {a b : Addr} {xs ys : List (K × Addr × Value)} {r : Bool} {Q : Value → Shared → Prop} (ha : (a == sysModules) = false) (hb : (b == sysModules) = false) (hk : knd.room A.in1)
    (da : s.heap.DictOfH knd a xs) (db : s.heap.DictOfH knd b ys) (hu : A.units < cLine) (hits : xs.length = ys.length → Hits A.in1 s ys xs r) (h : Q (.bool (xs.length == ys.length && r)) s) :
    wpAny (model prog w) A (compareOp .Eq (.ref a) (.ref b)) Q E s := by
  refine wpAny_richCompare_same_room (op := .Eq) da.typeIs db.typeIs PySem.F.slot_dict_eq (wpAny_call_entry PySem.F.slot_dict_eq da.typeIs PySem.F.entry_dict_eq ?_ (PySem.F.args_dict_eq_2 _ _)) hu
  show wpAny _ _ (Builtin.Dict.dictSlotArgs "__eq__" ⟨[.ref a, .ref b], []⟩ >>= _) _ _ s
  unfold Builtin.Dict.dictSlotArgs
  refine wpAny_bind (wpAny_bind (wpAny_notOrdered_dict da.typeIs ?_))
  show wpAny _ _ (pure (Value.ref a, Value.ref b)) _ _ s
  refine wpAny_pure (wpAny_bind (wpAny_isInstance (T := "dict") db.typeIs PySem.F.sub_dict_dict ?_))
  simp only [Bool.not_true, Bool.false_eq_true, if_false]
  refine wpAny_bind (wpAny_pure (wpAny_bind (wpAny_pure (wpAny_bind (samePairsH hk ha hb da db hits ?_)))))
  exact wpAny_pure ⟨_, rfl, (fun z => nomatch z), by simpa using h⟩
end
section
variable {X : Cx}
/-- == of two dicts with tuple keys and flat values -/
def sameT (ks ls : List (List L2.Key × V)) : Bool := ks.length == ls.length && ks.all fun q => match valV ls q.1 with
  | some y => eqV q.2 y
  | none => false
def rEqDictT : R2 := fun x y H Q => ∃ a b ks ls, x = .ref a ∧ y = .ref b ∧ Rd H a (.dT ks) ∧ Rd H b (.dT ls) ∧ ks.all (fun q => flatV q.2) = true ∧ ls.all (fun q => flatV q.2) = true ∧ Q (.bl (sameT ks ls)) H
theorem flat_valV {k : List L2.Key} {y : V} : ∀ {ls : List (List L2.Key × V)}, ls.all (fun q => flatV q.2) = true → valV ls k = some y → flatV y = true := by
  intro ls h e
  unfold valV at e
  obtain ⟨q, e1, e2⟩ := Option.map_eq_some_iff.mp e
  have := List.all_eq_true.mp h q (List.mem_of_find?_eq_some e1)
  rw [← e2]
  exact this
theorem hitsT {A : Around} {s : Shared} {G : Hp} {ls : List (List L2.Key × V)} {ys : List KV3} (rl : KT G ls ys) (fl : ls.all (fun q => flatV q.2) = true) : ∀ {ks : List (List L2.Key × V)} {xs : List KV3}, KT G ks xs → ks.all (fun q => flatV q.2) = true →
    Hits A s ys xs (ks.all fun q => match valV ls q.1 with | some y => eqV q.2 y | none => false)
  | _, _, .nil, _ => .nil
  | _, _, .cons (a := q) (b := x) (l₁ := ks) (l₂ := xs) h t, f => by
    rw [List.all_cons, Bool.and_eq_true] at f
    have ih := hitsT (A := A) (s := s) rl fl t f.2
    have rv := rl.val q.1
    rw [List.all_cons]
    cases e : valV ls q.1 with
    | none =>
      rw [e] at rv
      have n : atKey ys x.1 = none := by
        rw [← h.1]
        cases z : atKey ys q.1 with
        | none => rfl
        | some p =>
          rw [z] at rv
          cases rv
      simp only [Bool.false_and]
      exact .miss n
    | some y =>
      rw [e] at rv
      cases z : atKey ys q.1 with
      | none =>
        rw [z] at rv
        cases rv
      | some p =>
        rw [z] at rv
        have rp : RelV y p.2 := rv
        simp only
        exact .hit (by rw [← h.1]; exact z) (eqAt_V h.2.2 rp f.1 (flat_valV fl e)) ih
theorem op_eqDictT (hu : X.A.units + 1 < cLine) : OpR X (compareOp .Eq) rEqDictT := by
  intro pins s σ H x y v u Q I rx ry h
  obtain ⟨a, b, ks, ls, rfl, rfl, ea, eb, fa, fb, q⟩ := h
  obtain rfl : v = Value.ref a := rx
  obtain rfl : u = Value.ref b := ry
  obtain ⟨_, ya, xs, ra, da⟩ := dt_rd I.hok ea
  obtain ⟨_, yb, ys, rb, db⟩ := dt_rd I.hok eb
  refine eqDictH (knd := tupleKind (mixKind X.prog X.w)) ya yb (tupleKind_room_in1 hu) da db (by omega) (fun _ => hitsT rb fb ra fa) ?_
  rw [← Paired.length ra, ← Paired.length rb]
  exact ⟨.bl (sameT ks ls), H, I, rfl, q⟩
end
end L2

set_option Elab.async false
set_option linter.all false
set_option maxRecDepth 100000
set_option maxHeartbeats 4000000
/-! sorted of data; isinstance of every dict; repr of data -/
namespace L2
open PySem PySem.Spec PyProof.Rows
section
variable {X : Cx}
theorem each_pairs {G : Hp} {K : PySem.W.Frag} : ∀ {bs : List (V × PyData)} {its : List Value}, Vals (bs.map (·.1)) its → PySem.W.EachIs (fun v b => RelV b.1 v) its bs
  | [], its, r => by
    rw [List.map_nil] at r
    cases r
    exact .nil
  | b :: bs, its, r => by
    rw [List.map_cons] at r
    cases r with
    | cons h t => exact .cons h (each_pairs (G := G) (K := K) t)
theorem pairs_each : ∀ {bs : List (V × PyData)} {its : List Value}, PySem.W.EachIs (fun v b => RelV b.1 v) its bs → Vals (bs.map (·.1)) its
  | _, _, .nil => .nil
  | _, _, .cons h t => .cons h (pairs_each t)
theorem each_reads {pins : List (Addr × Obj)} {σ : St} {H : Hp} {s : Shared} (I : Inv X pins σ H s) : ∀ {bs : List (V × PyData)} {its : List Value}, (∀ b ∈ bs, Dp X.K H b.1 b.2) → Vals (bs.map (·.1)) its → PySem.W.EachIs (fun v b => ∃ as, Reads s.heap v b.2 as) its bs
  | [], its, _, r => by
    rw [List.map_nil] at r
    cases r
    exact .nil
  | b :: bs, its, d, r => by
    rw [List.map_cons] at r
    cases r with
    | cons h t => exact .cons (Dp.reads I _ _ _ (d b List.mem_cons_self) h) (each_reads I (fun c m => d c (List.mem_cons_of_mem _ m)) t)
/-- sorted(xs), the items data that compare: bs says what they stand for -/
def rSortD (K : PySem.W.Frag) : List V → Hp → VK → Prop := fun vs H Q => ∃ (a : Addr) (bs : List (V × PyData)), vs = [.ref a] ∧ SqL K H a (bs.map (·.1)) ∧ (∀ b ∈ bs, Dp K H b.1 b.2) ∧ PySem.W.AllAlike (bs.map (·.2)) ∧ PySem.W.Sortable (bs.map (·.2)) ∧ (∀ b ∈ bs, b.2.depth ≤ 60) ∧
  ∀ p, H p = none → Q (.ref p) (upd H p (.lst ((bs.mergeSort (PySem.W.dataLe false (·.2))).map (·.1))))
theorem cr_sortD (hu : X.A.units + 64 < cLine) : CallR X (.builtin "sorted") (rSortD X.K) := by
  intro pins s σ H vs us Q I r h
  obtain ⟨a, bs, rfl, hs, hd, h1, h2, h3, q⟩ := h
  obtain ⟨its, rv, hl, hz⟩ := I.list hs
  obtain ⟨u, rfl, ru⟩ := vals1 r
  obtain rfl : u = Value.ref a := ru
  have lb : bs.length ≤ sizeLine := by rw [List.length_map] at hz; exact hz
  refine PySem.W.sorted_data (enc := (·.2)) (R := fun v b => RelV b.1 v) hl.isList (each_pairs (G := H) (K := X.K) rv) (each_reads I hd rv) h1 h2 lb (fun b m => by have := h3 b m; omega) fun out hlen e => ?_
  obtain ⟨n, hn⟩ := sortedAll_at s.heap its out.toArray
  have fresh := I.hok.fresh (Nat.le_succ s.heap.objs.size)
  refine ⟨.ref (s.heap.objs.size + 1), _, I.laid (t' := s.toks) (o := .lst ((bs.mergeSort (PySem.W.dataLe false (·.2))).map (·.1))) (fun b o e => sortedAll_old e) (Nat.le_succ _) ⟨?_, out, n, pairs_each e, hn⟩, rfl, q _ fresh⟩
  rw [List.length_map, List.length_mergeSort]
  exact lb
/-- sorted(xs) of at most one item -/
def rSort1 (K : PySem.W.Frag) : List V → Hp → VK → Prop := fun vs H Q => ∃ (a : Addr) (xs : List V), vs = [.ref a] ∧ SqL K H a xs ∧ xs.length ≤ 1 ∧ ∀ p, H p = none → Q (.ref p) (upd H p (.lst xs))
theorem perm_short {α : Type} : ∀ {b a : List α}, a.Perm b → b.length ≤ 1 → a = b
  | [], _, h, _ => h.eq_nil
  | [_], _, h, _ => List.perm_singleton.mp h
  | _ :: _ :: _, _, _, l => absurd l (by simp)
theorem swo_no : SrtO.Swo (fun (_ _ : Value) => false) := ⟨fun _ _ h => (by cases h), fun _ _ _ _ _ => rfl⟩
theorem cr_sort1 : CallR X (.builtin "sorted") (rSort1 X.K) := by
  intro pins s σ H vs us Q I r h
  obtain ⟨a, xs, rfl, hs, h1, q⟩ := h
  obtain ⟨its, rv, hl, hz⟩ := I.list hs
  obtain ⟨u, rfl, ru⟩ := vals1 r
  obtain rfl : u = Value.ref a := ru
  have li : its.length ≤ 1 := by rw [← rv.length]; exact h1
  refine SrtO.sorted_ord swo_no hl.isList (by rw [← rv.length]; exact hz) (fun h2 => by omega) fun out hs hb => ?_
  obtain ⟨n, hn⟩ := sortedAll_at s.heap its out.toArray
  have e : out = its := perm_short hb.perm li
  subst e
  have fresh := I.hok.fresh (Nat.le_succ s.heap.objs.size)
  exact ⟨.ref (s.heap.objs.size + 1), _, I.laid (t' := s.toks) (o := .lst xs) (fun b o e => sortedAll_old e) (Nat.le_succ _) ⟨hz, out, n, rv, hn⟩, rfl, q _ fresh⟩
/-- isinstance(d, c) of a dict with tuple keys, locked or not, or of one told by what is true of it -/
def rIsiD (K : PySem.W.Frag) (E : Hp → Addr → Prop) : List V → Hp → VK → Prop := fun xs H Q => ∃ (a : Addr) (c : V) (u : Value) (b : Bool), xs = [.ref a, c] ∧ ClsV c u ∧ E H a ∧ PySem.W.kitOne K (.type "dict") u = some b ∧ Q (.bl b) H
theorem call_isiD {E : Hp → Addr → Prop} (hE : ∀ (pins : List (Addr × Obj)) (s : Shared) (σ : St) (H : Hp) (a : Addr), Inv X pins σ H s → E H a → ∃ o, s.heap.get? a = some o ∧ o.cls = .type "dict") : CallR X (.builtin "isinstance") (rIsiD X.K E) := by
  intro pins s σ H xs us Q I r h
  obtain ⟨a, c, u, b, rfl, k, ty, e, q⟩ := h
  obtain ⟨u1, u2, rfl, r1, r2⟩ := vals2 r
  have e2 := k.eq r2
  subst e2
  obtain rfl : u1 = Value.ref a := r1
  exact PySem.W.kia_one PySem.W.kitx_dict I.kIn (hE pins s σ H a I ty) e (fun z => nomatch z) fun tk => ⟨.bl b, H, I.tok tk, rfl, q⟩
/-- repr(x) of data, where no repr is under way -/
def rRepr (K : PySem.W.Frag) : List V → Hp → VK → Prop := fun xs H Q => ∃ (a : Addr) (d : PyData), xs = [.ref a] ∧ Dp K H (.ref a) d ∧ d.showable = true ∧ d.hasDict = false ∧ d.depth ≤ 60 ∧ d.shown.length ≤ sizeLine ∧ Q (.str d.shown) H
theorem cr_repr (hg : X.A.guards = some []) (hu : X.A.units + 64 < cLine) : CallR X (.builtin "repr") (rRepr X.K) := by
  intro pins s σ H xs us Q I r h
  obtain ⟨a, d, rfl, hd, h1, h2, h3, h4, q⟩ := h
  obtain ⟨u, rfl, ru⟩ := vals1 r
  obtain rfl : u = Value.ref a := ru
  obtain ⟨as, rd⟩ := Dp.reads I d _ _ hd rfl
  exact repr_of_reads' rd h1 (PyData.noDict_hsm h2) hg (by omega) (fun _ _ e => e) (fun h' u tk k => ⟨.str d.shown, H, I.kept (t' := tk) k, ⟨_, rfl⟩, q⟩) h4
/-- str(x) of data -/
theorem cr_strD (hg : X.A.guards = some []) (hu : X.A.units + 64 < cLine) : CallR X (.type "str") (rRepr X.K) := by
  intro pins s σ H xs us Q I r h
  obtain ⟨a, d, rfl, hd, h1, h2, h3, h4, q⟩ := h
  obtain ⟨u, rfl, ru⟩ := vals1 r
  obtain rfl : u = Value.ref a := ru
  obtain ⟨as, rd⟩ := Dp.reads I d _ _ hd rfl
  exact str_of_reads rd h1 (PyData.noDict_hsm h2) hg (by omega) (fun _ _ e => e) (fun h' u tk k => ⟨.str d.shown, H, I.kept (t' := tk) k, ⟨_, rfl⟩, q⟩) h4
end
end L2

set_option Elab.async false
set_option linter.all false
set_option maxRecDepth 100000
set_option maxHeartbeats 4000000
/-! defs that are called where no repr is under way -/
namespace L2
open PySem PySem.Spec PyProof.Rows
/-- as FnOk, but only where the guards of repr are known to be none -/
structure FnG (P : Program) (w : World) (K : PySem.W.Frag) (mg : Str → Option Value) (base : Heap) (CX : CXT) (k : Nat) (f : Addr) (fd : FuncData) (ps : List Str) (sp : Sp) : Prop where
  len : ∀ vs H Q E, sp vs H Q E → vs.length = ps.length
  run : ∀ (A : Around) (outer : List PySem.Env) (s : Shared) (H : Hp) (args : Args) (us : List Value) (vs : List V) (Q : VK) (E : XK), Room k A → A.guards = some [] → Env0 P w K mg base A outer s H → BindsTo s fd args (ps.zip us) → Vals vs us → sp vs H Q E →
    codeAny (model P w) A (.call (.ref f) args) (CR CX outer P w H s Q E) s
theorem FnOk.g {P : Program} {w : World} {K : PySem.W.Frag} {mg : Str → Option Value} {base : Heap} {CX : CXT} {k : Nat} {f : Addr} {fd : FuncData} {ps : List Str} {sp : Sp} (F : FnOk P w K mg base CX k f fd ps sp) : FnG P w K mg base CX k f fd ps sp :=
  ⟨F.len, fun A outer s H args us vs Q E hr _ => F.run A outer s H args us vs Q E hr⟩
theorem FunD.okG {P : Program} {w : World} {K : PySem.W.Frag} {mg : Str → Option Value} {base : Heap} {x qual : Str} {params : Arguments} {body : List Stmt} {scope : Scope} {dvs : List V} {kws : List (Str × V)} {f : Addr} {fd : FuncData}
    {CX : CXT} {N ps : List Str} {k : Nat} {sp : Sp} (F : FunD K x qual params body scope dvs kws f fd) (S : FnScope N ps scope) (len : ∀ vs H Q E, sp vs H Q E → vs.length = ps.length)
    (hbody : ∀ (cdv : Value) (A : Around) (outer : List PySem.Env) (s : Shared) (H : Hp) (vs : List V) (Q : VK) (E : XK), Room k (A.deeper (envOfC qual scope s.heap.objs.size f cdv)) → A.guards = some [] → sp vs H Q E →
      ∃ t, PSs (cxOf CX P w K mg base N qual scope f cdv A outer s H E) body t ∧ t { nx := fun _ G => Q .non G, rt := Q } (start N vs) H) : FnG P w K mg base CX (k + 1) f fd ps sp := by
  obtain ⟨oc, od, dV, kV, doc, pm, an, cdv, ct, osl, rfl, lk, hcd, _, _⟩ := F.ex
  refine ⟨len, fun A outer s H args us vs Q E hr gd e0 hb r hsp => ?_⟩
  have KX : K.In s.heap := e0.mod.kin.keeps fun b o e => (e0.bs b o e).1
  have lim : s.heap.NoLimit := e0.mod.nolimit.keeps fun b o e => (e0.bs b o e).1
  have kinds : ∀ y ∈ ps.zip us, scope.names.lookup y.1 = some .local ∨ (scope.names.lookup y.1 = some .cell ∧ ((cellsFrom (s.heap.objs.size + 1) scope.names []).lookup y.1).isSome = true) := fun ⟨n, v⟩ hy => by
    rcases S.par n (List.of_mem_zip hy).1 with z | z
    · exact .inl z
    · exact .inr ⟨z, PySem.W.cellsFrom_some _ _ _ (.inl z)⟩
  refine codeAny_call_function hr.depth (KX _ _ lk) rfl S.co S.gen rfl (PySem.W.codeRec_of KX hcd) (hb _ _ _ _ (wpAny_newFunctionEnv_cells S.kind kinds fun env he t x => ?_))
  subst he
  refine ⟨lim.keeps x.toInCall.keep, codeAny_func ?_⟩
  obtain ⟨t2, ht, hq⟩ := hbody cdv A outer s H vs Q E (hr.deeper _) gd hsp
  have J : Inv (cxOf CX P w K mg base N qual scope f cdv A outer s H E) [] (start N vs) H t := inv_start S hr.hd e0 (len _ _ _ _ hsp) r x
  refine wpAny_mono (ht.run [] t (start N vs) H _ J hq) (fun fl s' hs => ?_) fun e s' hs => hs
  cases fl with
  | ret u =>
    obtain ⟨v, σ', G, I, rv, q⟩ := hs
    exact ⟨v, G, I.os, I.bare, I.base, I.hok, rv, q⟩
  | next =>
    obtain ⟨σ', G, I, q⟩ := hs
    exact ⟨.non, G, I.os, I.bare, I.base, I.hok, rfl, q⟩
  | brk =>
    obtain ⟨_, _, _, q⟩ := hs
    exact q.elim
  | cont =>
    obtain ⟨_, _, _, q⟩ := hs
    exact q.elim
section
variable {X : Cx} {CX : CXT} {k : Nat} {f : Addr} {fd : FuncData} {ps : List Str} {sp : Sp} {dvs : List V} {dd : List Value} {E : XK} {x : Str} {p pos : Pos} {e : Expr} {es : List Expr} {t : TA}
theorem run_fnG {pins : List (Addr × Obj)} {σ : St} {H : Hp} {s : Shared} {Q : VK} {us : List Value} {vs : List V} (F : FnG X.prog X.w X.K X.mg X.base CX k f fd ps sp) (hr : Room k X.A) (hg : X.A.guards = some []) (hb : Binds X.K fd ps dd) (hd : Vals dvs dd) (hx : Passes CX X E)
    (I : Inv X pins σ H s) (r : Vals vs us) (h : sp (vs ++ dvs) H Q E) : wpAny (model X.prog X.w) X.A (call (.ref f) us) (EP X pins σ Q) X.xe s := by
  have r2 : Vals (vs ++ dvs) (us ++ dd) := r.append hd
  have hl : (us ++ dd).length = ps.length := by rw [← r2.length]; exact F.len _ _ _ _ h
  refine wpAny_call (codeAny_mono (F.run X.A X.stack s H ⟨us, []⟩ (us ++ dd) (vs ++ dvs) Q E hr hg I.env0 (hb s us I.kIn hl) r2 h) fun y s' hq => ?_)
  cases y with
  | error e => exact hx pins σ H s e s' I hq
  | ok fl =>
    cases fl with
    | ret u => exact I.after hq
    | next => exact False.elim hq
    | brk => exact False.elim hq
    | cont => exact False.elim hq
theorem pe_callG (F : FnG X.prog X.w X.K X.mg X.base CX k f fd ps sp) (hr : Room k X.A) (gd : X.A.guards = some []) (hg : Gl X x) (hm : X.mg x = some (.ref f)) (hk : PySem.W.keepIn X.K (.ref f) = true) (hb : Binds X.K fd ps dd) (hd : Vals dvs dd) (hx : Passes CX X E)
    (ha : PA X (e :: es) t) (hdb : (x == ("__debug__" : Str)) = false := by decide) (he : starEach (e :: es) X.env = (false, eval e X.env) :: starEach es X.env := by rfl) (hpl : (backTo pos (starEach es X.env)).any (·.1) = false := by rfl) :
    PE X (.Call (.Name x p) (e :: es) [] pos) (tCall sp dvs E t) := by
  refine ⟨fun pins s σ H Q I h => ?_⟩
  refine wpAny_Call_Name_kw (ld_glob I hg hm ?_ hdb)
  refine PySem.W.callWith_K (h₀ := X.base) I.ok.mod.kin hk (thn (ha.run pos pins s σ H _ I h) fun us t1 ⟨vs, G, J, r, q⟩ => ⟨J.kIn, run_fnG F hr gd hb hd hx J r q⟩) he hpl
end
end L2

set_option Elab.async false
set_option linter.all false
set_option maxRecDepth 100000
set_option maxHeartbeats 4000000
/-! dicts whose keys are of many kinds: made of pairs, walked by their keys -/
namespace L2
open PySem PySem.Spec PyProof.Rows
section
variable {prog : Program} {w : World} {A : Around} {E : Value → Shared → Prop} {s : Shared}
/-- the entries of which no one has the key k -/
def NoKey (w : World) (h : Heap) (k : NestedKey) (es : Array DictEntry) : Prop := ∀ e ∈ es, ∃ k', NestedIs h k' e.key ∧ k'.depth ≤ 8 ∧ e.hash = k'.hash w ∧ k' ≠ k
theorem NoKey.at {h : Heap} {k : NestedKey} {es : Array DictEntry} (n : NoKey w h k es) {i : Nat} {e : DictEntry} (x : es[i]? = some e) : ∃ k', NestedIs h k' e.key ∧ k'.depth ≤ 8 ∧ e.hash = k'.hash w ∧ k' ≠ k := n e (Array.mem_of_getElem? x)
theorem askNew {k k' : NestedKey} {u v : Value} {Q : Bool → Shared → Prop} (hu : A.units + 8 < cLine) (hk : NestedIs s.heap k u) (hk' : NestedIs s.heap k' v) (hd : k'.depth ≤ 8) (n : k' ≠ k) (h : Q false s) : wpAny (model prog w) A (eqBool v u) Q E s :=
  eqAt_key k' k A s _ _ hk' hk (by omega) _ _ _ _ (by rw [← NestedKey.decide_eq, decide_eq_false n]; exact h)
theorem tellNew {k : NestedKey} {u : Value} {stored : List Value} {Q : Bool → Shared → Prop} (hk : NestedIs s.heap k u) (hd : k.depth ≤ 8) (hst : ∀ v ∈ stored, ∃ k', NestedIs s.heap k' v ∧ k'.depth ≤ 8) (h : Q false s) : wpAny (model prog w) A (tableMayTell u stored) Q E s := by
  unfold tableMayTell
  split
  · exact wpAny_pure h
  · refine wpAny_bind (quiet_key k u 8 s hk hd A E _ ?_)
    simp only [Bool.not_true, Bool.false_eq_true, if_false]
    refine wpAny_bind ?_
    refine wpAny_forIn_list _ (fun rest r t => t = s ∧ r = (none, ()) ∧ ∀ v ∈ rest, ∃ k', NestedIs s.heap k' v ∧ k'.depth ≤ 8) _ ?_ ?_ _ _ ⟨rfl, rfl, hst⟩
    · rintro x rest r t ⟨rfl, rfl, hr⟩
      obtain ⟨k', hb, h8⟩ := hr x List.mem_cons_self
      refine wpAny_bind (quiet_key k' x 8 _ hb h8 A E _ ?_)
      simp only [Bool.not_true, Bool.false_eq_true, if_false]
      exact wpAny_pure ⟨rfl, rfl, fun v hv => hr v (List.mem_cons_of_mem _ hv)⟩
    · rintro r t ⟨rfl, rfl, _⟩
      exact wpAny_pure h
theorem walkNew {d : Addr} {o : Obj} {es : Array DictEntry} {ep : Nat} {k : NestedKey} {u : Value} {places : List Nat} {hv : Int} {Q : Option Nat → Shared → Prop} (hu : A.units + 8 < cLine) (hk : NestedIs s.heap k u) (ho : s.heap.get? d = some o) (hd : o.data = .dict es ep) (hn : NoKey w s.heap k es) (h : Q none s) :
    wpAny (model prog w) A (dictWalkPlain d u hv es places) Q E s := by
  unfold dictWalkPlain
  refine wpAny_bind ?_
  refine wpAny_forIn_list _ (fun rest r t => t = s ∧ r = (none, ())) _ ?_ ?_ _ _ ⟨rfl, rfl⟩
  · rintro x rest r t ⟨rfl, rfl⟩
    cases hx : es[x]? with
    | none => exact wpAny_pure ⟨rfl, rfl⟩
    | some e =>
      obtain ⟨k', e1, e2, e3, e4⟩ := hn.at hx
      dsimp only
      split
      · refine wpAny_bind (wpAny_dictEpoch ho hd (wpAny_bind (askNew hu hk e1 e2 e4 (wpAny_bind (wpAny_dictEpoch ho hd ?_)))))
        rw [if_neg (by simp)]
        simp only [Bool.false_eq_true, if_false]
        exact wpAny_bind (wpAny_rule (wpAny_pure ⟨rfl, rfl⟩))
      · exact wpAny_pure ⟨rfl, rfl⟩
  · rintro r t ⟨rfl, rfl⟩
    exact wpAny_pure h
theorem textNew {d : Addr} {es : Array DictEntry} {x : Str} {u : Value} {Q : Option Nat → Shared → Prop} (hn : NoKey w s.heap (.text x) es) (h : Q none s) : wpAny (model prog w) A (foundByValue d u es x) Q E s := by
  unfold foundByValue
  have e : es.findIdx? (·.key.isStr x) = none := by
    rw [Array.findIdx?_eq_none_iff]
    intro e he
    obtain ⟨k', e1, e2, e3, e4⟩ := hn e he
    rw [← Bool.not_eq_true]
    revert e1
    generalize e.key = v
    intro e1 z
    cases e1 with
    | text y t => exact e4 (by rw [show y = x from by simpa [Value.isStr] using z])
    | _ => simp [Value.isStr] at z
  rw [e]
  exact wpAny_pure h
theorem findNew {d : Addr} {o : Obj} {es : Array DictEntry} {ep : Nat} {k : NestedKey} {u : Value} {hv : Int} {Q : Option Nat → Shared → Prop} (hu : A.units + 8 < cLine) (hk : NestedIs s.heap k u) (h8 : k.depth ≤ 8) (ho : s.heap.get? d = some o) (hd : o.data = .dict es ep) (hn : NoKey w s.heap k es) (h : Q none s) :
    wpAny (model prog w) A (dictFind d u hv) Q E s := by
  have hst : ∀ v ∈ (placesWithHash es.size (fun i => es[i]?.map (·.hash)) hv).filterMap (fun i => es[i]?.map (·.key)), ∃ k', NestedIs s.heap k' v ∧ k'.depth ≤ 8 := by
    intro v hv
    obtain ⟨i, _, hi⟩ := List.mem_filterMap.mp hv
    cases hx : es[i]? with
    | none => rw [hx] at hi; cases hi
    | some e =>
      rw [hx] at hi
      obtain rfl : e.key = v := by simpa using hi
      obtain ⟨k', e1, e2, _⟩ := hn.at hx
      exact ⟨k', e1, e2⟩
  have hany : ¬ (es.any fun e => e.key == u && e.hash != hv) = true := by
    rw [← Array.any_toList, List.any_eq_true]
    rintro ⟨e, hin, hc⟩
    obtain ⟨k', e1, e2, e3, e4⟩ := hn e (Array.mem_toList_iff.mp hin)
    simp only [Bool.and_eq_true, beq_iff_eq] at hc
    rw [hc.1] at e1
    exact e4 (NestedIs.inj _ _ _ e1 hk)
  have loop : ∀ (stored : List Value) (places : List Nat), wpAny (model prog w) A (do
      let mut hit : Option Nat := none
      for i in places do
        if let some e := es[i]? then
          if e.hash == hv then
            let before ← dictEpoch d (keyPart u)
            let same ← eqBool e.key u
            if (← dictEpoch d (keyPart u)) != before then unsupported "dict.changed-during-lookup"
            if same then
              if hit.isSome then unsupported "dict.find:order-among-keys-of-one-hash"
              rule "dict.find.hit"
              if stored.length < 2 then return some i
              hit := some i
            else
              rule "dict.find.same-hash-other-key"
              if false && !(0 ≤ hv && hv < 32) then unsupported "dict.find:asked-again-or-not-hangs-on-the-table"
      return hit) Q E s := by
    intro stored places
    dsimp only
    refine wpAny_bind ?_
    refine wpAny_forIn_list _ (fun rest r t => t = s ∧ r = (none, none)) _ ?_ ?_ _ _ ⟨rfl, rfl⟩
    · rintro x rest r t ⟨rfl, rfl⟩
      cases hx : es[x]? with
      | none => exact wpAny_pure ⟨rfl, rfl⟩
      | some e =>
        obtain ⟨k', e1, e2, e3, e4⟩ := hn.at hx
        dsimp only
        split
        · refine wpAny_bind (wpAny_dictEpoch ho hd (wpAny_bind (askNew hu hk e1 e2 e4 (wpAny_bind (wpAny_dictEpoch ho hd ?_)))))
          rw [if_neg (by simp)]
          simp only [Bool.false_eq_true, if_false]
          refine wpAny_bind (wpAny_rule ?_)
          simp only [Bool.false_and, Bool.false_eq_true, if_false]
          exact wpAny_pure ⟨rfl, rfl⟩
        · exact wpAny_pure ⟨rfl, rfl⟩
    · rintro r t ⟨rfl, rfl⟩
      exact wpAny_pure h
  unfold dictFind
  refine wpAny_holding ?_
  refine wpAny_bind (wpAny_dictEntries ho hd ?_)
  cases hk with
  | none =>
    refine wpAny_ite ?_
    split
    · exact walkNew hu .none ho hd hn h
    refine wpAny_ite ?_
    split
    · refine wpAny_bind (wpAny_pure (wpAny_ite ?_))
      rw [if_neg (by simp)]
      exact loop _ _
    · refine wpAny_bind (tellNew .none h8 hst (wpAny_ite ?_))
      rw [if_neg (by simp)]
      exact loop _ _
  | bool e =>
    refine wpAny_ite ?_
    split
    · exact walkNew hu (.bool e) ho hd hn h
    refine wpAny_ite ?_
    split
    · refine wpAny_bind (wpAny_pure (wpAny_ite ?_))
      rw [if_neg (by simp)]
      exact loop _ _
    · refine wpAny_bind (tellNew (.bool e) h8 hst (wpAny_ite ?_))
      rw [if_neg (by simp)]
      exact loop _ _
  | int i t =>
    refine wpAny_ite ?_
    split
    · exact walkNew hu (.int i t) ho hd hn h
    refine wpAny_ite ?_
    split
    · refine wpAny_bind (wpAny_pure (wpAny_ite ?_))
      rw [if_neg (by simp)]
      exact loop _ _
    · refine wpAny_bind (tellNew (.int i t) h8 hst (wpAny_ite ?_))
      rw [if_neg (by simp)]
      exact loop _ _
  | text x t =>
    refine wpAny_ite ?_
    split
    · exact textNew hn h
    refine wpAny_ite ?_
    split
    · exact walkNew hu (.text x t) ho hd hn h
    refine wpAny_ite ?_
    split
    · refine wpAny_bind (wpAny_pure (wpAny_ite ?_))
      rw [if_neg (by simp)]
      exact loop _ _
    · refine wpAny_bind (tellNew (.text x t) h8 hst (wpAny_ite ?_))
      rw [if_neg (by simp)]
      exact loop _ _
  | tup q1 q2 q3 q4 =>
    refine wpAny_ite ?_
    split
    · exact walkNew hu (.tup q1 q2 q3 q4) ho hd hn h
    refine wpAny_ite ?_
    split
    · refine wpAny_bind (wpAny_pure (wpAny_ite ?_))
      rw [if_neg (by simp)]
      exact loop _ _
    · refine wpAny_bind (tellNew (.tup q1 q2 q3 q4) h8 hst (wpAny_ite ?_))
      rw [if_neg (by simp)]
      exact loop _ _
/-- the dict at d, its entries the pairs es, told by their keys -/
abbrev KVs := List (NestedKey × Value × Value)
def enM (w : World) (p : NestedKey × Value × Value) : DictEntry := ⟨p.1.hash w, p.2.1, p.2.2⟩
def MixAt (w : World) (h : Heap) (d : Addr) (ps : KVs) : Prop := ∃ o es ep, h.get? d = some o ∧ o.ExactDict ∧ o.data = .dict es ep ∧ es.toList = ps.map (enM w)
theorem setNew {d : Addr} {k : NestedKey} {u v : Value} {ps : KVs} {Q : Unit → Shared → Prop} (hu : A.units + 8 < cLine) (hk : NestedIs s.heap k u) (h8 : k.depth ≤ 8) (hm : MixAt w s.heap d ps) (hp : ∀ p ∈ ps, NestedIs s.heap p.1 p.2.1 ∧ p.1.depth ≤ 8 ∧ p.1 ≠ k)
    (hQ : ∀ h', MixAt w h' d (ps ++ [(k, u, v)]) → Heap.SameBut d s.heap h' → Q () { s with heap := h', toks := s.toks + k.draws }) (hz : ps.length ≤ sizeLine) : wpAny (model prog w) A (dictSet d u v) Q E s := by
  obtain ⟨o, es, ep, ho, hc, hd, he⟩ := hm
  have hsz : es.size = ps.length := by
    have := congrArg List.length he
    simpa using this
  unfold dictSet
  refine wpAny_holding ?_
  refine wpAny_bind (pyHash_key k u A s _ hk (by omega) ?_)
  unfold dictSetHashed
  refine wpAny_holding ?_
  refine wpAny_bind (findNew (s := { s with toks := s.toks + k.draws }) hu hk h8 ho hd (fun e m => ?_) ?_)
  · have m : e ∈ ps.map (enM w) := he ▸ Array.mem_toList_iff.mpr m
    obtain ⟨p, hpp, rfl⟩ := List.mem_map.mp m
    obtain ⟨h1, h2, h3⟩ := hp p hpp
    exact ⟨p.1, h1, h2, rfl, h3⟩
  · refine wpAny_bind (wpAny_rule (wpAny_updateDictKeys (hz := by omega) (s := { s with toks := s.toks + k.draws }) ho hd (hQ _ ⟨_, _, ep + 1, Heap.get?_update_self _ ho (Obj.isFreed_of_dict (Obj.data_mapDictKeys hd _)), hc.mapDictKeys _, Obj.data_mapDictKeys hd _, ?_⟩ (Heap.SameBut.update ..))))
    simp [he, enM]
end
end L2

set_option Elab.async false
set_option linter.all false
set_option maxRecDepth 100000
set_option maxHeartbeats 4000000
namespace L2
open PySem PySem.Spec PyProof.Rows Dt
mutual
/-- the value v is the key k -/
inductive Nk (H : Hp) : NestedKey → V → Prop
  | none : Nk H .none .non
  | bl {b i} : i = (if b = true then 1 else 0) → Nk H (.num i) (.bl b)
  | int {i} : Nk H (.num i) (.int i)
  | str {x} : Nk H (.text x) (.str x)
  | tup {a vs ks} : H a = some (.tup vs) → NkAll H ks vs → Nk H (.tup ks) (.ref a)
inductive NkAll (H : Hp) : List NestedKey → List V → Prop
  | nil : NkAll H [] []
  | cons {k v ks vs} : Nk H k v → NkAll H ks vs → NkAll H (k :: ks) (v :: vs)
end
section
variable {P : Program} {w : World} {H : Hp} {h : Heap}
mutual
theorem Nk.is (hk : HOk P w H h) : ∀ {k : NestedKey} {v : V} {u : Value}, Nk H k v → RelV v u → NestedIs h k u
  | _, _, _, .none, r => by
    obtain rfl := (show _ = Value.none from r)
    exact .none
  | _, _, _, .bl e, r => by
    obtain rfl := (show _ = Value.bool _ from r)
    exact .bool e
  | _, _, _, .int, r => by
    obtain ⟨t, rfl⟩ := r
    exact .int _ t
  | _, _, _, .str, r => by
    obtain ⟨t, rfl⟩ := r
    exact .text _ t
  | _, _, _, .tup e a, r => by
    obtain rfl := (show _ = Value.ref _ from r)
    obtain ⟨_, its, rv, o, h1, h2, n, h3⟩ := hk _ _ e
    exact .tup h1 h2 h3 (NkAll.is hk a rv)
theorem NkAll.is (hk : HOk P w H h) : ∀ {ks : List NestedKey} {vs : List V} {us : List Value}, NkAll H ks vs → Vals vs us → NestedAll h ks us
  | _, _, _, .nil, .nil => .nil
  | _, _, _, .cons x t, .cons r s => .cons (Nk.is hk x r) (NkAll.is hk t s)
end
end
section
variable {X : Cx}
/-- dict(ps), ps a list of pairs whose keys are of many kinds, no two alike -/
def rDictM (K : PySem.W.Frag) : List V → Hp → VK → Prop := fun xs H Q => ∃ (a : Addr) (ps : List Addr) (ks : List NestedKey) (kvs : List (V × V)), xs = [.ref a] ∧ SqL K H a (ps.map V.ref) ∧
  Paired (fun p kv => H p = some (.tup [kv.1, kv.2])) ps kvs ∧ NkAll H ks (kvs.map (·.1)) ∧ ks.Nodup ∧ (∀ k ∈ ks, k.depth ≤ 8) ∧
  ∀ p od us, H p = none → Vals (kvs.map (·.1)) us → Q (.ref p) (upd H p (.frz od (.ext (KeysAt p us))))
theorem pairsM_of {pins : List (Addr × Obj)} {σ : St} {H : Hp} {s : Shared} (I : Inv X pins σ H s) : ∀ {ps : List Addr} {ks : List NestedKey} {kvs : List (V × V)}, Paired (fun p kv => H p = some (.tup [kv.1, kv.2])) ps kvs → NkAll H ks (kvs.map (·.1)) →
    ∃ xs : KVs, xs.map (·.1) = ks ∧ Vals (kvs.map (·.1)) (xs.map (·.2.1)) ∧ xs.length = ps.length ∧ (∀ x ∈ xs, NestedIs s.heap x.1 x.2.1) ∧ ∀ (j : Nat) (x : NestedKey × Value × Value), xs[j]? = some x → ∃ T, ps[j]? = some T ∧ s.heap.IsTuple T #[x.2.1, x.2.2]
  | _, _, _, .nil, .nil => ⟨[], rfl, .nil, rfl, fun x hx => (nomatch hx), fun j x e => by simp at e⟩
  | _, _, _, .cons (a := p) (b := kv) e1 t, .cons (k := k) n1 n2 => by
    obtain ⟨xs, r1, r2, hl, hi, hp⟩ := pairsM_of I t n2
    obtain ⟨_, its, rv, ht⟩ := (show ObjOk X.prog X.w H s.heap p (.tup [kv.1, kv.2]) from I.hok p _ e1)
    obtain ⟨u, y, rfl, ru, ry⟩ := vals2 rv
    refine ⟨(k, u, y) :: xs, by rw [List.map_cons, r1], .cons ru r2, by rw [List.length_cons, List.length_cons, hl], fun x hx => ?_, fun j x e => ?_⟩
    · rcases List.mem_cons.mp hx with rfl | hx
      · exact n1.is I.hok ru
      · exact hi x hx
    · cases j with
      | zero =>
        have e' : (k, u, y) = x := Option.some.inj e
        subst e'
        obtain ⟨o, h1, h2, n, h3⟩ := ht
        exact ⟨p, rfl, o, h1, h2, n, h3⟩
      | succ j =>
        obtain ⟨T, e1, e2⟩ := hp j x (by simpa using e)
        exact ⟨T, by simpa using e1, e2⟩
theorem call_dictM (hc : X.calm = true) (hu : X.A.units + 10 < cLine) : CallR X (.type "dict") (rDictM X.K) := by
  intro pins s σ H xs us Q I r h
  obtain ⟨a, ps, ks, kvs, rfl, hq, hp, hk, hn, h8, q⟩ := h
  obtain ⟨u, rfl, rx⟩ := vals1 r
  obtain rfl : u = Value.ref a := rx
  obtain ⟨its, rv, pl, hz⟩ := I.list hq
  have ei := refs_at rv
  subst ei
  rw [List.length_map] at hz
  obtain ⟨ys, e1, rel, hl, his, hpr⟩ := pairsM_of I hp hk
  subst e1
  obtain ⟨o, n, ho, hcl, hd, hdat⟩ := pl
  have hm : (s.heap.objs.size == sysModules) = false := beq_eq_false_iff_ne.mpr (Nat.ne_of_gt I.big)
  have fresh := I.hok.fresh (Nat.le_refl s.heap.objs.size)
  have put : ∀ j k v, (ys.map fun x : NestedKey × Value × Value => (x.2.1, x.2.2))[j]? = some (k, v) → ∃ x : NestedKey × Value × Value, ys[j]? = some x ∧ x.2.1 = k ∧ x.2.2 = v := fun j k v e => by
    rw [List.getElem?_map, Option.map_eq_some_iff] at e
    obtain ⟨x, ex, e2⟩ := e
    cases e2
    exact ⟨x, ex, rfl, rfl⟩
  refine call_dict_arg (n := (ys.map fun x : NestedKey × Value × Value => (x.2.1, x.2.2)).length) (PairArg.list a (ps.map Value.ref).toArray (fun j => ps.getD j 0) (ys.map fun x : NestedKey × Value × Value => (x.2.1, x.2.2))) ⟨⟨o, n, ho, hcl, hd, hdat⟩, by simp [hl], fun j k v e => ?_⟩ fun s1 e1 hdf ok => ?_
  · obtain ⟨x, ex, rfl, rfl⟩ := put j k v e
    obtain ⟨T, e3, e4⟩ := hpr j x ex
    have e5 : ps.getD j 0 = T := by rw [List.getD_eq_getElem?_getD, e3]; rfl
    show (List.map Value.ref ps).toArray[j]? = some (Value.ref (ps.getD j 0)) ∧ PairAt s.heap (ps.getD j 0) _ _
    rw [e5]
    exact ⟨by simp [e3], .inl e4⟩
  · subst e1
    have grow : ∀ b ob, s.heap.get? b = some ob → (s.heap.push { cls := .type "dict", data := .dict #[] }).get? b = some ob := fun b ob e => Heap.get?_push_of_some _ e
    have ne : ∀ b ob, s.heap.get? b = some ob → b ≠ s.heap.objs.size := fun b ob e => Nat.ne_of_lt (Heap.lt_size e)
    have keys : ∀ h' : Heap, (∀ b ob, s.heap.get? b = some ob → h'.get? b = some ob) → ∀ x ∈ ys, NestedIs h' x.1 x.2.1 := fun h' k x hx => NestedIs.at (fun b ob vs n e _ => k b ob e) _ _ (his x hx)
    refine updateFrom_arg (A := X.A.in1) (Tab := fun i h => MixAt X.w h s.heap.objs.size (ys.take i) ∧ ∀ b ob, s.heap.get? b = some ob → h.get? b = some ob) (PairArg.list a (ps.map Value.ref).toArray (fun j => ps.getD j 0) (ys.map fun x : NestedKey × Value × Value => (x.2.1, x.2.2))) .none (I.ok.hd hc) ok hdf
      ⟨⟨_, #[], _, Heap.get?_push_size _ rfl, ⟨rfl, rfl, rfl⟩, rfl, rfl⟩, grow⟩ (fun i h tb => ?_) (fun i h h' wr hd hw tb hk => ?_) (fun i k v s2 Q2 E2 hi hrel tb _ hQ => ?_) fun h' tk tb hk => ?_
    · obtain ⟨⟨_, _, _, e, _⟩, _⟩ := tb
      exact Heap.lt_size e
    · obtain ⟨⟨o2, es, ep, e2, r⟩, k2⟩ := tb
      refine ⟨⟨o2, es, ep, hk _ _ hd e2, r⟩, fun b ob e => hk b ob (fun m => ?_) (k2 b ob e)⟩
      rcases hw b m with z | z
      · cases z
      · rw [grow b ob e] at z
        cases z
    · obtain ⟨x, ex, rfl, rfl⟩ := put i k v hrel
      have il : i < ys.length := (List.getElem?_eq_some_iff.mp ex).1
      have tk1 : ys.take (i + 1) = ys.take i ++ [x] := by rw [List.take_add_one, ex]; rfl
      have xm : x ∈ ys := List.mem_of_getElem? ex
      refine setNew (by show X.A.units + 1 + 1 + 8 < cLine; omega) (keys _ tb.2 x xm) (h8 _ (List.mem_map.mpr ⟨x, xm, rfl⟩)) tb.1 (fun p m => ?_) (fun h' hm' sb => ?_) (by rw [List.length_take]; omega)
      · have pm := List.mem_of_mem_take m
        refine ⟨keys _ tb.2 p pm, h8 _ (List.mem_map.mpr ⟨p, pm, rfl⟩), fun z => ?_⟩
        obtain ⟨j, hj, e⟩ := List.mem_iff_getElem.mp m
        have jl : j < i := by rw [List.length_take] at hj; omega
        have ej : ys[j]? = some p := by rw [← e, List.getElem_take, List.getElem?_eq_getElem]
        have a1 : (ys.map (·.1))[j]? = some x.1 := by rw [List.getElem?_map, ej]; exact congrArg some z
        have a2 : (ys.map (·.1))[i]? = some x.1 := by rw [List.getElem?_map, ex]; rfl
        have b1 := (List.getElem?_eq_some_iff.mp a1).2
        have b2 := (List.getElem?_eq_some_iff.mp a2).2
        exact List.pairwise_iff_getElem.mp hn j i _ _ jl (b1.trans b2.symm)
      · exact hQ h' _ ⟨by rw [tk1]; exact hm', fun b ob e => sb.extBut b ob (ne b ob e) (tb.2 b ob e)⟩ sb
    · have e : ys.take (ys.map fun x : NestedKey × Value × Value => (x.2.1, x.2.2)).length = ys := List.take_of_length_le (by rw [List.length_map]; exact Nat.le_refl _)
      rw [e] at tb
      obtain ⟨⟨o2, es, ep, e2, hx, hdt, hes⟩, k2⟩ := tb
      have key : KeysAt s.heap.objs.size (ys.map (·.2.1)) h' := ⟨hm, by rw [List.length_map, hl]; exact hz, o2, es, ep, e2, hx, hdt, by rw [hes, List.map_map]; rfl⟩
      refine ⟨rfl, .ref s.heap.objs.size, _, I.laid (t' := tk) (o := .frz o2 (.ext (KeysAt s.heap.objs.size (ys.map (·.2.1))))) k2 (Nat.le_refl _) ⟨e2, key, ⟨o2, e2⟩, fun h1 h2 ⟨z1, z2, o3, es3, ep3, z3, z4⟩ k => ⟨z1, z2, o3, es3, ep3, k _ z3, z4⟩⟩, rfl, q _ o2 _ fresh rel⟩
end
/-! the keys, one after the other -/
def Itkm (d : Addr) (o : Obj) (us : List Value) (xs : List V) : It :=
  ⟨fun i H => H d = some (.frz o (.ext (KeysAt d us))) ∧ i < us.length, fun i H x H' => H' = H ∧ xs[i]? = some x, fun i H => H d = some (.frz o (.ext (KeysAt d us))) ∧ us.length ≤ i⟩
theorem frzM {X : Cx} {pins : List (Addr × Obj)} {σ : St} {H : Hp} {s : Shared} {d : Addr} {o : Obj} {us : List Value} (I : Inv X pins σ H s) (h : H d = some (.frz o (.ext (KeysAt d us)))) :
    (d == sysModules) = false ∧ s.heap.get? d = some o ∧ o.ExactDict ∧ ∃ (es : Array DictEntry) (ep : Nat), o.data = .dict es ep ∧ es.size = us.length ∧ ∀ (i : Nat) (u : Value), us[i]? = some u → ∃ en : DictEntry, es[i]? = some en ∧ en.key = u := by
  obtain ⟨hd, ⟨z1, z2, o2, es, ep, ho, hx, hdt, he⟩, _⟩ := I.hok d _ h
  rw [hd] at ho
  cases ho
  refine ⟨z1, hd, hx, es, ep, hdt, ?_, fun i u e => ?_⟩
  · have := congrArg List.length he
    simpa using this
  · rw [← he, List.getElem?_map, Option.map_eq_some_iff] at e
    obtain ⟨en, e1, e2⟩ := e
    exact ⟨en, by simpa using e1, e2⟩
theorem turn_keysM {P : Program} {w : World} {K : PySem.W.Frag} {tg : Expr} {d : Addr} {o : Obj} {es : Array DictEntry} {ep : Nat} {us : List Value} {xs : List V} (hv : Vals xs us) (it : Addr) (hod : o.data = .dict es ep) : Turn P w K tg (Itkm d o us xs) [it] it (fun i h => h.IsKeyIter it d i us.length ep) where
  mem := by simp
  obj := fun i h st b hb => by
    obtain rfl : b = it := by simpa using hb
    obtain ⟨oi, e, c, dd⟩ := st
    exact ⟨oi, e, fun v z => by rw [dd] at z; cases z⟩
  keep := fun i h h' st k => st.at fun oi e => k it (by simp) oi e
  item := by
    intro X hP hw hK hc i pins s σ H E I hf st hg
    subst hP hw hK
    obtain ⟨hd, hi⟩ := hg
    obtain ⟨f0, f1, f2, f3, f4, f5⟩ := hf it (by simp)
    obtain ⟨hs, hgd, hx, es', ep', hdt, hsz, ent⟩ := frzM I hd
    obtain ⟨rfl, rfl⟩ := dict_ep hod hdt
    have hu : us[i]? = some us[i] := List.getElem?_eq_getElem hi
    obtain ⟨en, hen, hkey⟩ := ent i _ hu
    obtain ⟨x, hx1, hx2⟩ : ∃ x, xs[i]? = some x ∧ RelV x us[i] := by
      have il : i < xs.length := by rw [hv.length]; exact hi
      obtain ⟨u, e1, e2⟩ := hv.get (List.getElem?_eq_getElem il)
      rw [hu] at e1
      cases e1
      exact ⟨_, List.getElem?_eq_getElem il, e2⟩
    refine next_key_item st hgd hdt hsz hen fun h' st' sb => ?_
    have I1 : Inv X pins σ H { s with heap := h' } := I.turned (t' := s.toks) (fun b ob hb e => (sb.2 b hb).trans e) f0 f1 f3 f4 f5
    obtain ⟨oi, e, c, dd⟩ := id st'
    exact ⟨en.key, rfl, go_of (s := { s with heap := h' }) e c dd (by decide) ⟨x, H, I1, by rw [hkey]; exact hx2, ⟨rfl, hx1⟩, st', fun b hb => (hf b hb).1⟩⟩
  done := by
    intro X hP hw hK hc i pins s σ H E I hf st hg
    subst hP hw hK
    obtain ⟨hd, hi⟩ := hg
    obtain ⟨f0, f1, f2, f3, f4, f5⟩ := hf it (by simp)
    obtain ⟨hs, hgd, hx, es', ep', hdt, hsz, ent⟩ := frzM I hd
    obtain ⟨rfl, rfl⟩ := dict_ep hod hdt
    exact next_key_end (I.ok.hd hc) st hgd hdt hsz hi fun h' eb => ⟨rfl, I.turned (t' := s.toks) (fun b ob hb e => eb b ob hb e) f0 f1 f3 f4 f5⟩
  self := fun A i s Q E st h => wpAny_pyIter_keyiter st h
def iKeysX (td : TE) : TI := fun σ H R => td σ H fun x H1 => ∃ d o us xs, x = .ref d ∧ Vals xs us ∧ H1 d = some (.frz o (.ext (KeysAt d us))) ∧ R (Itkm d o us xs) H1
theorem pi_keysX {X : Cx} {tg e : Expr} {td : TE} (he : PE X e td) : PI X tg e (iKeysX td) := by
  refine ⟨fun pins s σ H R I h => ?_⟩
  refine thn (he.run pins s σ H _ I h) fun u s1 ⟨x, H1, I1, rx, d, o, us, xs, ex, hv, hd, q⟩ => ?_
  subst ex
  obtain rfl : u = Value.ref d := rx
  obtain ⟨hs, hgd, hx, es, ep, hdt, hsz, ent⟩ := frzM I1 hd
  refine iter_keys hs hgd hx hdt (pi_one (tk := s1.toks) I1 _ (turn_keysM hv _ hdt) ⟨_, Heap.get?_push_size _ rfl, rfl, ?_⟩ q)
  rw [hsz] <;> rfl
end L2

set_option Elab.async false
set_option linter.all false
set_option maxRecDepth 100000
set_option maxHeartbeats 4000000
/-! dicts with tuple keys, sorts, texts, isinstance, in data -/
namespace Dt
open PySem PyProof.Rows L2
/-- a key as a datum -/
def keyD : L2.Key → D
  | .inl i => .int i
  | .inr s => .str s
def kD (k : List L2.Key) : D := .tup (k.map keyD)
theorem keyD_inv {K : PySem.W.Frag} {H : Hp} {v : V} {k : L2.Key} (h : Is K H v (keyD k)) : v = kV k := by
  cases k with
  | inl i => exact h.int_inv
  | inr s => exact h.str_inv
theorem keyD_is {K : PySem.W.Frag} {H : Hp} (k : L2.Key) : Is K H (kV k) (keyD k) := by
  cases k with
  | inl i => exact .int
  | inr s => exact .str
theorem keys_inv {K : PySem.W.Frag} {H : Hp} : ∀ {ks : List L2.Key} {vs : List V}, IsAll K H vs (ks.map keyD) → vs = ks.map kV
  | [], _, h => by cases h; rfl
  | k :: r, _, h => by
    cases h with
    | cons a t => rw [keyD_inv a, keys_inv t]; rfl
theorem keys_is {K : PySem.W.Frag} {H : Hp} : ∀ ks : List L2.Key, IsAll K H (ks.map kV) (ks.map keyD)
  | [] => .nil
  | k :: r => .cons (keyD_is k) (keys_is r)
theorem kD_inv {K : PySem.W.Frag} {H : Hp} {v : V} {k : List L2.Key} (h : Is K H v (kD k)) : ∃ b, v = .ref b ∧ H b = some (.tup (k.map kV)) := by
  obtain ⟨p, xs, rfl, hp, ia⟩ := h.tup_inv
  exact ⟨p, rfl, by rw [← keys_inv ia]; exact hp⟩
theorem kD_is {K : PySem.W.Frag} {H : Hp} {b : Addr} {k : List L2.Key} (h : H b = some (.tup (k.map kV))) : Is K H (.ref b) (kD k) := .tup h (keys_is k)
/-- what a dict holds at a key, in data -/
def lookD : List (List L2.Key) → List D → List L2.Key → Option D
  | k :: ks, e :: es, q => if k = q then some e else lookD ks es q
  | _, _, _ => none
theorem look_val {K : PySem.W.Frag} {H : Hp} (q : List L2.Key) : ∀ {ks : List (List L2.Key)} {vs : List V} {es : List D}, ks.length = vs.length → IsAll K H vs es →
    (valV (ks.zip vs) q = none ∧ lookD ks es q = none) ∨ ∃ v d, valV (ks.zip vs) q = some v ∧ lookD ks es q = some d ∧ Is K H v d
  | [], [], _, _, .nil => .inl ⟨rfl, rfl⟩
  | k :: ks, v :: vs, _, e, .cons h t => by
    have ih := look_val q (ks := ks) (Nat.succ.inj e) t
    by_cases z : k = q
    · exact .inr ⟨v, _, valV_pos z, if_pos z, h⟩
    · have e1 : valV ((k :: ks).zip (v :: vs)) q = valV (ks.zip vs) q := valV_neg (p := (k, v)) z
      rw [e1]
      unfold lookD
      rw [if_neg z]
      exact ih
section
variable {X : Cx} {c : Fx} {ds : List Sl} {a b d : D} {P Pa Pb : D → Prop} {e ea eb ec : Expr} {pos : Pos} {ks : List (List L2.Key)} {es : List D} {k : List L2.Key}
theorem Is.dic_inv {K : PySem.W.Frag} {H : Hp} {v : V} (h : Is K H v (.dic ks es)) : ∃ a xs, v = .ref a ∧ Rd H a (.dT (ks.zip xs)) ∧ ks.length = xs.length ∧ ks.Nodup ∧ IsAll K H xs es := by
  cases h with
  | dic h l n i => exact ⟨_, _, rfl, h, l, n, i⟩
theorem rd_uncut {M : List Addr} {H : Hp} {a : Addr} {u : HO} (h : Rd (cut M H) a u) : Rd H a u := (cut_sub (M := M) (H := H)).rd h
theorem dget_of {K : PySem.W.Frag} {M : List Addr} {H : Hp} {p b : Addr} {xs : List V} (h : Rd (cut M H) p (.dT (ks.zip xs))) (hb : cut M H b = some (.tup (k.map kV))) : DGet H p (.ref b) (valV (ks.zip xs) k) :=
  .inr ⟨_, k, b, rd_uncut h, rfl, (cut_at hb).1, rfl⟩
/-- d[k] -/
theorem dv_dget (hu : X.A.units + 1 < cLine) (ha : DV X c ds ea (.dic ks es)) (hb : DV X c ds eb (kD k)) (h : lookD ks es k = some d) (hs : NoSl eb := by intro _ _; rfl) : DV X c ds (.Subscript ea eb pos) d :=
  de_of (L2.pe_dget hu ha hb hs) fun M ow σ H E Q q => ⟨M, ow, E, fun v x H1 p1 l1 i1 => ⟨M, ow, E.up l1, fun w y H2 p2 l2 i2 => by
    subst p1 p2
    obtain ⟨p, xs, rfl, hr, hl, _, ia⟩ := (i1.up ((E.up l1).ok.cut l2)).dic_inv
    obtain ⟨b, rfl, hb⟩ := kD_inv i2
    rcases look_val k hl ia with ⟨_, z⟩ | ⟨v, d', e1, e2, iv⟩
    · rw [h] at z
      cases z
    · rw [h] at e2
      cases e2
      exact ⟨p, v, rfl, by rw [← e1]; exact dget_of (K := X.K) hr hb, q v d H2 rfl (l1.tr l2) iv⟩⟩⟩
/-- k in d -/
theorem dv_din (hu : X.A.units + 1 < cLine) (hb : DV X c ds ea (kD k)) (ha : DV X c ds eb (.dic ks es)) (hm : behindInMarks .In eb = false := by rfl) : DV X c ds (.Compare ea [.In] [eb] pos) (.bl (lookD ks es k).isSome) :=
  de_of (L2.pe_cmp (L2.pc_din hu hb ha) hm) fun M ow σ H E Q q => ⟨M, ow, E, fun v x H1 p1 l1 i1 => ⟨M, ow, E.up l1, fun w y H2 p2 l2 i2 => by
    subst p1 p2
    obtain ⟨p, xs, rfl, hr, hl, _, ia⟩ := i2.dic_inv
    obtain ⟨b, rfl, hb⟩ := kD_inv (i1.up ((E.up l1).ok.cut l2))
    refine ⟨p, valV (ks.zip xs) k, rfl, dget_of (K := X.K) hr hb, ?_⟩
    rcases look_val k hl ia with ⟨z1, z2⟩ | ⟨v, d', e1, e2, iv⟩
    · rw [z1]
      exact q _ _ H2 rfl (l1.tr l2) (by rw [z2]; exact .bl)
    · rw [e1]
      exact q _ _ H2 rfl (l1.tr l2) (by rw [e2]; exact .bl)⟩⟩
/-- d.get(k, x) -/
theorem dv_dget2 {apos cpos : Pos} {x : D} (hu : X.A.units + 1 < cLine) (ha : DV X c ds ea (.dic ks es)) (hb : DV X c ds eb (kD k)) (hx : DV X c ds ec x) (m : M2 X ea "get" apos eb ec cpos) : DV X c ds (.Call (.Attribute ea "get" apos) [eb, ec] [] cpos) ((lookD ks es k).getD x) :=
  de_of (L2.pe_dget2 hu ha hb hx m) fun M ow σ H E Q q => ⟨M, ow, E, fun v y H1 p1 l1 i1 => by
    subst p1
    obtain ⟨p, xs, rfl, hr, hl, hn, ia⟩ := i1.dic_inv
    refine ⟨p, rfl, .inr ⟨_, rd_uncut hr⟩, M, ow, E.up l1, fun w y2 H2 p2 l2 i2 => ⟨M, ow, E.up (l1.tr l2), fun w3 y3 H3 p3 l3 i3 => ?_⟩⟩
    subst p2 p3
    obtain ⟨b, rfl, hb⟩ := kD_inv (i2.up ((E.up (l1.tr l2)).ok.cut l3))
    have sb := (E.up l1).ok.cut (l2.tr l3)
    refine ⟨_, dget_of (K := X.K) (sb.rd hr) hb, ?_⟩
    rcases look_val k hl (ia.up sb) with ⟨z1, z2⟩ | ⟨v, d', e1, e2, iv⟩
    · rw [z1]
      exact q _ _ H3 rfl ((l1.tr l2).tr l3) (by rw [z2]; exact i3)
    · rw [e1]
      exact q _ _ H3 rfl ((l1.tr l2).tr l3) (by rw [e2]; exact iv)⟩
/-- {} with tuple keys to come -/
theorem dv_dnil : DV X c ds (.Dict [] [] pos) (.dic [] []) := de_of L2.pe_dnewT fun M ow σ H E Q q p hp => q _ _ _ rfl (.new hp) (.dic (xs := []) (.inl (E.ok.at_new hp)) rfl .nil .nil)
theorem dn_dnil : DNV X c ds (.Dict [] [] pos) (.dic [] []) := dn_of L2.pe_dnewT fun M ow σ H E Q q p hp => q p _ _ _ rfl (.new hp) hp upd_same (fun xs z => by cases z) ⟨rfl, List.mem_cons_self, E.ok.none0 hp, [], upd_same, rfl, .nil, .nil⟩
/-- the dict that a slot holds is locked or may be locked for the length of an expression -/
def noOwn : Sl → Sl
  | .lst _ | .dic _ _ | .obj _ _ _ _ => .no
  | s => s
def lkS (ds : List Sl) (i : Nat) (ks : List (List L2.Key)) (es : List D) : List Sl := (ds.map noOwn).set i (.lck ks es)
theorem noOwn_own (s : Sl) : (noOwn s).own = false := by cases s <;> rfl
theorem dv_varL {i : Nat} {x : Str} (hN : X.N[i]? = some x) (hv : Vis X.env.scope x) (h : ds[i]? = some (.lck ks es)) (hd : (x == ("__debug__" : Str)) = false := by decide) (hcd : (x == ("__classdict__" : Str)) = false := by decide) : DV X c ds (.Name x pos) (.dic ks es) :=
  de_of (pe_var hN hv hd hcd) fun M ow σ H E Q q => by
    obtain ⟨a, od, vs, e1, e2, e3, e4, ia⟩ := E.at_ i _ h
    exact ⟨_, e1, q _ _ H rfl .rfl' (.dic (.inr ⟨od, e2⟩) e3 e4 ia)⟩
theorem cut_upd_out {M : List Addr} {H : Hp} {a : Addr} {o : HO} (n : a ∉ M) : cut M (upd H a o) = upd (cut M H) a o := by
  funext b
  unfold cut
  by_cases z : b = a
  · subst z
    rw [if_neg n, upd_same, upd_same]
  · rw [upd_ne z, upd_ne z]
theorem de_lock {i : Nat} (h : ds[i]? = some (.val (.dic ks es))) (hs : ∀ c', c'.z = c.z → DE X c' (lkS ds i ks es) e P) : DE X c ds e P := by
  have g : PE X e fun σ H Q => ∃ c', c'.z = c.z ∧ tD X.K c' (lkS ds i ks es) P σ H Q := ⟨fun pins s σ H Q I ⟨c', z, q⟩ => (hs c' z).run pins s σ H Q I q⟩
  have g2 : PE X e fun σ H Q => (∃ c', c'.z = c.z ∧ tD X.K c' (lkS ds i ks es) P σ H Q) ∨ tLockE (fun σ H Q => ∃ c', c'.z = c.z ∧ tD X.K c' (lkS ds i ks es) P σ H Q) σ H Q :=
    ⟨fun pins s σ H Q I q => q.elim (fun q => g.run pins s σ H Q I q) fun q => (L2.pe_lock g).run pins s σ H Q I q⟩
  have li : i < ds.length := (List.getElem?_eq_some_iff.mp h).1
  have ge : ∀ j t, (lkS ds i ks es)[j]? = some t → (j = i ∧ t = .lck ks es) ∨ (j ≠ i ∧ ∃ t0, ds[j]? = some t0 ∧ t = noOwn t0) := fun j t e => by
    unfold lkS at e
    by_cases z : j = i
    · subst z
      rw [List.getElem?_set_self (by rw [List.length_map]; exact li)] at e
      exact .inl ⟨rfl, (Option.some.inj e).symm⟩
    · rw [List.getElem?_set_ne (Ne.symm z), List.getElem?_map, Option.map_eq_some_iff] at e
      obtain ⟨t0, e, rfl⟩ := e
      exact .inr ⟨z, t0, e, rfl⟩
  refine de_of g2 fun M ow σ H E Q q => ?_
  obtain ⟨v, hv, iv⟩ := E.val h
  obtain ⟨a, xs, rfl, hr, hl, hn, ia⟩ := iv.dic_inv
  rcases hr with hr | ⟨od, hr⟩
  · -- not locked yet
    obtain ⟨ha, nM⟩ := cut_at hr
    refine .inr ⟨a, _, ha, trivial, fun od => ?_⟩
    have le1 : ∀ b o, b ≠ a → H b = some o → upd H a (.frz od (.dT (ks.zip xs))) b = some o := fun b o z e => by rw [upd_ne z]; exact e
    have nz : ∀ b ∈ M, b ≠ a := fun b m z => nM (z ▸ m)
    have kn1 : ∀ b ∈ M, ∃ o, upd H a (.frz od (.dT (ks.zip xs))) b = some o ∧ NT o := fun b m => by
      obtain ⟨o, e, nt⟩ := E.ok.kn b m
      exact ⟨o, le1 b o (nz b m) e, nt⟩
    have pa : Pl H a := .at ha rfl
    let c' : Fx := ⟨c.z, M, upd H a (.frz od (.dT (ks.zip xs))), E.ok.zM, kn1, ⟨fun b m => let ⟨x, y, w, e⟩ := E.ok.dice m; ⟨x, y, w, le1 b _ (nz b (E.ok.zM b (.inl m))) e⟩, fun p m => tab_upd (E.ok.tabs p m) pa⟩⟩
    have lk : Locks (cut M H) (cut M (upd H a (.frz od (.dT (ks.zip xs))))) := by
      rw [cut_upd_out nM]
      exact .on hr rfl (fun _ _ z => by cases z) od
    have E' : Env X.K c' M ow σ (upd H a (.frz od (.dT (ks.zip xs)))) (lkS ds i ks es) := by
      refine ⟨⟨.rfl', fun _ m => m, kn1⟩, by unfold lkS; rw [List.length_set, List.length_map]; exact E.len, fun j t e => ?_, fun j k s t e1 _ w1 => ?_⟩
      · rcases ge j t e with ⟨rfl, rfl⟩ | ⟨nj, t0, e0, rfl⟩
        · exact ⟨a, od, xs, hv, cut_of upd_same nM, hl, hn, ia.lock lk⟩
        · have z := E.at_ j t0 e0
          cases t0 with
          | no => trivial
          | val d => exact let ⟨v, e, i⟩ := z; ⟨v, e, i.lock lk⟩
          | lst es => trivial
          | dic ks es => trivial
          | obj x C ns es => trivial
          | lck ks' es' =>
            obtain ⟨a2, od2, vs2, e1, e2, e3, e4, i2⟩ := z
            have na : a2 ≠ a := fun z => by
              rw [z, hr] at e2
              cases e2
            exact ⟨a2, od2, vs2, e1, by rw [cut_upd_out nM, upd_ne na]; exact e2, e3, e4, i2.lock lk⟩
      · rcases ge j s e1 with ⟨rfl, rfl⟩ | ⟨nj, t0, e0, rfl⟩
        · cases w1
        · rw [noOwn_own] at w1
          cases w1
    refine ⟨c', rfl, M, ow, E', fun v d H2 pd l2 i2 => ?_⟩
    have az : a ∉ c.z := fun m => nM (E.ok.zM a m)
    have h2 : H2 a = some (.frz od (.dT (ks.zip xs))) := l2.keep a _ az upd_same
    refine ⟨h2, q v d _ pd ⟨fun b o n e => ?_, fun b m dd => ?_, fun b m t => tab_upd (l2.tab b m (tab_upd t pa)) (.at h2 rfl)⟩ ?_⟩
    · by_cases z : b = a
      · subst z
        rw [ha] at e
        cases e
        exact upd_same
      · rw [upd_ne z]
        exact l2.keep b o n (le1 b o z e)
    · have nb : b ≠ a := fun z => az (.inl (z ▸ m))
      obtain ⟨x, y, w, e⟩ := dd
      obtain ⟨x', y', w', e'⟩ := l2.dice b m ⟨x, y, w, le1 b _ nb e⟩
      exact ⟨x', y', w', by rw [upd_ne nb]; exact e'⟩
    · have lo : Locks (cut M H2) (cut M (upd H2 a (.dT (ks.zip xs)))) := by
        rw [cut_upd_out nM]
        exact .off (cut_of h2 nM)
      exact i2.lock lo
  · -- it is locked
    refine .inl ⟨c, rfl, M, ow, ⟨E.ok, by unfold lkS; rw [List.length_set, List.length_map]; exact E.len, fun j t e => ?_, fun j k s t e1 _ w1 => ?_⟩, q⟩
    · rcases ge j t e with ⟨rfl, rfl⟩ | ⟨nj, t0, e0, rfl⟩
      · exact ⟨a, od, xs, hv, hr, hl, hn, ia⟩
      · have z := E.at_ j t0 e0
        cases t0 with
        | no => trivial
        | val d => exact z
        | lst es => trivial
        | dic ks es => trivial
        | obj x C ns es => trivial
        | lck ks' es' => exact z
    · rcases ge j s e1 with ⟨rfl, rfl⟩ | ⟨nj, t0, e0, rfl⟩
      · cases w1
      · rw [noOwn_own] at w1
        cases w1
/-- the keys of a locked dict -/
theorem di_keys {tg : Expr} {i : Nat} {x : Str} (hN : X.N[i]? = some x) (hv : Vis X.env.scope x) (h : ds[i]? = some (.lck ks es)) (hd : (x == ("__debug__" : Str)) = false := by decide) (hcd : (x == ("__classdict__" : Str)) = false := by decide) : DI X c ds tg (.Name x pos) (· = ks.map kD) :=
  di_of (L2.pi_keys (pe_var hN hv hd hcd)) fun M ow σ H E R q => by
    obtain ⟨a, od, vs, e1, e2, e3, e4, ia⟩ := E.at_ i _ h
    refine ⟨_, e1, a, od, rfl, .inr ⟨ks.zip vs, (cut_at e2).1, q _ H _ rfl .rfl' fun M2 H2 k ok => ⟨fun n d hd => ?_, ?_⟩⟩⟩
    · have e5 := k.is _ _ e2
      rw [List.getElem?_map, Option.map_eq_some_iff] at hd
      obtain ⟨key, hk, rfl⟩ := hd
      have ln : n < ks.length := (List.getElem?_eq_some_iff.mp hk).1
      refine ⟨⟨(cut_at e5).1, by rw [List.length_zip, ← e3, Nat.min_self]; exact ln⟩, fun y H3 hy => ?_⟩
      obtain ⟨e6, k', v', b, e7, rfl, hb⟩ := hy
      subst e6
      have hz : (ks.zip vs)[n]? = some (key, vs[n]'(by rw [← e3]; exact ln)) := by
        rw [List.getElem?_zip_eq_some]
        exact ⟨hk, List.getElem?_eq_getElem _⟩
      rw [hz] at e7
      cases e7
      refine ⟨.rfl', kD_is (cut_of hb fun m => ?_)⟩
      obtain ⟨o, eo, nt⟩ := ok b m
      rw [hb] at eo
      cases eo
      exact nt _ rfl
    · have e5 := k.is _ _ e2
      refine ⟨(cut_at e5).1, ?_⟩
      rw [List.length_zip, ← e3, Nat.min_self, List.length_map]
      exact Nat.le_refl _
end
end Dt

set_option Elab.async false
set_option linter.all false
set_option maxRecDepth 100000
set_option maxHeartbeats 4000000
/-! isinstance, sorts, texts, dicts made, in data -/
namespace Dt
open PySem PyProof.Rows L2
/-- what isinstance asks of an own class -/
structure ClsF (K : PySem.W.Frag) (C : Addr) : Prop where
  cl : Cls K C
  ha : PySem.W.findIn K (.ref C) "__class__" = some (some (.builtin "object.__class__"))
  hn : PySem.W.specialIn K (.builtin "object.__class__") "__get__" = some (some (.builtin "getset_descriptor.__get__"))
  ht : PySem.W.takesIn K (.builtin "object.__class__") = some true
  hm : PySem.W.mroIn K C (.type "object") = some true
/-- a datum's class -/
def D.cl : D → Option Value
  | .non => some (.type "NoneType")
  | .bl _ => some (.type "bool")
  | .int _ => some (.type "int")
  | .str _ => some (.type "str")
  | .tup _ => some (.type "tuple")
  | .lst _ => some (.type "list")
  | .dic _ _ | .mix _ => some (.type "dict")
  | .obj C _ _ => some (.ref C)
  | _ => none
/-- a class as a datum -/
def D.asC : D → Option Value
  | .ty n => some (.type n)
  | .adr C => some (.ref C)
  | _ => none
theorem asC_is {K : PySem.W.Frag} {H : Hp} {v : V} {e : D} {u : Value} (h : Is K H v e) (a : e.asC = some u) : ClsV v u := by
  cases e with
  | ty n =>
    cases a
    rw [h.ty_inv]
    exact .ty n
  | adr C =>
    cases a
    rw [h.adr_inv]
    exact .own C
  | _ => cases a
section
variable {X : Cx} {c : Fx} {ds : List Sl} {a b d e : D} {P Pa Pb : D → Prop} {ee ea eb ec : Expr} {pos : Pos} {ks : List (List L2.Key)} {es : List D} {k : List L2.Key}
theorem dict_at {H : Hp} {s : Shared} {pins : List (Addr × Obj)} {σ : L2.St} {p : Addr} (I : Inv X pins σ H s) (h : (∃ kvs, Rd H p (.dT kvs)) ∨ ∃ us, Rd H p (.ext (KeysAt p us))) : ∃ o, s.heap.get? p = some o ∧ o.cls = .type "dict" := by
  rcases h with ⟨kvs, h⟩ | ⟨us, h⟩
  · obtain ⟨_, _, _, _, o, es, ep, h1, h2, _⟩ := h.ok I.hok
    exact ⟨o, h1, h2.1⟩
  · obtain ⟨⟨_, _, o, es, ep, h1, h2, _⟩, _⟩ := h.ok I.hok
    exact ⟨o, h1, h2.1⟩
theorem c_isi {t u : Value} {r : Bool} (ht : d.cl = some t) (ho : ∀ C ns es, d = .obj C ns es → ClsF X.K C) (hu : e.asC = some u) (h : PySem.W.kitOne X.K t u = some r) : CallD X (.builtin "isinstance") c [d, e] (· = .bl r) := by
  have base : (∀ M H x, Ok c M H → Is X.K (cut M H) x d → TyX X.K H x t) → CallD X (.builtin "isinstance") c [d, e] (· = .bl r) := fun g => cad_of call_isi fun M H xs ok i1 Q q => by
    obtain ⟨v, w, rfl, i1, i2⟩ := i1.two
    exact ⟨v, w, t, u, r, rfl, asC_is i2 hu, g M H v ok i1, h, q _ _ H rfl .rfl' .bl⟩
  have dict : t = .type "dict" → (∀ M H x, Ok c M H → Is X.K (cut M H) x d → ∃ p, x = .ref p ∧ ((∃ kvs, Rd H p (.dT kvs)) ∨ ∃ us, Rd H p (.ext (KeysAt p us)))) → CallD X (.builtin "isinstance") c [d, e] (· = .bl r) := fun et g =>
    cad_of (call_isiD (E := fun H p => (∃ kvs, Rd H p (.dT kvs)) ∨ ∃ us, Rd H p (.ext (KeysAt p us))) fun pins s σ H p I => dict_at I) fun M H xs ok i1 Q q => by
      obtain ⟨v, w, rfl, i1, i2⟩ := i1.two
      obtain ⟨p, rfl, hp⟩ := g M H v ok i1
      exact ⟨p, w, u, r, rfl, asC_is i2 hu, hp, et ▸ h, q _ _ H rfl .rfl' .bl⟩
  cases d with
  | non =>
    cases ht
    exact base fun M H x ok i => by rw [i.non_inv]; exact .base .non
  | bl b =>
    cases ht
    exact base fun M H x ok i => by rw [i.bl_inv]; exact .base (.bl b)
  | int j =>
    cases ht
    exact base fun M H x ok i => by rw [i.int_inv]; exact .base (.int j)
  | str s =>
    cases ht
    exact base fun M H x ok i => by rw [i.str_inv]; exact .base (.str s)
  | tup ds =>
    cases ht
    exact base fun M H x ok i => by
      obtain ⟨p, xs, rfl, hp, _⟩ := i.tup_inv
      exact .base (.tup (cut_at hp).1)
  | lst ds =>
    cases ht
    exact base fun M H x ok i => by
      obtain ⟨p, xs, rfl, hp, _⟩ := i.lst_inv
      exact .base (.lst (cut_at hp).1)
  | dic ks es =>
    cases ht
    exact dict rfl fun M H x ok i => by
      obtain ⟨p, xs, rfl, hp, _⟩ := i.dic_inv
      exact ⟨p, rfl, .inl ⟨_, rd_uncut hp⟩⟩
  | mix ks =>
    cases ht
    exact dict rfl fun M H x ok i => by
      cases i with
      | mix hr _ _ => exact ⟨_, rfl, .inr ⟨_, .inr ⟨_, (cut_at hr).1⟩⟩⟩
  | obj C ns es =>
    cases ht
    have f := ho C ns es rfl
    exact base fun M H x ok i => by
      cases i with
      | obj hp _ _ => exact .base (.ins (cut_at hp).1 f.cl f.ha f.hn f.ht f.hm)
  | _ => cases ht
/-! sums, sorts -/
theorem c_sum {ns : List Int} (hc : X.calm = true) : CallD X (.builtin "sum") c [.lst (D.ints ns)] (· = .int ns.sum) := cad_of (cr_sum hc) fun M H xs ok i1 Q q => by
  obtain ⟨v, rfl, h⟩ := i1.one
  obtain ⟨p, us, rfl, hp, ia⟩ := h.lst_inv
  exact ⟨p, ns, rfl, .inl (.inl (by rw [← ints_inv ia]; exact (cut_at hp).1)), q _ _ H rfl .rfl' .int⟩
theorem pyAll_len : ∀ {ds : List D} {ps : List PyData}, D.pyAll ds = some ps → ds.length = ps.length
  | [], ps, e => by simp only [D.pyAll, Option.some.injEq] at e; subst e; rfl
  | d :: ds, ps, e => by
    simp only [D.pyAll] at e
    cases e1 : d.py with
    | none => rw [e1] at e; simp at e
    | some p =>
      cases e2 : D.pyAll ds with
      | none => rw [e1, e2] at e; simp at e
      | some qs =>
        rw [e1, e2] at e
        simp only [Option.some.injEq] at e
        subst e
        rw [List.length_cons, List.length_cons, pyAll_len e2]
theorem pyAll_at : ∀ {ds : List D} {ps : List PyData} {i : Nat} {d : D}, D.pyAll ds = some ps → ds[i]? = some d → ∃ p, ps[i]? = some p ∧ d.py = some p
  | [], _, _, _, _, h => by simp at h
  | d :: ds, ps, i, d', e, h => by
    simp only [D.pyAll] at e
    cases e1 : d.py with
    | none => rw [e1] at e; simp at e
    | some p =>
      cases e2 : D.pyAll ds with
      | none => rw [e1, e2] at e; simp at e
      | some qs =>
        rw [e1, e2] at e
        simp only [Option.some.injEq] at e
        subst e
        cases i with
        | zero =>
          simp only [List.getElem?_cons_zero, Option.some.injEq] at h
          subst h
          exact ⟨p, rfl, e1⟩
        | succ i =>
        obtain ⟨z, z1, z2⟩ := pyAll_at (i := i) e2 (by simpa using h)
        exact ⟨z, by simpa using z1, z2⟩
/-- sorted, in data: with the plain data of the items -/
def sortDs (l : List (D × PyData)) : List D := (l.mergeSort (PySem.W.dataLe false (·.2))).map (·.1)
theorem zip_each {K : PySem.W.Frag} {H : Hp} : ∀ {l : List (D × PyData)} {us : List V}, IsAll K H us (l.map (·.1)) → PySem.W.EachIs (fun (x : V × PyData) (y : D × PyData) => x.2 = y.2 ∧ Is K H x.1 y.1) (us.zip (l.map (·.2))) l
  | [], _, h => by
    cases h
    exact .nil
  | y :: l, _, h => by
    cases h with
    | cons a t => exact .cons ⟨rfl, a⟩ (zip_each t)
/-- the same sort whatever the first part is -/
theorem sort_snd {α β : Type} {f : α → PyData} {g : β → PyData} {R : α → β → Prop} {la : List α} {lb : List β} (h : PySem.W.EachIs R la lb) (e : ∀ a b, R a b → f a = g b) : PySem.W.EachIs R (la.mergeSort (PySem.W.dataLe false f)) (lb.mergeSort (PySem.W.dataLe false g)) := by
  -- both are the sort of the list of pairs
  have key : ∀ l : List (α × β), (∀ p ∈ l, R p.1 p.2) → PySem.W.EachIs R ((l.map (·.1)).mergeSort (PySem.W.dataLe false f)) ((l.map (·.2)).mergeSort (PySem.W.dataLe false g)) := fun l hl => by
    have m1 : (l.mergeSort fun p q => PySem.W.dataLe false f p.1 q.1).map (·.1) = (l.map (·.1)).mergeSort (PySem.W.dataLe false f) := List.map_mergeSort fun _ _ _ _ => rfl
    have m2 : (l.mergeSort fun p q => PySem.W.dataLe false f p.1 q.1).map (·.2) = (l.map (·.2)).mergeSort (PySem.W.dataLe false g) := List.map_mergeSort fun p hp q hq => by
      show PySem.W.dataLe false f p.1 q.1 = PySem.W.dataLe false g p.2 q.2
      rw [PySem.W.dataLe_eq, PySem.W.dataLe_eq]
      simp only [e _ _ (hl p hp), e _ _ (hl q hq)]
    rw [← m1, ← m2]
    have each : ∀ m : List (α × β), (∀ p ∈ m, R p.1 p.2) → PySem.W.EachIs R (m.map (·.1)) (m.map (·.2)) := fun m => by
      induction m with
      | nil => exact fun _ => .nil
      | cons p m ih => exact fun hm => .cons (hm p List.mem_cons_self) (ih fun q hq => hm q (List.mem_cons_of_mem _ hq))
    exact each _ fun p hp => hl p ((List.mergeSort_perm l _).mem_iff.mp hp)
  have z : ∃ l : List (α × β), (∀ p ∈ l, R p.1 p.2) ∧ l.map (·.1) = la ∧ l.map (·.2) = lb := by
    induction h with
    | nil => exact ⟨[], fun p hp => (by cases hp), rfl, rfl⟩
    | @cons a b as bs h t ih =>
      obtain ⟨l, h1, h2, h3⟩ := ih
      exact ⟨(a, b) :: l, fun p hp => (List.mem_cons.mp hp).elim (fun z => z ▸ h) (h1 p), by rw [List.map_cons, h2], by rw [List.map_cons, h3]⟩
  obtain ⟨l, h1, rfl, rfl⟩ := z
  exact key l h1
theorem c_sort {l : List (D × PyData)} (hu : X.A.units + 64 < cLine) (hp : ∀ p ∈ l, p.1.py = some p.2) (h1 : PySem.W.AllAlike (l.map (·.2))) (h2 : PySem.W.Sortable (l.map (·.2))) (h3 : ∀ p ∈ l, p.2.depth ≤ 60) : CallD X (.builtin "sorted") c [.lst (l.map (·.1))] (· = .lst (sortDs l)) :=
  cad_of (cr_sortD hu) fun M H xs ok i1 Q q => by
    obtain ⟨v, rfl, h⟩ := i1.one
    obtain ⟨p, us, rfl, hl, ia⟩ := h.lst_inv
    have lu : us.length = l.length := by rw [ia.len, List.length_map]
    -- the values with the plain data
    have ez : PySem.W.EachIs (fun (x : V × PyData) (y : D × PyData) => x.2 = y.2 ∧ Is X.K (cut M H) x.1 y.1) (us.zip (l.map (·.2))) l := by
      exact zip_each ia
    have m1 : (us.zip (l.map (·.2))).map (·.1) = us := by
      rw [List.map_fst_zip]
      rw [List.length_map, lu]
      exact Nat.le_refl _
    have m2 : (us.zip (l.map (·.2))).map (·.2) = l.map (·.2) := by
      rw [List.map_snd_zip]
      rw [List.length_map, lu]
      exact Nat.le_refl _
    have mem : ∀ x ∈ us.zip (l.map (·.2)), ∃ y ∈ l, x.2 = y.2 ∧ Is X.K (cut M H) x.1 y.1 := by
      generalize us.zip (l.map (·.2)) = w at ez
      clear hl h i1 h1 h2 h3 q hu ok m1 m2 hp ia lu
      induction ez with
      | nil => exact fun x hx => by cases hx
      | @cons x y ws ys hr t ih =>
        intro z hz
        rcases List.mem_cons.mp hz with rfl | hz
        · exact ⟨y, List.mem_cons_self, hr⟩
        · obtain ⟨y', hy, r⟩ := ih z hz
          exact ⟨y', List.mem_cons_of_mem _ hy, r⟩
    refine ⟨p, us.zip (l.map (·.2)), rfl, .inl (.inl (by rw [m1]; exact (cut_at hl).1)), fun x hx => ?_, by rw [m2]; exact h1, by rw [m2]; exact h2, fun x hx => ?_, fun p' hp' => ?_⟩
    · obtain ⟨y, hy, e, i⟩ := mem x hx
      rw [e]
      exact (i.up cut_sub).dp (hp y hy)
    · obtain ⟨y, hy, e, i⟩ := mem x hx
      rw [e]
      exact h3 y hy
    · have es := sort_snd (f := (·.2)) (g := (·.2)) ez fun x y r => r.1
      have ia2 : IsAll X.K (cut M H) (((us.zip (l.map (·.2))).mergeSort (PySem.W.dataLe false (·.2))).map (·.1)) (sortDs l) := by
        unfold sortDs
        generalize (us.zip (l.map (·.2))).mergeSort (PySem.W.dataLe false (·.2)) = w at es
        generalize l.mergeSort (PySem.W.dataLe false (·.2)) = m at es
        clear hl h i1 h1 h2 h3 q hu ok m1 m2 hp ia lu mem ez
        induction es with
        | nil => exact .nil
        | cons hr t ih => exact .cons hr.2 ih
      exact q _ _ _ rfl (.new hp') (n_list ok ia2 hp')
theorem c_sort1 {xs : List D} (h : xs.length ≤ 1) : CallD X (.builtin "sorted") c [.lst xs] (· = .lst xs) := cad_of cr_sort1 fun M H vs ok i1 Q q => by
  obtain ⟨v, rfl, i⟩ := i1.one
  obtain ⟨p, us, rfl, hl, ia⟩ := i.lst_inv
  exact ⟨p, us, rfl, .inl (.inl (cut_at hl).1), by rw [ia.len]; exact h, fun p' hp' => q _ _ _ rfl (.new hp') (n_list ok ia hp')⟩
/-! texts -/
theorem m_join {s : Str} {ys : List Str} (h : (ys.map (·.length)).sum + ys.length * s.length ≤ 16777216) : MtD X "str.join" c (.str s) [.lst (ys.map D.str)] (· = .str (Txt.join s ys)) := mtd_of mt_join fun M H x xs ok i1 i2 Q q => by
  obtain ⟨v, rfl, i⟩ := i2.one
  obtain ⟨p, us, rfl, hl, ia⟩ := i.lst_inv
  exact ⟨s, p, ys, i1.str_inv, rfl, .inl (.inl (.inl (by rw [← strs_inv ia]; exact (cut_at hl).1))), h, q _ _ H rfl .rfl' .str⟩
theorem t_str {s : Str} : TyD X c "str" (.str s) := fun M H x ok i => by
  rw [i.str_inv]
  exact rfl
theorem c_reprI {i : Int} (h : i.natAbs.log2 < 1920) : CallD X (.builtin "repr") c [.int i] (· = .str (toString i)) := cad_of SkE.call_repr_int fun M H xs ok i1 Q q => by
  obtain ⟨v, rfl, h1⟩ := i1.one
  exact ⟨i, by rw [h1.int_inv], h, q _ _ H rfl .rfl' .str⟩
def D.ref : D → Bool
  | .tup _ | .lst _ => true
  | _ => false
theorem c_repr {p : PyData} (hg : X.A.guards = some []) (hu : X.A.units + 64 < cLine) (hr : d.ref = true) (hp : d.py = some p) (h1 : p.showable = true) (h2 : p.hasDict = false) (h3 : p.depth ≤ 60) (h4 : p.shown.length ≤ sizeLine) : CallD X (.builtin "repr") c [d] (· = .str p.shown) := cad_of (cr_repr hg hu) fun M H xs ok i1 Q q => by
  obtain ⟨v, rfl, i⟩ := i1.one
  have dp := (i.up cut_sub).dp hp
  cases d with
  | tup ds =>
    obtain ⟨a, xs, rfl, _, _⟩ := i.tup_inv
    exact ⟨a, p, rfl, dp, h1, h2, h3, h4, q _ _ H rfl .rfl' .str⟩
  | lst ds =>
    obtain ⟨a, xs, rfl, _, _⟩ := i.lst_inv
    exact ⟨a, p, rfl, dp, h1, h2, h3, h4, q _ _ H rfl .rfl' .str⟩
  | _ => cases hr
theorem c_strD {p : PyData} (hg : X.A.guards = some []) (hu : X.A.units + 64 < cLine) (hr : d.ref = true) (hp : d.py = some p) (h1 : p.showable = true) (h2 : p.hasDict = false) (h3 : p.depth ≤ 60) (h4 : p.shown.length ≤ sizeLine) : CallD X (.type "str") c [d] (· = .str p.shown) := cad_of (cr_strD hg hu) fun M H xs ok i1 Q q => by
  obtain ⟨v, rfl, i⟩ := i1.one
  have dp := (i.up cut_sub).dp hp
  cases d with
  | tup ds =>
    obtain ⟨a, xs, rfl, _, _⟩ := i.tup_inv
    exact ⟨a, p, rfl, dp, h1, h2, h3, h4, q _ _ H rfl .rfl' .str⟩
  | lst ds =>
    obtain ⟨a, xs, rfl, _, _⟩ := i.lst_inv
    exact ⟨a, p, rfl, dp, h1, h2, h3, h4, q _ _ H rfl .rfl' .str⟩
  | _ => cases hr
end
end Dt

set_option Elab.async false
set_option linter.all false
set_option maxRecDepth 100000
set_option maxHeartbeats 4000000
/-! dicts made and compared, in data -/
namespace Dt
open PySem PyProof.Rows L2
/-- k put into a dict, in data -/
def putD (ks : List (List L2.Key)) (es : List D) (k : List L2.Key) (d : D) : List (List L2.Key) × List D :=
  if (ks.any fun q => decide (q = k)) = true then (ks, (ks.zip es).map fun p => if p.1 = k then d else p.2) else (ks ++ [k], es ++ [d])
theorem any_mem {ks : List (List L2.Key)} {k : List L2.Key} : ((ks.any fun q => decide (q = k)) = true) ↔ k ∈ ks := by
  rw [List.any_eq_true]
  constructor
  · rintro ⟨q, hq, e⟩
    rw [← of_decide_eq_true e]
    exact hq
  · exact fun h => ⟨k, h, decide_eq_true rfl⟩
theorem put_zip {K : PySem.W.Frag} {H : Hp} {ks : List (List L2.Key)} {vs : List V} {es : List D} {k : List L2.Key} {v : V} {d : D} (hl : ks.length = vs.length) (hn : ks.Nodup) (ia : IsAll K H vs es) (i : Is K H v d) :
    ∃ ws, putK (ks.zip vs) k v = (putD ks es k d).1.zip ws ∧ (putD ks es k d).1.length = ws.length ∧ (putD ks es k d).1.Nodup ∧ IsAll K H ws (putD ks es k d).2 := by
  have hany : (((ks.zip vs).any fun kv => decide (kv.1 = k)) = true) ↔ k ∈ ks := by
    rw [List.any_eq_true]
    constructor
    · rintro ⟨p, hp, e⟩
      have e' := of_decide_eq_true e
      rw [← e']
      exact (List.of_mem_zip (a := p.1) (b := p.2) hp).1
    · intro h
      obtain ⟨n, hn⟩ := List.mem_iff_getElem?.mp h
      have ln : n < ks.length := (List.getElem?_eq_some_iff.mp hn).1
      have hv : vs[n]? = some (vs[n]'(by rw [← hl]; exact ln)) := List.getElem?_eq_getElem _
      exact ⟨(k, vs[n]'(by rw [← hl]; exact ln)), List.mem_of_getElem? (List.getElem?_zip_eq_some.mpr ⟨hn, hv⟩), decide_eq_true rfl⟩
  by_cases h : k ∈ ks
  · unfold putK putD
    rw [if_pos (hany.mpr h), if_pos (any_mem.mpr h)]
    refine ⟨(ks.zip vs).map fun p => if p.1 = k then v else p.2, ?_, ?_, hn, ?_⟩
    · clear hany h hn ia
      induction ks generalizing vs with
      | nil => rfl
      | cons a ks ih =>
        cases vs with
        | nil => cases hl
        | cons w vs =>
          simp only [List.zip_cons_cons, List.map_cons]
          rw [ih (Nat.succ.inj hl)]
          by_cases z : a = k <;> simp [z]
    · rw [List.length_map, List.length_zip, ← hl, Nat.min_self]
    · clear hany h hn
      induction ks generalizing vs es with
      | nil => exact .nil
      | cons a ks ih =>
        cases ia with
        | nil => cases hl
        | cons j t =>
          simp only [List.zip_cons_cons, List.map_cons]
          refine .cons ?_ (ih (Nat.succ.inj hl) t)
          by_cases z : a = k
          · rw [if_pos z, if_pos z]
            exact i
          · rw [if_neg z, if_neg z]
            exact j
  · unfold putK putD
    rw [if_neg fun z => h (hany.mp z), if_neg fun z => h (any_mem.mp z)]
    refine ⟨vs ++ [v], ?_, by simp [hl], ?_, ia.app (.cons i .nil)⟩
    · rw [List.zip_append hl]
      rfl
    · rw [List.nodup_append]
      refine ⟨hn, List.pairwise_singleton _ _, fun a ha b hb => ?_⟩
      rw [List.mem_singleton.mp hb]
      exact fun z => h (z ▸ ha)
/-- pairs put one behind another -/
def mergeD : List (List L2.Key × D) → List (List L2.Key) × List D → List (List L2.Key) × List D
  | [], acc => acc
  | p :: r, acc => mergeD r (putD acc.1 acc.2 p.1 p.2)
theorem merge_zip {K : PySem.W.Frag} {H : Hp} : ∀ {ps : List (List L2.Key × D)} {ws : List V} {ks : List (List L2.Key)} {vs : List V} {es : List D}, IsAll K H ws (ps.map (·.2)) → ks.length = vs.length → ks.Nodup → IsAll K H vs es →
    ∃ us, mergeT (ks.zip vs) ((ps.map (·.1)).zip ws) = (mergeD ps (ks, es)).1.zip us ∧ (mergeD ps (ks, es)).1.length = us.length ∧ (mergeD ps (ks, es)).1.Nodup ∧ IsAll K H us (mergeD ps (ks, es)).2
  | [], ws, ks, vs, es, iw, hl, hn, ia => by
    cases iw
    exact ⟨vs, rfl, hl, hn, ia⟩
  | p :: ps, _, ks, vs, es, iw, hl, hn, ia => by
    cases iw with
    | cons j t =>
      obtain ⟨us, e1, e2, e3, e4⟩ := put_zip (k := p.1) hl hn ia j
      obtain ⟨rs, f1, f2, f3, f4⟩ := merge_zip (ks := (putD ks es p.1 p.2).1) (es := (putD ks es p.1 p.2).2) t e2 e3 e4
      refine ⟨rs, ?_, f2, f3, f4⟩
      show mergeT (putK (ks.zip vs) p.1 _) _ = (mergeD ps (putD ks es p.1 p.2)).1.zip rs
      rw [e1]
      exact f1
theorem mergeD_new : ∀ (ps : List (List L2.Key × D)) (ks : List (List L2.Key)) (es : List D), (ks ++ ps.map (·.1)).Nodup → mergeD ps (ks, es) = (ks ++ ps.map (·.1), es ++ ps.map (·.2))
  | [], ks, es, _ => by simp [mergeD]
  | p :: ps, ks, es, h => by
    have n : p.1 ∉ ks := fun m => by
      rw [List.nodup_append] at h
      exact h.2.2 _ m _ (by simp) rfl
    unfold mergeD
    have e : putD ks es p.1 p.2 = (ks ++ [p.1], es ++ [p.2]) := by unfold putD; rw [if_neg fun z => n (any_mem.mp z)]
    rw [e, mergeD_new ps (ks ++ [p.1]) (es ++ [p.2]) (by simpa using h)]
    simp
section
variable {X : Cx} {c : Fx} {ds : List Sl} {a b d e : D} {P Pa Pb : D → Prop} {ee ea eb ec ed : Expr} {pos : Pos} {ks : List (List L2.Key)} {es : List D} {k k2 : List L2.Key}
theorem n_dic {M : List Addr} {H : Hp} {p : Addr} {vs : List V} (ok : Ok c M H) (hp : H p = none) (hl : ks.length = vs.length) (hn : ks.Nodup) (ia : IsAll X.K (cut M H) vs es) : Is X.K (cut M (upd H p (.dT (ks.zip vs)))) (.ref p) (.dic ks es) :=
  .dic (.inl (ok.at_new hp)) hl hn (ia.up (ok.cutNew hp))
/-- the dict is laid ahead of its pairs -/
theorem n_dic2 {M : List Addr} {H H2 : Hp} {p : Addr} {vs : List V} (ok : Ok c M H) (hp : H p = none) (l : Le c.z (upd H p (.dT [])) H2) (pl : Pl H2 p) (hl : ks.length = vs.length) (hn : ks.Nodup) (ia : IsAll X.K (cut (p :: M) H2) vs es) :
    Le c.z H (upd H2 p (.dT (ks.zip vs))) ∧ Is X.K (cut M (upd H2 p (.dT (ks.zip vs)))) (.ref p) (.dic ks es) := by
  have nM := ok.new hp
  have l2 : Le c.z H H2 := (Le.new hp).tr l
  refine ⟨l2.mut hp pl, .dic (.inl (cut_of upd_same nM)) hl hn (ia.up fun b o e => ?_)⟩
  obtain ⟨e1, n⟩ := cut_at e
  refine cut_of ?_ fun m => n (List.mem_cons_of_mem _ m)
  rw [upd_ne fun z => n (by rw [z]; exact List.mem_cons_self)]
  exact e1
/-- {k: v} -/
theorem dv_disp1 (hu : X.A.units < cLine) (ha : DV X c ds ea (kD k)) (hb : DV X c ds eb b) : DV X c ds (.Dict [some ea] [eb] pos) (.dic [k] [b]) :=
  de_of (pe_dispT hu (pps_cons ha hb pps_nil) rfl rfl (by simp) (by simp)) fun M ow σ H E Q q p hp => by
    have E1 := E.addM (.new hp) hp upd_same (o := .dT []) fun xs z => by cases z
    refine ⟨p :: M, ow, E1, fun v d H1 p1 l1 i1 => ⟨p :: M, ow, E1.up l1, fun w d2 H2 p2 l2 i2 => ?_⟩⟩
    subst p1 p2
    have l12 := l1.tr l2
    obtain ⟨x, rfl, hx⟩ := kD_inv (i1.up ((E1.up l1).ok.cut l2))
    have pz : p ∉ c.z := fun m => E.ok.new hp (E.ok.zM p m)
    have hp2 : H2 p = some (.dT []) := l12.keep p _ pz upd_same
    refine ⟨hp2, [(k, w)], .cons ⟨⟨x, rfl, (cut_at hx).1⟩, rfl⟩ .nil, by simp, ?_⟩
    have z := n_dic2 (X := X) (ks := [k]) (vs := [w]) (es := [d2]) E.ok hp l12 (.at (l12.keep _ _ (fun m => E.ok.new hp (E.ok.zM _ m)) upd_same) rfl) rfl (List.pairwise_singleton _ _) (.cons i2 .nil)
    exact q _ _ _ rfl z.1 z.2
/-- {k: v, k2: v2} -/
theorem dv_disp2 {b2 : D} (hu : X.A.units < cLine) (hne : k ≠ k2) (ha : DV X c ds ea (kD k)) (hb : DV X c ds eb b) (ha2 : DV X c ds ec (kD k2)) (hb2 : DV X c ds ed b2) : DV X c ds (.Dict [some ea, some ec] [eb, ed] pos) (.dic [k, k2] [b, b2]) :=
  de_of (pe_dispT hu (pps_cons ha hb (pps_cons ha2 hb2 pps_nil)) rfl rfl (by simp) (by simp)) fun M ow σ H E Q q p hp => by
    have E1 := E.addM (.new hp) hp upd_same (o := .dT []) fun xs z => by cases z
    refine ⟨p :: M, ow, E1, fun v d H1 p1 l1 i1 => ⟨p :: M, ow, E1.up l1, fun w d2 H2 p2 l2 i2 => ⟨p :: M, ow, E1.up (l1.tr l2), fun v3 d3 H3 p3 l3 i3 => ⟨p :: M, ow, E1.up ((l1.tr l2).tr l3), fun w4 d4 H4 p4 l4 i4 => ?_⟩⟩⟩⟩
    subst p1 p2 p3 p4
    have l14 := ((l1.tr l2).tr l3).tr l4
    obtain ⟨x, rfl, hx⟩ := kD_inv (i1.up ((E1.up l1).ok.cut ((l2.tr l3).tr l4)))
    obtain ⟨y, rfl, hy⟩ := kD_inv (i3.up ((E1.up ((l1.tr l2).tr l3)).ok.cut l4))
    have pz : p ∉ c.z := fun m => E.ok.new hp (E.ok.zM p m)
    have hp2 : H4 p = some (.dT []) := l14.keep p _ pz upd_same
    refine ⟨hp2, [(k, w), (k2, w4)], .cons ⟨⟨x, rfl, (cut_at hx).1⟩, rfl⟩ (.cons ⟨⟨y, rfl, (cut_at hy).1⟩, rfl⟩ .nil), by simp, ?_⟩
    have e : mergeT [] [(k, w), (k2, w4)] = [(k, w), (k2, w4)] := by
      show putK (putK [] k w) k2 w4 = _
      unfold putK
      simp [hne]
    rw [e]
    have z := n_dic2 (X := X) (ks := [k, k2]) (vs := [w, w4]) (es := [d2, d4]) E.ok hp l14 (.at (l14.keep _ _ (fun m => E.ok.new hp (E.ok.zM _ m)) upd_same) rfl) rfl (by simp [hne]) (.cons (i2.up ((E1.up (l1.tr l2)).ok.cut (l3.tr l4))) (.cons i4 .nil))
    exact q _ _ _ rfl z.1 z.2
/-- dict(d) -/
theorem c_dictD (hu : X.A.units + 2 < cLine) (hh : (ks.map (hT X.prog X.w)).Nodup) : CallD X (.type "dict") c [.dic ks es] (· = .dic ks es) := cad_of (call_dictCopyT hu) fun M H xs ok i1 Q q => by
  obtain ⟨v, rfl, i⟩ := i1.one
  obtain ⟨p, vs, rfl, hr, hl, hn, ia⟩ := i.dic_inv
  refine ⟨p, _, rfl, rd_uncut hr, ?_, fun p' hp => q _ _ _ rfl (.new hp) (n_dic ok hp hl hn ia)⟩
  have e : (ks.zip vs).map (fun q => hT X.prog X.w q.1) = ks.map (hT X.prog X.w) := by
    rw [show (fun q : List L2.Key × V => hT X.prog X.w q.1) = hT X.prog X.w ∘ Prod.fst from rfl, ← List.map_map, List.map_fst_zip]
    rw [hl]
    exact Nat.le_refl _
  rw [e]
  exact hh
/-- dict(ps): pairs of a key and a value -/
def pairD (p : List L2.Key × D) : D := .tup [kD p.1, p.2]
theorem pairs_inv {K : PySem.W.Frag} {H G : Hp} (s : Sub H G) : ∀ {ps : List (List L2.Key × D)} {vs : List V}, IsAll K H vs (ps.map pairD) → ∃ (as : List Addr) (ws : List V), vs = as.map V.ref ∧ IsAll K H ws (ps.map (·.2)) ∧
    Paired (fun p kv => ∃ b, G p = some (.tup [.ref b, kv.2]) ∧ G b = some (.tup (kv.1.map kV))) as ((ps.map (·.1)).zip ws)
  | [], _, h => by
    cases h
    exact ⟨[], [], rfl, .nil, .nil⟩
  | p :: ps, _, h => by
    cases h with
    | cons j t =>
      obtain ⟨as, ws, rfl, iw, pr⟩ := pairs_inv s t
      obtain ⟨a, us, rfl, ha, iu⟩ := j.tup_inv
      obtain ⟨x, w, rfl, ix, iw2⟩ := iu.two
      obtain ⟨b, rfl, hb⟩ := kD_inv ix
      exact ⟨a :: as, w :: ws, rfl, .cons iw2 iw, .cons ⟨b, s _ _ ha, s _ _ hb⟩ pr⟩
theorem c_dictP {ps : List (List L2.Key × D)} (hc : X.calm = true) (hu : X.A.units + 2 < cLine) : CallD X (.type "dict") c [.lst (ps.map pairD)] (· = .dic (mergeD ps ([], [])).1 (mergeD ps ([], [])).2) := cad_of (call_dictPT hc hu) fun M H xs ok i1 Q q => by
  obtain ⟨v, rfl, i⟩ := i1.one
  obtain ⟨p, vs, rfl, hl, ia⟩ := i.lst_inv
  obtain ⟨as, ws, rfl, iw, pr⟩ := pairs_inv (cut_sub (M := M) (H := H)) ia
  obtain ⟨us, e1, e2, e3, e4⟩ := merge_zip (ks := []) (vs := []) (es := []) iw rfl .nil .nil
  refine ⟨p, as, _, rfl, .inl (.inl (cut_at hl).1), pr, fun p' hp => ?_⟩
  have e1 : mergeT [] ((ps.map (·.1)).zip ws) = _ := e1
  rw [e1]
  exact q _ _ _ rfl (.new hp) (n_dic ok hp e2 e3 e4)
theorem c_dictPN {ps : List (List L2.Key × D)} (hc : X.calm = true) (hu : X.A.units + 2 < cLine) (hn : (ps.map (·.1)).Nodup) : CallD X (.type "dict") c [.lst (ps.map pairD)] (· = .dic (ps.map (·.1)) (ps.map (·.2))) :=
  (c_dictP hc hu).imp fun d e => by rw [e, mergeD_new ps [] [] (by simpa using hn)]; simp
/-- d == e, the values flat -/
def flatD : D → Bool
  | .non | .bl _ | .int _ | .str _ => true
  | _ => false
def eqFlat : D → D → Bool
  | .int i, .int j => i == j
  | _, _ => false
/-- list(d) -/
theorem c_listD (hc : X.calm = true) : CallD X (.type "list") c [.dic ks es] (· = .lst (ks.map kD)) := cad_of (call_list_dT hc) fun M H xs ok i1 Q q => by
  obtain ⟨v, rfl, i⟩ := i1.one
  obtain ⟨p, vs, rfl, hr, hl, hn, ia⟩ := i.dic_inv
  refine ⟨p, _, rfl, rd_uncut hr, fun p' bs hp hk => q _ _ _ rfl (.new hp) (n_list ok ?_ hp)⟩
  have go : ∀ {kvs : List (List L2.Key × V)} {bs : List Addr}, IsKeys H kvs bs → IsAll X.K (cut M H) (bs.map V.ref) ((kvs.map (·.1)).map kD) := fun h => by
    unfold IsKeys at h
    induction h with
    | nil => exact .nil
    | cons hb t ih => exact .cons (kD_is (cut_of hb (ok.tup hb))) ih
  have z := go hk
  rw [List.map_fst_zip (by rw [hl]; exact Nat.le_refl _)] at z
  exact z
/-- own[k] = v -/
theorem ds_dput {po : Po} {i : Nat} {x : Str} {px tp : Pos} (hu : X.A.units + 1 < cLine) (hN : X.N[i]? = some x) (hv : Vis X.env.scope x) (h : ds[i]? = some (.dic ks es)) (hk : DE X c ds ea Pa) (hv2 : DE X c ds eb P) (hz : ks.length < sizeLine)
    (hq : ∀ a d, Pa a → P d → ∃ k, a = kD k ∧ po.nx (ds.set i (.dic (putD ks es k d).1 (putD ks es k d).2)))
    (hs : swapsWith eb (some (.Subscript (.Name x px) ea tp)) pos.line X.env = pure false := by rfl) (hd : (x == ("__debug__" : Str)) = false := by decide) (hcd : (x == ("__classdict__" : Str)) = false := by decide) :
    DS X c ds (.Assign [.Subscript (.Name x px) ea tp] eb pos) po :=
  ds_of (L2.ps_dput hu (pe_var hN hv hd hcd) hk hv2 hs) fun M ow σ H E D q1 q2 q3 q4 => ⟨M, ow, E, fun v d H1 pd l1 i1 => by
    obtain ⟨e1, m, n, _⟩ := E.at_ i _ h
    refine ⟨_, e1, M, ow, E.up l1, fun w a H2 pa l2 i2 => ?_⟩
    obtain ⟨k, rfl, hq⟩ := hq a d pa pd
    have E2 := E.up (l1.tr l2)
    obtain ⟨_, _, _, vs, hp, hl, hn, ia⟩ := E2.at_ i _ h
    obtain ⟨b, rfl, hb⟩ := kD_inv i2
    obtain ⟨ws, e3, e4, e5, e6⟩ := put_zip (k := k) hl hn ia (i1.up ((E.up l1).ok.cut l2))
    refine ⟨ow i, _, rfl, DPut.t hp (cut_at hb).1 (by rw [List.length_zip, ← hl, Nat.min_self]; exact hz), ?_⟩
    rw [e3]
    exact q1 _ _ _ _ _ hq (E2.write h rfl (fun xs z => by cases z) ⟨rfl, m, n, ws, upd_same, e4, e5, by rw [cut_upd m]; exact e6⟩) (kp_own E (l1.tr l2) m)⟩
theorem dc_lg {own : List (Str × Nat)} {its : List D} {kf : D → List L2.Key} {vf : D → D} {f : D → List Sl} {g : TG} {M : List Addr} {ow : Nat → Addr} {σ : L2.St} {H : Hp} {Q : VK}
    (gp : ∀ d, d ∈ its → GP X.K c g (own.map (·.2)) d (wipeD ds (own.map (·.2))) (f d)) (hz : its.length ≤ sizeLine) (E : Env X.K c M ow σ H ds)
    (q : ∀ D0 H2 vs, c.H0 D0 = none → D0 ∉ M → H D0 = none → Le c.z H H2 → H2 D0 = some (.dT ((mergeD (its.map fun d => (kf d, vf d)) ([], [])).1.zip vs)) → (mergeD (its.map fun d => (kf d, vf d)) ([], [])).1.length = vs.length → (mergeD (its.map fun d => (kf d, vf d)) ([], [])).1.Nodup → IsAll X.K (cut (D0 :: M) H2) vs (mergeD (its.map fun d => (kf d, vf d)) ([], [])).2 → Q (.ref D0) H2) :
    tDcT (tDI X.K c ds (· = its)) g tYes (fun σ H Q => ∃ d, d ∈ its ∧ tD X.K c (f d) (· = kD (kf d)) σ H Q) (fun σ H Q => ∃ d, d ∈ its ∧ tD X.K c (f d) (· = vf d) σ H Q) (own.map (·.2)) σ H Q := by
  refine ⟨M, ow, E, fun J H1 es pe l1 wk D0 hD0 => ?_⟩
  subst pe
  have E1 := E.up l1
  have n0 : c.H0 D0 = none := E1.ok.none0 hD0
  have nM : D0 ∉ M := E1.ok.new hD0
  let acc : Nat → List (List L2.Key) × List D := fun i => mergeD ((es.take i).map fun d => (kf d, vf d)) ([], [])
  have accS : ∀ (i : Nat) (d : D), es[i]? = some d → acc (i + 1) = putD (acc i).1 (acc i).2 (kf d) (vf d) := fun i d hd => by
    have app : ∀ (l : List (List L2.Key × D)) (p : List L2.Key × D) (z : List (List L2.Key) × List D), mergeD (l ++ [p]) z = putD (mergeD l z).1 (mergeD l z).2 p.1 p.2 := fun l p => by
      induction l with
      | nil => exact fun z => rfl
      | cons y l ih => exact fun z => ih _
    show mergeD ((es.take (i + 1)).map _) _ = _
    rw [List.take_succ, hd]
    simp only [Option.toList_some, List.map_append, List.map_cons, List.map_nil]
    exact app _ _ _
  refine ⟨fun i m H => m = es.length - i ∧ i ≤ es.length ∧ Env X.K c (D0 :: M) ow σ H ds ∧ Le c.z H1 H ∧ (acc i).1.length ≤ i ∧ ∃ vs, H D0 = some (.dT ((acc i).1.zip vs)) ∧ (acc i).1.length = vs.length ∧ (acc i).1.Nodup ∧ IsAll X.K (cut (D0 :: M) H) vs (acc i).2,
    ⟨es.length, by simp, Nat.zero_le _, E1.addM (.new hD0) hD0 upd_same (fun xs z => by cases z), .new hD0, Nat.le_refl _, [], upd_same, rfl, .nil, .nil⟩, ?_⟩
  rintro i m H2 ⟨rfl, hi, E2, le2, la, vs, hv, hl, hn, ia⟩
  have kp : Kp M H1 (D0 :: M) H2 := ⟨fun a o n e => le2.keep a o (fun z => n (E1.ok.zM a z)) e, fun a m => (List.mem_cons.mp m).elim (fun z => .inr (z ▸ hD0)) .inl⟩
  obtain ⟨w1, w2⟩ := wk _ _ kp E2.ok.kn
  by_cases hlt : i < es.length
  · have hd : es[i]? = some es[i] := List.getElem?_eq_getElem hlt
    have md : es[i] ∈ es := List.getElem_mem hlt
    generalize es[i] = d at hd md
    obtain ⟨go, yl⟩ := w1 i d hd
    refine .inr ⟨go, fun H => i + 1 ≤ es.length ∧ Env X.K c (D0 :: M) ow σ H ds ∧ Le c.z H1 H ∧ (acc (i + 1)).1.length ≤ i + 1 ∧ ∃ vs, H D0 = some (.dT ((acc (i + 1)).1.zip vs)) ∧ (acc (i + 1)).1.length = vs.length ∧ (acc (i + 1)).1.Nodup ∧ IsAll X.K (cut (D0 :: M) H) vs (acc (i + 1)).2,
      fun H' p' => ⟨es.length - (i + 1), by omega, rfl, p'⟩, fun x H3 hy => ?_⟩
    obtain ⟨sb, ix⟩ := yl x H3 hy
    have le3 : Le c.z H2 H3 := .of sb
    refine gp d md _ ow _ H3 x ((E2.up le3).wipe (own.map (·.2))) ix _ fun σ2 hw E4 => ⟨?_, ?_⟩
    · rw [hw]
      have idem : ∀ (vs ws : List Nat), (∀ v ∈ vs, v ∈ ws) → L2.wipe (L2.wipe σ vs) ws = L2.wipe σ ws := fun vs ws => by
        induction vs with
        | nil => exact fun _ => rfl
        | cons u us ih =>
          intro h
          show L2.wipe ((L2.wipe σ us).set u none) ws = _
          rw [wipe_set _ u _ ws (h u List.mem_cons_self)]
          exact ih fun v hv => h v (List.mem_cons_of_mem _ hv)
      exact idem _ _ fun _ h => h
    · simp only [tYes, if_true]
      refine ⟨d, md, _, ow, E4, fun y r H5 pr l5 iy => ⟨d, md, _, ow, E4.up l5, fun w e H6 pe l6 iw => ?_⟩⟩
      subst pr pe
      have l26 : Le c.z H2 H6 := (le3.tr l5).tr l6
      have h6 : H6 D0 = some (.dT ((acc i).1.zip vs)) := l26.keep _ _ (own_z n0) hv
      obtain ⟨b, rfl, hb⟩ := kD_inv (iy.up ((E4.up l5).ok.cut l6))
      have ia6 := ia.up (E2.ok.cut l26)
      obtain ⟨ws, e3, e4, e5, e6⟩ := put_zip (k := kf d) hl hn ia6 iw
      have ea := accS i d hd
      refine ⟨_, kf d, b, rfl, (cut_at hb).1, h6, by rw [List.length_zip, ← hl, Nat.min_self]; omega, hlt, (E2.up l26).writeM List.mem_cons_self n0 (.at h6 rfl) (fun xs z => by cases z) (E.notOwn nM), (le2.tr l26).mut hD0 (.at h6 rfl), ?_, ws, ?_, ?_, ?_, ?_⟩
      · rw [ea]
        unfold putD
        split
        · exact Nat.le_succ_of_le la
        · rw [List.length_append]
          exact Nat.succ_le_succ la
      · rw [upd_same, e3, ea]
      · rw [ea]
        exact e4
      · rw [ea]
        exact e5
      · rw [ea, cut_upd List.mem_cons_self]
        exact e6
  · have e : i = es.length := by omega
    subst e
    have et : acc es.length = mergeD (es.map fun d => (kf d, vf d)) ([], []) := by
      show mergeD ((es.take es.length).map _) _ = _
      rw [List.take_length]
    rw [et] at hv hl hn ia
    refine .inl ⟨w2, q D0 H2 vs n0 nM ?_ (l1.tr le2) hv hl hn ia⟩
    cases e : H D0 with
    | none => rfl
    | some o =>
      by_cases z : D0 ∈ c.z
      · exact absurd hD0 ((l1.zok E.ok.zok).num z)
      · rw [l1.keep D0 o z e] at hD0
        cases hD0
/-- {k: v for ..}, no test; the keys told by their items -/
theorem dv_dc {kx vx tg iter : Expr} {scope : Scope} {own : List (Str × Nat)} {its : List D} {kf : D → List L2.Key} {vf : D → D} {f : D → List Sl} {g : TG}
    (hu : X.A.units < cLine) (hc : X.calm = true) (hN : X.N.Nodup) (hi : DI X c ds tg iter (· = its)) (ok : BlkOk X.N X.env.scope scope own)
    (hg : ∀ (s : Shared) (H : Hp) (C : Addr) (cl : List (Str × Addr)) (fp : List Addr), PG (X.blk s H scope (compEnvC scope cl C X.env) fp) tg g)
    (gp : ∀ d, d ∈ its → GP X.K c g (own.map (·.2)) d (wipeD ds (own.map (·.2))) (f d))
    (hk : ∀ d, d ∈ its → ∀ (s : Shared) (H : Hp) (C : Addr) (cl : List (Str × Addr)) (fp : List Addr), DV (X.blk s H scope (compEnvC scope cl C X.env) fp) c (f d) kx (kD (kf d)))
    (he : ∀ d, d ∈ its → ∀ (s : Shared) (H : Hp) (C : Addr) (cl : List (Str × Addr)) (fp : List Addr), DV (X.blk s H scope (compEnvC scope cl C X.env) fp) c (f d) vx (vf d))
    (hz : its.length ≤ sizeLine) (hs : ∀ x, foldedSetIterable iter X.env x = pure x := by intro _; rfl) :
    DV X c ds (.DictComp kx vx [⟨tg, iter, [], 0⟩] scope pos) (.dic (mergeD (its.map fun d => (kf d, vf d)) ([], [])).1 (mergeD (its.map fun d => (kf d, vf d)) ([], [])).2) := by
  have hk' : ∀ (s : Shared) (H : Hp) (C : Addr) (cl : List (Str × Addr)) (fp : List Addr), PE (X.blk s H scope (compEnvC scope cl C X.env) fp) kx (fun σ H Q => ∃ d, d ∈ its ∧ tD X.K c (f d) (· = kD (kf d)) σ H Q) :=
    fun s H C cl fp => ⟨fun pins s2 σ H2 Q I ⟨d, m, h⟩ => (hk d m s H C cl fp).run pins s2 σ H2 Q I h⟩
  have he' : ∀ (s : Shared) (H : Hp) (C : Addr) (cl : List (Str × Addr)) (fp : List Addr), PE (X.blk s H scope (compEnvC scope cl C X.env) fp) vx (fun σ H Q => ∃ d, d ∈ its ∧ tD X.K c (f d) (· = vf d) σ H Q) :=
    fun s H C cl fp => ⟨fun pins s2 σ H2 Q I ⟨d, m, h⟩ => (he d m s H C cl fp).run pins s2 σ H2 Q I h⟩
  exact de_of (pe_dcT hu hc hN hi ok hg (fun _ _ _ _ _ => pts_nil) hk' he' hs) fun M ow σ H E Q q => dc_lg gp hz E fun D0 H2 vs n0 nM h0 l hv hl hn ia => q (.ref D0) _ H2 rfl l (.dic (.inl (cut_of hv nM)) hl hn (ia.up (cut_less fun a m => List.mem_cons_of_mem _ m)))
/-- the same, as a new dict that only one slot knows -/
theorem dn_dc {kx vx tg iter : Expr} {scope : Scope} {own : List (Str × Nat)} {its : List D} {kf : D → List L2.Key} {vf : D → D} {f : D → List Sl} {g : TG}
    (hu : X.A.units < cLine) (hc : X.calm = true) (hN : X.N.Nodup) (hi : DI X c ds tg iter (· = its)) (ok : BlkOk X.N X.env.scope scope own)
    (hg : ∀ (s : Shared) (H : Hp) (C : Addr) (cl : List (Str × Addr)) (fp : List Addr), PG (X.blk s H scope (compEnvC scope cl C X.env) fp) tg g)
    (gp : ∀ d, d ∈ its → GP X.K c g (own.map (·.2)) d (wipeD ds (own.map (·.2))) (f d))
    (hk : ∀ d, d ∈ its → ∀ (s : Shared) (H : Hp) (C : Addr) (cl : List (Str × Addr)) (fp : List Addr), DV (X.blk s H scope (compEnvC scope cl C X.env) fp) c (f d) kx (kD (kf d)))
    (he : ∀ d, d ∈ its → ∀ (s : Shared) (H : Hp) (C : Addr) (cl : List (Str × Addr)) (fp : List Addr), DV (X.blk s H scope (compEnvC scope cl C X.env) fp) c (f d) vx (vf d))
    (hz : its.length ≤ sizeLine) (hs : ∀ x, foldedSetIterable iter X.env x = pure x := by intro _; rfl) :
    DNV X c ds (.DictComp kx vx [⟨tg, iter, [], 0⟩] scope pos) (.dic (mergeD (its.map fun d => (kf d, vf d)) ([], [])).1 (mergeD (its.map fun d => (kf d, vf d)) ([], [])).2) := by
  have hk' : ∀ (s : Shared) (H : Hp) (C : Addr) (cl : List (Str × Addr)) (fp : List Addr), PE (X.blk s H scope (compEnvC scope cl C X.env) fp) kx (fun σ H Q => ∃ d, d ∈ its ∧ tD X.K c (f d) (· = kD (kf d)) σ H Q) :=
    fun s H C cl fp => ⟨fun pins s2 σ H2 Q I ⟨d, m, h⟩ => (hk d m s H C cl fp).run pins s2 σ H2 Q I h⟩
  have he' : ∀ (s : Shared) (H : Hp) (C : Addr) (cl : List (Str × Addr)) (fp : List Addr), PE (X.blk s H scope (compEnvC scope cl C X.env) fp) vx (fun σ H Q => ∃ d, d ∈ its ∧ tD X.K c (f d) (· = vf d) σ H Q) :=
    fun s H C cl fp => ⟨fun pins s2 σ H2 Q I ⟨d, m, h⟩ => (he d m s H C cl fp).run pins s2 σ H2 Q I h⟩
  exact dn_of (pe_dcT hu hc hN hi ok hg (fun _ _ _ _ _ => pts_nil) hk' he' hs) fun M ow σ H E Q q => dc_lg gp hz E fun D0 H2 vs n0 nM h0 l hv hl hn ia => q D0 _ _ H2 rfl l h0 hv (fun xs z => by cases z) ⟨rfl, List.mem_cons_self, n0, vs, hv, hl, hn, ia⟩
end
end Dt

set_option Elab.async false
set_option linter.all false
set_option maxRecDepth 100000
set_option maxHeartbeats 4000000
/-! bool of a tuple; a tuple taken once or not at all; how many ints are different -/
namespace L2
open PySem PySem.Spec PyProof.Rows
theorem meets_bool_tuple (l : Addr) (items : Array Value) (hfit : (items.size : Int) < 2 ^ 63) :
    Meets (Builtin.«bool.__new__» ⟨[.type "bool", .ref l], []⟩) (fun _ R s => IsTup s.heap l items ∧ R (.ok (.ret (.bool (!items.isEmpty)))) { s with toks := s.toks + 1 + 1 }) :=
  Meets.of_wp fun prog w A R s hs => by
    obtain ⟨ht, hs⟩ := hs
    obtain ⟨hp, g, d, tk, os⟩ := s
    have f1 := PySem.F.conv_sub_bool
    repeat (any_goals (first | assumption | (with_reducible refine truthy_tuple ht hfit ?_) | wp_step))
    all_goals first | exact ⟨_, rfl, hs⟩ | exact hs | skip
section
variable {X : Cx}
theorem call_boolT : CallR X (.type "bool") (fun xs H Q => ∃ (a : Addr) (zs : List V), xs = [.ref a] ∧ SqT X.K H a zs ∧ Q (.bl (!zs.isEmpty)) H) := by
  intro pins s σ H xs us Q I r h
  obtain ⟨a, zs, rfl, hq, q⟩ := h
  obtain rfl := Vals.ref1 r
  obtain ⟨its, rv, pl, hz⟩ := I.tuple hq
  have hl := line63
  have hlen := rv.length
  exact call_bool_1 (meets_bool_tuple a its.toArray (by simp only [List.size_toArray]; omega)) ⟨pl, rfl, ⟨.bl (!zs.isEmpty), H, I.tok _, by rw [isEmpty_of rv]; rfl, q⟩⟩
end
theorem tuple_mul1 (l : Addr) (items : Array Value) (n : Nat) (dd : Option Addr) (sl : Array (Option Value)) (u : Tok) :
    Meets (Builtin.«tuple.__mul__» ⟨[.ref l, .int 1 u], []⟩) (fun _ R s => s.heap.get? l = some { cls := .type "tuple", dict := dd, data := .seq items n, slots := sl } ∧ R (.ok (.ret (Value.ref l))) s) :=
  .of_wp fun prog w A R s h => by
    obtain ⟨hp, g, d, tk, os⟩ := s
    obtain ⟨hl, h⟩ := h
    have f1 := AutoSeq1.idx_int
    wp_walk using wpAny_loadPart' hl
    exact ⟨_, rfl, h⟩
theorem tuple_mul0 (l : Addr) (items : Array Value) (n : Nat) (dd : Option Addr) (sl : Array (Option Value)) (u : Tok) (x : Int) (c0 : (decide (x < -(2 ^ 63)) || decide (x ≥ 2 ^ 63)) = false) (c1 : (items.isEmpty || x == 1) = false) (c2 : (decide (x ≤ 0) || items.isEmpty) = true) :
    Meets (Builtin.«tuple.__mul__» ⟨[.ref l, .int x u], []⟩) (fun _ R s => s.heap.get? l = some { cls := .type "tuple", dict := dd, data := .seq items n, slots := sl } ∧
      R (.ok (.ret (Value.ref s.heap.objs.size))) { s with heap := s.heap.push { cls := Value.type "tuple", data := Data.seq #[] }, toks := s.toks }) :=
  .of_wp fun prog w A R s h => by
    obtain ⟨hp, g, d, tk, os⟩ := s
    obtain ⟨hl, h⟩ := h
    have f1 := AutoSeq1.idx_int
    wp_walk using wpAny_loadPart' hl
    repeat (first
      | (refine wpAny_ite_false (decide_eq_false (by rw [c0]; exact Bool.false_ne_true)) ?_; wp_walk using wpAny_loadPart' hl)
      | (refine wpAny_ite_false (decide_eq_false (by rw [c1]; exact Bool.false_ne_true)) ?_; wp_walk using wpAny_loadPart' hl)
      | (refine wpAny_ite_true (decide_eq_true c2) ?_; wp_walk using wpAny_loadPart' hl))
    exact ⟨_, rfl, h⟩
section
variable {X : Cx}
theorem op_repT1 : OpR X (binaryOp .Mult) (fun x y H Q => ∃ l xs, x = .ref l ∧ y = .int 1 ∧ H l = some (.tup xs) ∧ Q (.ref l) H) := by
  intro pins s σ H x y v u Q I rx ry h
  obtain ⟨l, xs, rfl, rfl, hT, q⟩ := h
  obtain rfl : v = Value.ref l := rx
  obtain ⟨t, rfl⟩ := ry
  obtain ⟨_, its, r, ⟨⟨cls, dd, data, sl⟩, ho, hc, n, hd⟩⟩ := (show ObjOk X.prog X.w H s.heap l (.tup xs) from I.hok l _ hT)
  simp only at hc hd
  subst hc hd
  refine wpAny_binaryOp_repeat_ref (T := "tuple") (U := "int") (by decide) ⟨_, ho, rfl⟩ (fun s' => typeIs_int s' 1 t) noFill_tuple_mul PySem.F.fills_int_mul PySem.F.slot_int_rmul repeat_tuple PySem.F.slot_int_index.lookup
    (call_meets PySem.F.slot_int_rmul (typeIs_int s 1 t) PySem.F.entry_int_rmul (PySem.F.args_int_rmul_2 _ _) (int_rmul_tuple 1 t l its.toArray n dd sl)
      ⟨ho, rfl, ⟨_, ho, rfl⟩, call_meets PySem.F.slot_tuple_mul ⟨_, ho, rfl⟩ PySem.F.entry_tuple_mul (PySem.F.args_tuple_mul_2 _ _) (tuple_mul1 l its.toArray n dd sl t) ⟨ho, ⟨.ref l, H, I, rfl, q⟩⟩⟩)
theorem op_repT0 : OpR X (binaryOp .Mult) (fun x y H Q => ∃ l k xs, x = .ref l ∧ y = .int k ∧ H l = some (.tup xs) ∧ xs ≠ [] ∧ -(2 ^ 63) ≤ k ∧ k ≤ 0 ∧ ∀ p, H p = none → Q (.ref p) (upd H p (.tup []))) := by
  intro pins s σ H x y v u Q I rx ry h
  obtain ⟨l, k, xs, rfl, rfl, hT, hne, h1, h2, q⟩ := h
  obtain rfl : v = Value.ref l := rx
  obtain ⟨t, rfl⟩ := ry
  obtain ⟨_, its, r, ⟨⟨cls, dd, data, sl⟩, ho, hc, n, hd⟩⟩ := (show ObjOk X.prog X.w H s.heap l (.tup xs) from I.hok l _ hT)
  simp only at hc hd
  subst hc hd
  have hi : its.toArray.isEmpty = false := by
    cases r with
    | nil => exact absurd rfl hne
    | cons _ _ => rfl
  have c0 : (decide (k < -(2 ^ 63)) || decide (k ≥ 2 ^ 63)) = false := by
    rw [decide_eq_false (by omega), decide_eq_false (by omega)]
    rfl
  have c1 : (its.toArray.isEmpty || k == 1) = false := by
    rw [hi, Bool.false_or]
    exact beq_eq_false_iff_ne.mpr (by omega)
  have c2 : (decide (k ≤ 0) || its.toArray.isEmpty) = true := by
    rw [decide_eq_true h2]
    rfl
  refine wpAny_binaryOp_repeat_ref (T := "tuple") (U := "int") (by decide) ⟨_, ho, rfl⟩ (fun s' => typeIs_int s' k t) noFill_tuple_mul PySem.F.fills_int_mul PySem.F.slot_int_rmul repeat_tuple PySem.F.slot_int_index.lookup
    (call_meets PySem.F.slot_int_rmul (typeIs_int s k t) PySem.F.entry_int_rmul (PySem.F.args_int_rmul_2 _ _) (int_rmul_tuple k t l its.toArray n dd sl)
      ⟨ho, rfl, ⟨_, ho, rfl⟩, call_meets PySem.F.slot_tuple_mul ⟨_, ho, rfl⟩ PySem.F.entry_tuple_mul (PySem.F.args_tuple_mul_2 _ _) (tuple_mul0 l its.toArray n dd sl t k c0 c1 c2) ⟨ho, ?_⟩⟩)
  exact ⟨.ref s.heap.objs.size, _, I.laid (t' := s.toks) (o := .tup []) (fun b ob e => Heap.get?_push_of_some _ e) (Nat.le_refl _) ⟨Nat.zero_le _, [], .nil, IsTup.new _ _⟩, rfl, q _ (I.hok.fresh (Nat.le_refl _))⟩
/-- len(set(a list of ints)) -/
def diffs (ns : List Int) : Nat := (firstMet (fun i => ns.getD i 0) ns.length).length
def tLenSet (K : PySem.W.Frag) (ta : TE) : TE := fun σ H Q => ta σ H fun x G => ∃ (l : Addr) (ns : List Int), x = .ref l ∧ SqL K G l (ns.map V.int) ∧ ns.length ≤ 4000 ∧ Q (.int (diffs ns : Nat)) G
theorem pe_lenSet {a : Expr} {ta : TE} {p p2 q pos : Pos} (hg : Gl X "len") (hm : X.mg "len" = none) (hg2 : Gl X "set") (hm2 : X.mg "set" = none) (ha : PE X a ta) (hc : X.calm = true)
    (na : starEach [a] X.env = (false, eval a X.env) :: starEach [] X.env := by rfl) : PE X (.Call (.Name "len" p) [.Call (.Name "set" p2) [a] [] q] [] pos) (tLenSet X.K ta) := by
  refine ⟨fun pins s σ H Q I h => ?_⟩
  refine Call_ (ld_blt I hg hm PySem.boot_len (PyProof.Rows.callWith_builtin1 (PyProof.Rows.args_cons ?_ rfl) rfl rfl))
  refine Call_ (ld_blt I hg2 hm2 PyProof.Rows.boot_set (PyProof.Rows.callWith_type1 (PyProof.Rows.args_cons (thn (ha.run pins s σ H _ I h) fun v t1 ⟨x, G, J, r1, q1⟩ => PyProof.Rows.args_nil ?_) na) na rfl))
  obtain ⟨l, ns, rfl, hq, h1, q1⟩ := q1
  cases r1
  obtain ⟨its, r, pl, hz⟩ := J.list hq
  have hl : its.toArray.size = ns.length := by rw [List.size_toArray, ← r.length, List.length_map]
  refine call_set_list (J.ok.hd hc) pl.isList (ns := ns) (by simpa using r.ints) (by unfold scanBound; omega) fun h' tk hS hk => ?_
  rw [hl] at hS
  refine PyProof.Rows.args_nil ?_
  obtain ⟨o, es, ep, t, ho, hex, hd, _, _, _, hf, hn⟩ := hS
  have J2 : Inv X pins σ G { t1 with heap := h', toks := tk } := J.kept fun b o e => hk b o (Heap.lt_size e) e
  have le : (firstMet (fun i => ns.getD i 0) ns.length).length ≤ ns.length := by
    have go : ∀ (f : Nat → Int) (n : Nat), (firstMet f n).length ≤ n := fun f n => by
      induction n with
      | zero => exact Nat.le_of_eq rfl
      | succ n ih =>
        rw [firstMet_succ]
        unfold step_dedup
        split
        · exact Nat.le_succ_of_le ih
        · rw [List.length_append]
          exact Nat.succ_le_succ ih
    exact go _ _
  exact call_len_set ho hex hd hf (by rw [hn]; omega) ⟨.int (diffs ns : Nat), G, J2.tok _, ⟨_, by rw [hn]; rfl⟩, q1⟩
end
end L2

set_option Elab.async false
set_option linter.all false
set_option maxRecDepth 100000
set_option maxHeartbeats 4000000
/-! instances made, fields, written texts, what is left, in data -/
namespace Dt
open PySem PyProof.Rows L2
section
variable {X : Cx} {c : Fx} {ds : List Sl} {a b d e : D} {P Pa Pb : D → Prop} {ee ea eb ec ed : Expr} {pos p : Pos} {ks ls : List (List L2.Key)} {es : List D} {k : List L2.Key} {po : Po}
/-! tuples -/
theorem c_boolT {xs : List D} : CallD X (.type "bool") c [.tup xs] (· = .bl (!xs.isEmpty)) := cad_of call_boolT fun M H vs ok i1 Q q => by
  obtain ⟨v, rfl, h⟩ := i1.one
  obtain ⟨p, ys, rfl, hp, ia⟩ := h.tup_inv
  refine ⟨p, ys, rfl, .inl (.inl (cut_at hp).1), q _ _ H rfl .rfl' ?_⟩
  have e : ys.isEmpty = xs.isEmpty := by
    have := ia.len
    cases ys <;> cases xs <;> simp at this ⊢
  rw [e]
  exact .bl
theorem c_boolB {x : Bool} : CallD X (.type "bool") c [.bl x] (· = .bl x) := cad_of call_bool1 fun M H vs ok i1 Q q => by
  obtain ⟨v, rfl, h⟩ := i1.one
  exact .inr ⟨x, by rw [h.bl_inv], q _ _ H rfl .rfl' .bl⟩
theorem o_repT {xs : List D} {n : Nat} (hne : xs ≠ []) (h1 : n ≤ 1000) (h2 : xs.length ≤ 1000) : OpD X (binaryOp .Mult) c (.tup xs) (.int (n : Int)) (· = .tup (List.replicate n xs).flatten) := by
  match n with
  | 0 =>
    refine opd_of op_repT0 fun M H x y ok i1 i2 Q q => ?_
    obtain ⟨p, us, rfl, hp, ia⟩ := i1.tup_inv
    refine ⟨p, _, us, rfl, i2.int_inv, (cut_at hp).1, fun z => hne ?_, by decide, by decide, fun l hl => q _ _ _ rfl (.new hl) (n_tup ok .nil hl)⟩
    subst z
    exact List.length_eq_zero_iff.mp ia.len.symm
  | 1 =>
    refine opd_of op_repT1 fun M H x y ok i1 i2 Q q => ?_
    obtain ⟨p, us, rfl, hp, ia⟩ := i1.tup_inv
    refine ⟨p, us, rfl, i2.int_inv, (cut_at hp).1, q _ _ H rfl .rfl' ?_⟩
    have e : (List.replicate 1 xs).flatten = xs := by simp
    rw [e]
    exact .tup hp ia
  | n + 2 =>
    refine opd_of op_repT fun M H x y ok i1 i2 Q q => ?_
    obtain ⟨p, us, rfl, hp, ia⟩ := i1.tup_inv
    refine ⟨p, _, us, rfl, i2.int_inv, .inl (.inl (cut_at hp).1), fun z => hne ?_, by omega, by omega, by rw [ia.len]; exact h2, fun l hl => q _ _ _ rfl (.new hl) (n_tup ok ?_ hl)⟩
    · subst z
      exact List.length_eq_zero_iff.mp ia.len.symm
    · exact ia.rep _
theorem s_tupA {xs : List D} {lo hi : Option Int} : SlD X c (.tup xs) lo hi (· = .tup (cutD xs lo hi)) := sld_of sl_tupA fun M H x ok i1 Q q => by
  obtain ⟨p, us, rfl, hp, ia⟩ := i1.tup_inv
  refine ⟨p, us, rfl, .inl (.inl (cut_at hp).1), fun w => q _ _ H rfl .rfl' ?_, fun _ l hl => q _ _ _ rfl (.new hl) (n_tup ok (ia.cutV lo hi) hl)⟩
  have e : cutD xs lo hi = xs := by
    unfold cutD
    rw [ia.len] at w
    rw [w.1, w.2]
    simp
  rw [e]
  exact .tup hp ia
/-- i in (a tuple or list of ints) -/
theorem o_inT {i : Int} {ns : List Int} : OpD X (compareOp .In) c (.int i) (.tup (D.ints ns)) (· = .bl (ns.any fun j => j == i)) := opd_of op_in_seq fun M H x y ok i1 i2 Q q => by
  obtain ⟨p, us, rfl, hp, ia⟩ := i2.tup_inv
  rw [ints_inv ia] at hp
  have fl : ∀ ns : List Int, (ns.map V.int).all flatV = true := fun ns => by
    induction ns with
    | nil => rfl
    | cons n ns ih => rw [List.map_cons, List.all_cons, ih]; rfl
  have eq : ∀ ns : List Int, inV (.int i) (ns.map V.int) = ns.any fun j => j == i := fun ns => by
    unfold inV
    induction ns with
    | nil => rfl
    | cons n ns ih => rw [List.map_cons, List.any_cons, ih]; rfl
  refine ⟨p, ns.map V.int, rfl, .inr (.inl (.inl (cut_at hp).1)), by rw [i1.int_inv]; rfl, fl ns, ?_⟩
  rw [i1.int_inv, if_neg (by decide), eq]
  exact q _ _ H rfl .rfl' .bl
/-- (*a, b, ..) -/
theorem da_starT {xs : List D} {r : List Expr} {as : List D} (he : DV X c ds ee (.tup xs)) (hr : DL X c ds r as) (hs : starEach (.Starred ee p :: r) X.env = (true, eval ee X.env) :: starEach r X.env := by rfl) : DL X c ds (.Starred ee p :: r) (xs ++ as) :=
  da_of (StX.pa_star he hr hs) fun M ow σ H E Q q => ⟨M, ow, E, fun v d H1 p1 l1 i1 => by
    subst p1
    obtain ⟨a, us, rfl, ha, ia⟩ := i1.tup_inv
    exact ⟨a, us, rfl, .inl (.inl (.inl (cut_at ha).1)), M, ow, E.up l1, fun vs bs H2 p2 l2 i2 => by
      subst p2
      exact q _ _ H2 rfl (l1.tr l2) ((ia.up ((E.up l1).ok.cut l2)).app i2)⟩⟩
/-- len(set(ints)) -/
theorem dv_lenSet {ns : List Int} {p2 q : Pos} (hg : Gl X "len") (hm : X.mg "len" = none) (hg2 : Gl X "set") (hm2 : X.mg "set" = none) (hc : X.calm = true) (ha : DV X c ds ea (.lst (D.ints ns))) (hz : ns.length ≤ 4000) (na : starEach [ea] X.env = (false, eval ea X.env) :: starEach [] X.env := by rfl) :
    DV X c ds (.Call (.Name "len" p) [.Call (.Name "set" p2) [ea] [] q] [] pos) (.int (diffs ns : Nat)) :=
  de_of (L2.pe_lenSet hg hm hg2 hm2 ha hc na) fun M ow σ H E Q q => ⟨M, ow, E, fun v d H1 p1 l1 i1 => by
    subst p1
    obtain ⟨a, us, rfl, ha, ia⟩ := i1.lst_inv
    exact ⟨a, ns, rfl, .inl (.inl (by rw [← ints_inv ia]; exact (cut_at ha).1)), hz, q _ _ H1 rfl l1 .int⟩⟩
/-- list(range(n)) -/
theorem dv_listRg {n : Int} {q p3 : Pos} (hc : X.calm = true) (hg : Gl X "list") (hm : X.mg "list" = none) (hg2 : Gl X "range") (hm2 : X.mg "range" = none) (ha : DV X c ds ea (.int n)) (hz : RgOk 0 n)
    (na : starEach [ea] X.env = (false, eval ea X.env) :: starEach [] X.env := by rfl) (nb : starEach [.Call (.Name "range" q) [ea] [] pos] X.env = (false, eval (.Call (.Name "range" q) [ea] [] pos) X.env) :: starEach [] X.env := by rfl) :
    DV X c ds (.Call (.Name "list" p) [.Call (.Name "range" q) [ea] [] pos] [] p3) (.lst (rngD 0 n.toNat)) :=
  de_of (L2.pe_listRg hc hg hm (L2.prg_1 hg2 hm2 ha na) nb) fun M ow σ H E Q q => ⟨M, ow, E, fun v d H1 p1 l1 i1 => by
    subst p1
    refine ⟨n, i1.int_inv, hz, fun l hl => q _ _ _ rfl (l1.tr (.new hl)) (n_list (E.up l1).ok ?_ hl)⟩
    unfold rgV rngD
    have go : ∀ l : List Nat, IsAll X.K (cut M H1) (l.map fun i => V.int (0 + (i : Nat))) (l.map fun (i : Nat) => D.int (0 + i)) := fun l => by
      induction l with
      | nil => exact .nil
      | cons x l ih => exact .cons .int ih
    rw [Int.sub_zero]
    exact go _⟩
/-- d == e of dicts of ints -/
theorem o_eqDic {ns ms : List Int} (hu : X.A.units + 1 < cLine) : OpD X (compareOp .Eq) c (.dic ks (D.ints ns)) (.dic ls (D.ints ms)) (· = .bl (sameT (ks.zip (ns.map V.int)) (ls.zip (ms.map V.int)))) := opd_of (op_eqDictT hu) fun M H x y ok i1 i2 Q q => by
  obtain ⟨p, us, rfl, hp, _, _, ia⟩ := i1.dic_inv
  obtain ⟨p2, us2, rfl, hp2, _, _, ia2⟩ := i2.dic_inv
  rw [ints_inv ia] at hp
  rw [ints_inv ia2] at hp2
  have fl : ∀ (ks : List (List L2.Key)) (ns : List Int), (ks.zip (ns.map V.int)).all (fun q => flatV q.2) = true := fun ks ns => by
    rw [List.all_eq_true]
    intro q hq
    have := (List.of_mem_zip (a := q.1) (b := q.2) hq).2
    obtain ⟨i, _, e⟩ := List.mem_map.mp this
    rw [← e]
    rfl
  exact ⟨p, p2, _, _, rfl, rfl, rd_uncut hp, rd_uncut hp2, fl _ _, fl _ _, q _ _ H rfl .rfl' .bl⟩
/-! f'..' -/
theorem dv_fmtS {s : Str} (h : DV X c ds ee (.str s)) (hz : s.length ≤ sizeLine) : DV X c ds (.FormattedValue ee (-1) none pos) (.str s) := de_of (L2.pe_fmt h) fun M ow σ H E Q q => ⟨M, ow, E, fun v d H1 p1 l1 i1 => by
  subst p1
  exact .inl ⟨s, i1.str_inv, hz, q _ _ H1 rfl l1 .str⟩⟩
theorem dv_fmtI {i : Int} (h : DV X c ds ee (.int i)) (hz : i.natAbs.log2 < 1920) : DV X c ds (.FormattedValue ee (-1) none pos) (.str (toString i)) := de_of (L2.pe_fmt h) fun M ow σ H E Q q => ⟨M, ow, E, fun v d H1 p1 l1 i1 => by
  subst p1
  exact .inr ⟨i, i1.int_inv, hz, q _ _ H1 rfl l1 .str⟩⟩
/-- the parts of a written text, joined behind acc -/
def joinS : Str → List Str → Str
  | acc, [] => acc
  | acc, s :: r => joinS (acc ++ s) r
def DJ (X : Cx) (c : Fx) (ds : List Sl) (es : List Expr) (ss : List Str) : Prop := ∃ ts, PJ X es ts ∧ ∀ M ow σ H acc, Env X.K c M ow σ H ds → (joinS acc ss).length ≤ sizeLine → ∀ Q : Str → Hp → Prop, (∀ H', Le c.z H H' → Q (joinS acc ss) H') → tJs ts acc σ H Q
theorem joinS_len : ∀ (ss : List Str) (acc : Str), acc.length ≤ (joinS acc ss).length
  | [], _ => Nat.le_refl _
  | s :: r, acc => Nat.le_trans (by rw [Str.length_append]; exact Nat.le_add_right _ _) (joinS_len r (acc ++ s))
theorem dj_nil : DJ X c ds [] [] := ⟨[], .nil, fun M ow σ H acc E hz Q q => q H .rfl'⟩
theorem dj_cons {r : List Expr} {s : Str} {ss : List Str} (h : DV X c ds ee (.str s)) (hr : DJ X c ds r ss) : DJ X c ds (ee :: r) (s :: ss) := by
  obtain ⟨ts, h1, h2⟩ := hr
  refine ⟨_ :: ts, .cons h h1, fun M ow σ H acc E hz Q q => ⟨M, ow, E, fun v d H1 p1 l1 i1 => ?_⟩⟩
  subst p1
  exact ⟨s, i1.str_inv, Nat.le_trans (joinS_len ss _) hz, h2 M ow σ H1 (acc ++ s) (E.up l1) hz Q fun H' l => q H' (l1.tr l)⟩
theorem dv_joined {r : List Expr} {ss : List Str} (h : DJ X c ds (ea :: eb :: r) ss) (hz : (joinS Str.empty ss).length ≤ sizeLine) : DV X c ds (.JoinedStr (ea :: eb :: r) pos) (.str (joinS Str.empty ss)) := by
  obtain ⟨ts, h1, h2⟩ := h
  exact de_of (L2.pe_joined h1) fun M ow σ H E Q q => h2 M ow σ H Str.empty E hz _ fun H' l => q _ _ H' rfl l .str
/-! fields of an own instance -/
theorem dv_fldOwn {x0 C : Addr} {ns : List Str} {f : Str} {i j : Nat} {x : Str} {px : Pos} (hN : X.N[i]? = some x) (hv : Vis X.env.scope x) (h : ds[i]? = some (.obj x0 C ns es)) (hb : attributeBase (.Name x px) f X.env (eval (.Name x px) X.env) = eval (.Name x px) X.env) (cl : Cls X.K C) (na : NoAttr X.K C f)
    (hl : ∀ vs : List V, ns.length = vs.length → (ns.zip vs).lookup f = vs[j]?) (hd : es[j]? = some d) (h1 : (x == ("__debug__" : Str)) = false := by decide) (h2 : (x == ("__classdict__" : Str)) = false := by decide) : DV X c ds (.Attribute (.Name x px) f pos) d :=
  de_of (L2.pe_fld (pe_var hN hv h1 h2) hb) fun M ow σ H E Q q => by
    obtain ⟨e1, m, n, _, dx, vs, hp, hn, ia⟩ := E.at_ i _ h
    obtain ⟨v, ev, iv⟩ := ia.at' hd
    exact ⟨_, e1, _, C, dx, _, v, rfl, hp, cl, na, by rw [hl _ hn]; exact ev, q v d H rfl .rfl' iv⟩
theorem putF_zip {f : Str} {v : V} : ∀ {ns : List Str} {vs : List V}, ns.length = vs.length → f ∉ ns → putF f v (ns.zip vs) = (ns ++ [f]).zip (vs ++ [v])
  | [], [], _, _ => rfl
  | [], _ :: _, h, _ => nomatch h
  | _ :: _, [], h, _ => nomatch h
  | n :: ns, w :: vs, h, hf => by
    have ne : n ≠ f := fun z => hf (by rw [z]; exact List.mem_cons_self)
    show putF f v ((n, w) :: ns.zip vs) = (n, w) :: (ns ++ [f]).zip (vs ++ [v])
    unfold putF
    rw [if_neg ne, putF_zip (Nat.succ.inj h) fun m => hf (List.mem_cons_of_mem _ m)]
/-- self.f = e, a new field -/
theorem ds_fldNew {x0 C : Addr} {ns : List Str} {f : Str} {i : Nat} {x : Str} {px pt : Pos} (hN : X.N[i]? = some x) (hv : Vis X.env.scope x) (h : ds[i]? = some (.obj x0 C ns es)) (he : DE X c ds ee P) (cl : Cls X.K C) (na : NoAttr X.K C f) (hf : f ∉ ns) (hz : ns.length < 1000)
    (hq : ∀ d, P d → po.nx (ds.set i (.obj x0 C (ns ++ [f]) (es ++ [d])))) (hs : swapsWith ee (some (.Attribute (.Name x px) f pt)) pos.line X.env = pure false := by rfl) (h1 : (x == ("__debug__" : Str)) = false := by decide) (h2 : (x == ("__classdict__" : Str)) = false := by decide) :
    DS X c ds (.Assign [.Attribute (.Name x px) f pt] ee pos) po :=
  ds_of (L2.ps_fld (pe_var hN hv h1 h2) he hs) fun M ow σ H E D q1 q2 q3 q4 => ⟨M, ow, E, fun v d H1 pd l1 i1 => by
    obtain ⟨e1, m, n, _⟩ := E.at_ i _ h
    obtain ⟨_, _, _, ex, dx, vs, hp, hn, ia⟩ := (E.up l1).at_ i _ h
    refine ⟨_, e1, ow i, C, dx, _, rfl, hp, cl, na, by rw [List.length_zip, ← hn, Nat.min_self]; exact hz, ?_⟩
    rw [putF_zip hn hf]
    exact q1 _ _ _ _ _ (hq d pd) ((E.up l1).write h rfl (fun xs z => by cases z) ⟨rfl, m, n, ex, dx, vs ++ [v], upd_same, by simp [hn], by rw [cut_upd m]; exact ia.app (.cons i1 .nil)⟩) (kp_own E l1 m)⟩
end
/-! ### instances made -/
/-- an __init__'s promise -/
def spI (K : PySem.W.Frag) (C : Addr) (pre : List D → Prop) (post : List D → D → Prop) (xs : List D → Value → Prop) : Sp := fun vs H Q E => ∃ (c : Fx) (as : List D) (x dx : Addr) (ws : List V), vs = .ref x :: ws ∧ H = upd (upd c.H0 dx (.own x)) x (.ins C dx []) ∧ c.H0 x = none ∧ c.H0 dx = none ∧ dx ≠ x ∧ c.z = ⟨[], []⟩ ∧ pre as ∧ IsAll K (cut c.B c.H0) ws as ∧
  (∀ d H', post as d → Le c.z c.H0 H' → Is K (cut c.B H') (.ref x) d → Q .non H') ∧ (∀ cls H', xs as cls → Le c.z c.H0 H' → E cls none H')
section
variable {X : Cx} {c : Fx} {ds : List Sl} {P : D → Prop} {e : Expr} {es : List Expr} {pos p : Pos} {x : Str} {C : Addr} {pre : List D → Prop} {post : List D → D → Prop} {xs : List D → Value → Prop} {dvs : List V} {das : List D} {j k : Nat} {E : XK} {Pa : List D → Prop}
theorem zok0 {H : Hp} : Zok ⟨[], []⟩ H := ⟨fun a m => (by cases m), fun a m => (by cases m)⟩
theorem no_mem {a : Addr} {P : Prop} (m : a ∈ (⟨[], []⟩ : Zt)) : P := by
  rcases m with m | m <;> cases m
theorem spI_of {K : PySem.W.Frag} {M : List Addr} {H : Hp} {vs : List V} {as : List D} {a dx : Addr} {Q : VK} (ok : Ok c M H) (ia : IsAll K (cut M H) vs as) (h1 : H a = none) (h2 : H dx = none) (h3 : dx ≠ a) (hp : pre as)
    (q : ∀ d H', post as d → Le c.z H H' → Is K (cut M H') (.ref a) d → Q .non H') (hE : ∀ cls H', xs as cls → Le c.z c.H0 H' → E cls none H') : spI K C pre post xs (.ref a :: vs) (upd (upd H dx (.own a)) a (.ins C dx [])) Q E :=
  ⟨ok.fx ⟨[], []⟩ (fun a m => no_mem m) zok0, as, a, dx, vs, rfl, rfl, h1, h2, h3, rfl, hp, ia, fun d H' pd l i => q d H' pd (l.up (fun a m => by cases m) (.inl rfl) zok0) i, fun cls H' h l => hE cls H' h (ok.le.tr (l.up (fun a m => by cases m) (.inl rfl) zok0))⟩
theorem de_make (T : Mkr X.prog X.w X.K X.mg X.base k x C (spI X.K C pre post xs) dvs) (hd : ∀ H, IsAll X.K H dvs das) (hr : Room j X.A) (hk : k + 1 ≤ j) (hg : Gl X x) (hx : Passes (L2.CX X.prog X.w) X E) (ha : DA X c ds (e :: es) Pa)
    (hp : ∀ as, Pa as → pre (as ++ das)) (hq : ∀ as d, Pa as → post (as ++ das) d → P d) (hE : ∀ as cls H', Pa as → xs (as ++ das) cls → Le c.z c.H0 H' → E cls none H')
    (hdb : (x == ("__debug__" : Str)) = false := by decide) (he : starEach (e :: es) X.env = (false, eval e X.env) :: starEach es X.env := by rfl) (hpl : (backTo pos (starEach es X.env)).any (·.1) = false := by rfl) :
    DE X c ds (.Call (.Name x p) (e :: es) [] pos) P := by
  obtain ⟨f, fd, ps, dd, M0, F, hm, b, d⟩ := T.ex
  exact de_of (L2.pe_make M0 F (hr.mono hk) hg hm b d hx ha hdb he hpl) fun M ow σ H E Q q => ⟨M, ow, E, fun vs as H1 pa l1 i1 a dx h1 h2 h3 =>
    spI_of (E.up l1).ok (i1.app (hd _)) h1 h2 h3 (hp as pa) (fun d H' pd l i => ⟨rfl, q _ d H' (hq as d pa pd) (l1.tr l) i⟩) fun cls H' h l => hE as cls H' pa h l⟩
theorem de_make0 (T : Mkr X.prog X.w X.K X.mg X.base k x C (spI X.K C pre post xs) dvs) (hd : ∀ H, IsAll X.K H dvs das) (hr : Room j X.A) (hk : k + 1 ≤ j) (hg : Gl X x) (hx : Passes (L2.CX X.prog X.w) X E)
    (hp : pre das) (hq : ∀ d, post das d → P d) (hE : ∀ cls H', xs das cls → Le c.z c.H0 H' → E cls none H') (hdb : (x == ("__debug__" : Str)) = false := by decide) :
    DE X c ds (.Call (.Name x p) [] [] pos) P := by
  obtain ⟨f, fd, ps, dd, M0, F, hm, b, d⟩ := T.ex
  exact de_of (L2.pe_make0 M0 F (hr.mono hk) hg hm b d hx hdb) fun M ow σ H E Q q a dx h1 h2 h3 =>
    spI_of E.ok (hd _) h1 h2 h3 hp (fun d H' pd l i => ⟨rfl, q _ d H' (hq d pd) l i⟩) hE
end
section
variable {Pr : Program} {w : World} {K : PySem.W.Frag} {mg : Str → Option Value} {base : Heap} {x qual : Str} {params : Arguments} {body : List Stmt} {scope : Scope} {dvs : List V} {kws : List (Str × V)} {f C : Addr} {fd : FuncData}
variable {N ps : List Str} {k : Nat} {pre : List D → Prop} {post : List D → D → Prop} {xs : List D → Value → Prop}
def startI (N : List Str) (x C : Addr) (as : List D) : List Sl := .obj x C [] [] :: as.map .val ++ List.replicate (N.length - (as.length + 1)) .no
/-- how an __init__ begins -/
theorem startI_env {c : Fx} {as : List D} {a dx : Addr} {ws : List V} {H : Hp} (hl : as.length + 1 = ps.length) (hH : H = upd (upd c.H0 dx (.own a)) a (.ins C dx [])) (h1 : c.H0 a = none) (h2 : c.H0 dx = none) (h3 : dx ≠ a) (ia : IsAll K (cut c.B c.H0) ws as) :
    Env K c (a :: c.B) (fun _ => a) (L2.start N (.ref a :: ws)) H (startI N a C as) := by
  subst hH
  have le1 : Le c.z c.H0 (upd (upd c.H0 dx (.own a)) a (.ins C dx [])) := (Le.new h2).tr (.new (by rw [upd_ne (Ne.symm h3)]; exact h1))
  have nB : a ∉ c.B := own_B h1
  have ok' : Ok c (a :: c.B) (upd (upd c.H0 dx (.own a)) a (.ins C dx [])) := ⟨le1, fun a m => List.mem_cons_of_mem _ m, fun a m => by
    rcases List.mem_cons.mp m with rfl | m
    · exact ⟨_, upd_same, fun xs z => by cases z⟩
    · exact (c.ok.up le1).kn a m⟩
  have sb : Sub (cut c.B c.H0) (cut (a :: c.B) (upd (upd c.H0 dx (.own a)) a (.ins C dx []))) := c.ok.subNew le1 h1
  refine ⟨ok', ?_, fun i t e => ?_, fun i j t u e1 e2 w1 w2 _ => ?_⟩
  · unfold L2.start startI
    simp [ia.len]
  · unfold startI at e
    cases i with
    | zero =>
      have e' : Sl.obj a C [] [] = t := by simpa using e
      subst e'
      exact ⟨rfl, List.mem_cons_self, h1, rfl, dx, [], upd_same, rfl, .nil⟩
    | succ i =>
      have e : (as.map Sl.val ++ List.replicate (N.length - (as.length + 1)) Sl.no)[i]? = some t := by simpa using e
      by_cases hi : i < as.length
      · rw [List.getElem?_append_left (by simpa using hi), List.getElem?_map, Option.map_eq_some_iff] at e
        obtain ⟨d, hd, rfl⟩ := e
        obtain ⟨v, hv, iv⟩ := ia.at' hd
        refine ⟨v, ?_, iv.up sb⟩
        unfold L2.start
        rw [List.getElem?_append_left (by rw [List.length_map, List.length_cons, ia.len]; omega), List.getElem?_map, List.getElem?_cons_succ, hv]
        rfl
      · rw [List.getElem?_append_right (by simpa using hi), List.getElem?_replicate] at e
        split at e
        · cases e
          trivial
        · cases e
  · have no : ∀ (i : Nat) (s : Sl), (startI N a C as)[i]? = some s → s.own = true → i = 0 := fun i s e w => by
      cases i with
      | zero => rfl
      | succ i =>
        unfold startI at e
        have e : (as.map Sl.val ++ List.replicate (N.length - (as.length + 1)) Sl.no)[i]? = some s := by simpa using e
        by_cases hi : i < as.length
        · rw [List.getElem?_append_left (by simpa using hi), List.getElem?_map, Option.map_eq_some_iff] at e
          obtain ⟨d, hd, rfl⟩ := e
          cases w
        · rw [List.getElem?_append_right (by simpa using hi), List.getElem?_replicate] at e
          split at e
          · cases e
            cases w
          · cases e
    rw [no i t e1 w1, no j u e2 w2]
/-- an __init__ that may raise -/
theorem fn_i (F : FunD K x qual params body scope dvs kws f fd) (S : FnScope N ps scope) (hl : ∀ as, pre as → as.length + 1 = ps.length)
    (hb : ∀ (x0 : Addr) (c : Fx) (as : List D) (cdv : Value) (A : Around) (outer : List PySem.Env) (s : Shared) (H : Hp) (E : XK), Room k (A.deeper (envOfC qual scope s.heap.objs.size f cdv)) → pre as → c.z = ⟨[], []⟩ → (∀ cls H', xs as cls → Le c.z c.H0 H' → E cls none H') →
      DSs (cxOf (L2.CX Pr w) Pr w K mg base N qual scope f cdv A outer s H E) c (startI N x0 C as) body ⟨fun ds => ∃ ns es, ds[0]? = some (.obj x0 C ns es) ∧ post as (.obj C ns es), fun _ => False, fun _ => False, fun _ => False⟩) :
    FnOk Pr w K mg base (L2.CX Pr w) (k + 1) f fd ps (spI K C pre post xs) := by
  refine F.ok S (fun vs H Q E h => ?_) fun cdv A outer s H vs Q E hr h => ?_
  · obtain ⟨c, as, x, dx, ws, rfl, _, _, _, _, _, hp, ia, _⟩ := h
    rw [List.length_cons, ia.len, hl as hp]
  · obtain ⟨c, as, x, dx, ws, rfl, hH, h1, h2, h3, hz, hp, ia, q, qx⟩ := h
    refine ⟨_, hb x c as cdv A outer s H E hr hp hz qx, x :: c.B, fun _ => x, ?_, fun M' ow' σ' H' ds' n E' _ => ?_, (fun _ _ _ z => z.elim), (fun _ _ _ _ _ z => z.elim), fun _ _ _ _ _ z => z.elim⟩
    · exact startI_env (hl as hp) hH h1 h2 h3 ia
    · obtain ⟨ns, es, e0, pd⟩ := n
      obtain ⟨_, m, _, ex, dx', us, hp', hn, iu⟩ := E'.at_ 0 _ e0
      exact q _ H' pd E'.ok.le (ex ▸ .obj (cut_of hp' (own_B (E'.at_ 0 _ e0).2.2.1)) hn (iu.up (cut_less E'.ok.bM)))
end
end Dt

set_option Elab.async false
set_option linter.all false
set_option maxRecDepth 100000
set_option maxHeartbeats 4000000
/-! rules put together: isinstance, comprehensions over one name -/
namespace Dt
open PySem PyProof.Rows L2
/-- isinstance against a class that is built in -/
def isA (n : String) : D → Bool
  | .int _ => n == "int"
  | .bl _ => n == "int" || n == "bool"
  | .str _ => n == "str"
  | .tup _ => n == "tuple"
  | .lst _ => n == "list"
  | .dic _ _ | .mix _ => n == "dict"
  | _ => false
/-- .. against an own class -/
def isO (C : Addr) : D → Bool
  | .obj C' _ _ => decide (C' = C)
  | _ => false
/-- a datum whose class is known: built in, or one of L -/
def kc (L : List Addr) : D → Bool
  | .int _ | .bl _ | .str _ | .tup _ | .lst _ | .dic _ _ | .mix _ | .non => true
  | .obj C _ _ => decide (C ∈ L)
  | _ => false
abbrev btys : List String := ["int", "bool", "str", "tuple", "list", "dict"]
/-- what the classes of L answer isinstance -/
structure KL (K : PySem.W.Frag) (L : List Addr) : Prop where
  bt : ∀ C ∈ L, ∀ n ∈ "NoneType" :: btys, PySem.W.kitOne K (.type n) (.ref C) = some false
  ob : ∀ C ∈ L, ClsF K C ∧ (∀ n ∈ btys, PySem.W.kitOne K (.ref C) (.type n) = some false) ∧ ∀ C' ∈ L, PySem.W.kitOne K (.ref C) (.ref C') = some (decide (C = C'))
section
variable {K : PySem.W.Frag} {L : List Addr} {d : D}
theorem kc_cl (kl : KL K L) (h : kc L d = true) : (∃ t, d.cl = some t ∧ (∀ n ∈ btys, PySem.W.kitOne K t (.type n) = some (isA n d)) ∧ ∀ C ∈ L, PySem.W.kitOne K t (.ref C) = some (isO C d)) ∧ ∀ C ns es, d = .obj C ns es → ClsF K C := by
  have bt : ∀ n : String, n ∈ "NoneType" :: btys → ∀ C ∈ L, PySem.W.kitOne K (.type n) (.ref C) = some false := fun n hn C hC => kl.bt C hC n hn
  have no : (∀ C ns es, d ≠ .obj C ns es) → ∀ C ns es, d = .obj C ns es → ClsF K C := fun a C ns es e => (a C ns es e).elim
  cases d with
  | non => exact ⟨⟨_, rfl, by simp only [List.forall_mem_cons]; exact ⟨rfl, rfl, rfl, rfl, rfl, rfl, fun _ h => by cases h⟩, bt _ (by decide)⟩, no fun _ _ _ e => by cases e⟩
  | bl _ => exact ⟨⟨_, rfl, by simp only [List.forall_mem_cons]; exact ⟨rfl, rfl, rfl, rfl, rfl, rfl, fun _ h => by cases h⟩, bt _ (by decide)⟩, no fun _ _ _ e => by cases e⟩
  | int _ => exact ⟨⟨_, rfl, by simp only [List.forall_mem_cons]; exact ⟨rfl, rfl, rfl, rfl, rfl, rfl, fun _ h => by cases h⟩, bt _ (by decide)⟩, no fun _ _ _ e => by cases e⟩
  | str _ => exact ⟨⟨_, rfl, by simp only [List.forall_mem_cons]; exact ⟨rfl, rfl, rfl, rfl, rfl, rfl, fun _ h => by cases h⟩, bt _ (by decide)⟩, no fun _ _ _ e => by cases e⟩
  | tup _ => exact ⟨⟨_, rfl, by simp only [List.forall_mem_cons]; exact ⟨rfl, rfl, rfl, rfl, rfl, rfl, fun _ h => by cases h⟩, bt _ (by decide)⟩, no fun _ _ _ e => by cases e⟩
  | lst _ => exact ⟨⟨_, rfl, by simp only [List.forall_mem_cons]; exact ⟨rfl, rfl, rfl, rfl, rfl, rfl, fun _ h => by cases h⟩, bt _ (by decide)⟩, no fun _ _ _ e => by cases e⟩
  | dic _ _ => exact ⟨⟨_, rfl, by simp only [List.forall_mem_cons]; exact ⟨rfl, rfl, rfl, rfl, rfl, rfl, fun _ h => by cases h⟩, bt _ (by decide)⟩, no fun _ _ _ e => by cases e⟩
  | mix _ => exact ⟨⟨_, rfl, by simp only [List.forall_mem_cons]; exact ⟨rfl, rfl, rfl, rfl, rfl, rfl, fun _ h => by cases h⟩, bt _ (by decide)⟩, no fun _ _ _ e => by cases e⟩
  | obj C ns es =>
    obtain ⟨o1, o2, o3⟩ := kl.ob C (of_decide_eq_true h)
    exact ⟨⟨_, rfl, o2, o3⟩, fun C' _ _ e => by cases e; exact o1⟩
  | _ => cases h
end
section
variable {X : Cx} {c : Fx} {ds : List Sl} {a b d e : D} {P : D → Prop} {ee ea eb ec : Expr} {pos p p2 : Pos} {L : List Addr}
theorem dv_isA {x : Str} {n : String} (hg : Gl X "isinstance") (hm : X.mg "isinstance" = none) (hg2 : Gl X x) (hm2 : X.mg x = none) (ha : DV X c ds ea d) (kl : KL X.K L) (kn : kc L d = true) (hv : bootBuiltins x = some (.type n) := by rfl) (hn : n ∈ btys := by decide) (hx : x ≠ "__name__" := by decide) (hd : (x == ("__debug__" : Str)) = false := by decide)
    (he : starEach [ea, .Name x p2] X.env = (false, eval ea X.env) :: starEach [.Name x p2] X.env := by rfl) (hpl : (backTo pos (starEach [.Name x p2] X.env)).any (·.1) = false := by rfl) :
    DV X c ds (.Call (.Name "isinstance" p) [ea, .Name x p2] [] pos) (.bl (isA n d)) := by
  obtain ⟨⟨t, h1, h2, _⟩, h3⟩ := kc_cl kl kn
  exact dv_callB hg hm rfl (dl_cons ha (dl_cons (de_bty hg2 hm2 hv hx hd) da_nil) he) (c_isi h1 h3 rfl (h2 n hn)) (he := he) (hpl := hpl)
theorem dv_isO {x : Str} {C : Addr} (hg : Gl X "isinstance") (hm : X.mg "isinstance" = none) (hg2 : Gl X x) (hm2 : X.mg x = some (.ref C)) (ha : DV X c ds ea d) (kl : KL X.K L) (hC : C ∈ L) (kn : kc L d = true) (hd : (x == ("__debug__" : Str)) = false := by decide)
    (he : starEach [ea, .Name x p2] X.env = (false, eval ea X.env) :: starEach [.Name x p2] X.env := by rfl) (hpl : (backTo pos (starEach [.Name x p2] X.env)).any (·.1) = false := by rfl) :
    DV X c ds (.Call (.Name "isinstance" p) [ea, .Name x p2] [] pos) (.bl (isO C d)) := by
  obtain ⟨⟨t, h1, _, h2⟩, h3⟩ := kc_cl kl kn
  exact dv_callB hg hm rfl (dl_cons ha (dl_cons (de_gref hg2 hm2 hd) da_nil) he) (c_isi h1 h3 rfl (h2 C hC)) (he := he) (hpl := hpl)
theorem rm {k : Nat} {A : Around} (h : Room k A) (n : Nat) (hn : n < 200 := by decide) : A.units + n < cLine := by
  have := h.un
  omega
/-- a name by its slot -/
theorem dv_v (i : Nat) {x : Str} (h : ds[i]? = some (.val d) := by rfl) (hN : X.N[i]? = some x := by rfl) (hv : Vis X.env.scope x := by first | exact .inl rfl | exact .inr (.inl rfl) | exact .inr (.inr rfl)) (h1 : (x == ("__debug__" : Str)) = false := by decide) (h2 : (x == ("__classdict__" : Str)) = false := by decide) : DV X c ds (.Name x pos) d := de_var hN hv h h1 h2
theorem dv_L (i : Nat) {x : Str} {ks : List (List L2.Key)} {es : List D} (h : ds[i]? = some (.lck ks es) := by rfl) (hN : X.N[i]? = some x := by rfl) (hv : Vis X.env.scope x := by first | exact .inl rfl | exact .inr (.inl rfl) | exact .inr (.inr rfl)) (h1 : (x == ("__debug__" : Str)) = false := by decide) (h2 : (x == ("__classdict__" : Str)) = false := by decide) : DV X c ds (.Name x pos) (.dic ks es) := dv_varL hN hv h h1 h2
theorem di_K (i : Nat) {x : Str} {tg : Expr} {ks : List (List L2.Key)} {es : List D} (h : ds[i]? = some (.lck ks es) := by rfl) (hN : X.N[i]? = some x := by rfl) (hv : Vis X.env.scope x := by first | exact .inl rfl | exact .inr (.inl rfl) | exact .inr (.inr rfl)) (h1 : (x == ("__debug__" : Str)) = false := by decide) (h2 : (x == ("__classdict__" : Str)) = false := by decide) : DI X c ds tg (.Name x pos) (· = ks.map kD) := di_keys hN hv h h1 h2
theorem c_allM {α : Type} {xs : List α} {t : α → Bool} (hc : X.calm = true) : CallD X (.builtin "all") c [.lst (xs.map fun d => .bl (t d))] (· = .bl (xs.all t)) := by
  have e : (xs.map fun d => D.bl (t d)) = (xs.map t).map D.bl := by rw [List.map_map]; rfl
  rw [e]
  exact (c_all hc).imp fun d z => by rw [z]; simp [List.all_map]
theorem c_anyM {α : Type} {xs : List α} {t : α → Bool} (hc : X.calm = true) : CallD X (.builtin "any") c [.lst (xs.map fun d => .bl (t d))] (· = .bl (xs.any t)) := by
  have e : (xs.map fun d => D.bl (t d)) = (xs.map t).map D.bl := by rw [List.map_map]; rfl
  rw [e]
  exact (c_any hc).imp fun d z => by rw [z]; simp [List.any_map]
/-- if test: .. return .. -/
theorem dss_guard {po : Po} {sa r : List Stmt} {ct : Expr} {b : Bool} (ht : DB X c ds ct b) (h1 : b = true → DSs X c ds sa { po with nx := fun _ => False }) (h2 : b = false → DSs X c ds r po) : DSs X c ds (.If ct sa [] pos :: r) po :=
  dss_cons (N := fun d => d = ds ∧ b = false) (ds_if (Pt := (· = b)) ht (fun e => (h1 e.symm).imp (fun _ z => z.elim) (fun _ z => z) (fun _ z => z) (fun _ z => z)) (fun e => dss_nil ⟨rfl, e.symm⟩)) fun ds' e => by
    obtain ⟨rfl, hb⟩ := e
    exact h2 hb
/-- if test: .. -/
theorem dss_when {po : Po} {sa r : List Stmt} {ct : Expr} {b : Bool} {ds' : List Sl} (ht : DB X c ds ct b) (h1 : b = true → DSs X c ds sa { po with nx := (· = ds') }) (h0 : b = false → ds = ds') (h2 : DSs X c ds' r po) : DSs X c ds (.If ct sa [] pos :: r) po :=
  dss_to (ds_if (Pt := (· = b)) ht (fun e => h1 e.symm) (fun e => dss_nil (h0 e.symm))) h2
/-- return e, which answers d -/
theorem ds_retV {po : Po} {d : D} (h : DV X c ds ea d) (p : po.rt d) : DSs X c ds [.Return (some ea) pos] po := dss_one (ds_ret (h.to p))
/-! comprehensions over one name -/
section
variable {elt iter ct : Expr} {scope : Scope} {es : List D} {r : D → D} {t : D → Bool} {x : Str} {i : Nat} {tp : Pos}
/-- the block of such a comprehension -/
abbrev Bk (X : Cx) (scope : Scope) (P : Cx → Prop) : Prop := ∀ (s : Shared) (H : Hp) (C : Addr) (cl : List (Str × Addr)) (fp : List Addr), P (X.blk s H scope (compEnvC scope cl C X.env) fp)
theorem pg_name1 (hN : X.N.Nodup) (hi : X.N[i]? = some x) (hl : scope.names.lookup x = some .local) : Bk X scope fun Y => PG Y (.Name x tp) (gName i) := fun s H C cl fp => pg_name hN hi (.inl (lookup_relabel_local hl)) (.inr (lookup_relabel_local hl))
theorem dv_map1 (hc : X.calm = true) (hN : X.N.Nodup) (hi : X.N[i]? = some x) (it : DI X c ds (.Name x tp) iter (· = es)) (ok : L2.blkC X.N X.env.scope scope [(x, i)] = true) (hl : scope.names.lookup x = some .local)
    (he : ∀ d, d ∈ es → Bk X scope fun Y => DV Y c ((wipeD ds [i]).set i (.val d)) elt (r d)) (hz : es.length ≤ sizeLine) (hs : ∀ x, foldedSetIterable iter X.env x = pure x := by intro _; rfl) :
    DV X c ds (.ListComp elt [⟨.Name x tp, iter, [], 0⟩] scope pos) (.lst (es.map r)) :=
  dv_map (own := [(x, i)]) hc hN it (L2.blkOk_by ok) (pg_name1 hN hi hl) (fun d _ => gp_name (by simp)) he hz hs
theorem dv_filter1 (hc : X.calm = true) (hN : X.N.Nodup) (hi : X.N[i]? = some x) (it : DI X c ds (.Name x tp) iter (· = es)) (ok : L2.blkC X.N X.env.scope scope [(x, i)] = true) (hl : scope.names.lookup x = some .local)
    (ht : ∀ d, d ∈ es → Bk X scope fun Y => DB Y c ((wipeD ds [i]).set i (.val d)) ct (t d)) (he : ∀ d, d ∈ es → t d = true → Bk X scope fun Y => DV Y c ((wipeD ds [i]).set i (.val d)) elt (r d)) (hz : es.length ≤ sizeLine) (hs : ∀ x, foldedSetIterable iter X.env x = pure x := by intro _; rfl) :
    DV X c ds (.ListComp elt [⟨.Name x tp, iter, [ct], 0⟩] scope pos) (.lst ((es.filter t).map r)) :=
  dv_filter (own := [(x, i)]) hc hN it (L2.blkOk_by ok) (pg_name1 hN hi hl) (fun d _ => gp_name (by simp)) ht he hz hs
/-! .. whose items are told by what they are made of -/
noncomputable def via {α β : Type} (kf : α → D) (r : α → β) (z : β) (d : D) : β := by
  classical
  exact if h : ∃ a, kf a = d then r h.choose else z
theorem via_at {α β : Type} {kf : α → D} {r : α → β} {z : β} (inj : ∀ a b, kf a = kf b → a = b) (a : α) : via kf r z (kf a) = r a := by
  unfold via
  have h : ∃ b, kf b = kf a := ⟨a, rfl⟩
  rw [dif_pos h, inj _ _ h.choose_spec]
theorem keyD_inj : ∀ a b, keyD a = keyD b → a = b
  | .inl _, .inl _, h => by cases h; rfl
  | .inr _, .inr _, h => by cases h; rfl
  | .inl _, .inr _, h => by cases h
  | .inr _, .inl _, h => by cases h
theorem map_inj {α β : Type} {f : α → β} (inj : ∀ a b, f a = f b → a = b) : ∀ xs ys : List α, xs.map f = ys.map f → xs = ys
  | [], [], _ => rfl
  | [], _ :: _, h => by cases h
  | _ :: _, [], h => by cases h
  | x :: xs, y :: ys, h => by
    rw [List.map_cons, List.map_cons] at h
    injection h with h1 h2
    rw [inj _ _ h1, map_inj inj xs ys h2]
theorem kD_inj : ∀ a b, kD a = kD b → a = b := fun a b h => map_inj keyD_inj a b (by injection h)
theorem int_inj : ∀ a b, D.int a = D.int b → a = b := fun a b h => by injection h
theorem dv_mapA {α : Type} {as : List α} {kf : α → D} {r : α → D} (inj : ∀ a b, kf a = kf b → a = b) (hc : X.calm = true) (hN : X.N.Nodup) (hi : X.N[i]? = some x) (it : DI X c ds (.Name x tp) iter (· = as.map kf)) (ok : L2.blkC X.N X.env.scope scope [(x, i)] = true) (hl : scope.names.lookup x = some .local)
    (he : ∀ a, a ∈ as → Bk X scope fun Y => DV Y c ((wipeD ds [i]).set i (.val (kf a))) elt (r a)) (hz : as.length ≤ sizeLine) (hs : ∀ x, foldedSetIterable iter X.env x = pure x := by intro _; rfl) :
    DV X c ds (.ListComp elt [⟨.Name x tp, iter, [], 0⟩] scope pos) (.lst (as.map r)) :=
  DV.cast (dv_map1 (r := via kf r .non) hc hN hi it ok hl (fun d m s H C cl fp => by
    obtain ⟨a, ha, rfl⟩ := List.mem_map.mp m
    rw [via_at inj]
    exact he a ha s H C cl fp) (by rw [List.length_map]; exact hz) hs) (by rw [List.map_map]; exact congrArg D.lst (List.map_congr_left fun a _ => via_at inj a))
theorem dv_filterA {α : Type} {as : List α} {kf : α → D} {t : α → Bool} {r : α → D} (inj : ∀ a b, kf a = kf b → a = b) (hc : X.calm = true) (hN : X.N.Nodup) (hi : X.N[i]? = some x) (it : DI X c ds (.Name x tp) iter (· = as.map kf)) (ok : L2.blkC X.N X.env.scope scope [(x, i)] = true) (hl : scope.names.lookup x = some .local)
    (ht : ∀ a, a ∈ as → Bk X scope fun Y => DB Y c ((wipeD ds [i]).set i (.val (kf a))) ct (t a)) (he : ∀ a, a ∈ as → t a = true → Bk X scope fun Y => DV Y c ((wipeD ds [i]).set i (.val (kf a))) elt (r a)) (hz : as.length ≤ sizeLine) (hs : ∀ x, foldedSetIterable iter X.env x = pure x := by intro _; rfl) :
    DV X c ds (.ListComp elt [⟨.Name x tp, iter, [ct], 0⟩] scope pos) (.lst ((as.filter t).map r)) :=
  DV.cast (dv_filter1 (t := via kf t false) (r := via kf r .non) hc hN hi it ok hl (fun d m s H C cl fp => by
    obtain ⟨a, ha, rfl⟩ := List.mem_map.mp m
    rw [via_at inj]
    exact ht a ha s H C cl fp) (fun d m hd s H C cl fp => by
    obtain ⟨a, ha, rfl⟩ := List.mem_map.mp m
    rw [via_at inj] at hd ⊢
    exact he a ha hd s H C cl fp) (by rw [List.length_map]; exact hz) hs) (by
    rw [List.filter_map, List.map_map]
    have e : (via kf t false ∘ kf) = t := funext fun a => via_at inj a
    rw [e]
    exact congrArg D.lst (List.map_congr_left fun a _ => via_at inj a))
/-- {k: v for x in ..}, the items told by what they are made of, the keys different -/
theorem dv_dcA {α : Type} {as : List α} {kf0 : α → D} {kf : α → List L2.Key} {vf : α → D} {kx vx : Expr} (inj : ∀ a b, kf0 a = kf0 b → a = b) (hu : X.A.units < cLine) (hc : X.calm = true) (hN : X.N.Nodup) (hi : X.N[i]? = some x) (it : DI X c ds (.Name x tp) iter (· = as.map kf0)) (ok : L2.blkC X.N X.env.scope scope [(x, i)] = true) (hl : scope.names.lookup x = some .local)
    (hk : ∀ a, a ∈ as → Bk X scope fun Y => DV Y c ((wipeD ds [i]).set i (.val (kf0 a))) kx (kD (kf a))) (he : ∀ a, a ∈ as → Bk X scope fun Y => DV Y c ((wipeD ds [i]).set i (.val (kf0 a))) vx (vf a)) (hn : (as.map kf).Nodup) (hz : as.length ≤ sizeLine) (hs : ∀ x, foldedSetIterable iter X.env x = pure x := by intro _; rfl) :
    DV X c ds (.DictComp kx vx [⟨.Name x tp, iter, [], 0⟩] scope pos) (.dic (as.map kf) (as.map vf)) :=
  DV.cast (dv_dc (own := [(x, i)]) (kf := via kf0 kf []) (vf := via kf0 vf .non) hu hc hN it (L2.blkOk_by ok) (pg_name1 hN hi hl) (fun d _ => gp_name (by simp)) (fun d m s H C cl fp => by
    obtain ⟨a, ha, rfl⟩ := List.mem_map.mp m
    rw [via_at inj]
    exact hk a ha s H C cl fp) (fun d m s H C cl fp => by
    obtain ⟨a, ha, rfl⟩ := List.mem_map.mp m
    rw [via_at inj]
    exact he a ha s H C cl fp) (by rw [List.length_map]; exact hz) hs) (by
    have e : (as.map kf0).map (fun d => (via kf0 kf [] d, via kf0 vf .non d)) = as.map fun a => (kf a, vf a) := by
      rw [List.map_map]
      exact List.map_congr_left fun a _ => by show (via kf0 kf [] (kf0 a), via kf0 vf .non (kf0 a)) = _; rw [via_at inj, via_at inj]
    rw [e, mergeD_new _ [] [] (by rw [List.nil_append, List.map_map]; exact hn), List.nil_append, List.nil_append, List.map_map, List.map_map]
    rfl)
/-- the first of each, behind acc -/
def nubA {α : Type} [DecidableEq α] : List α → List α → List α
  | acc, [] => acc
  | acc, a :: as => if a ∈ acc then nubA acc as else nubA (acc ++ [a]) as
theorem mergeD_nub {α : Type} [DecidableEq α] {kf : α → List L2.Key} {vf : α → D} (inj : ∀ a b, kf a = kf b → a = b) : ∀ (as acc : List α), mergeD (as.map fun a => (kf a, vf a)) (acc.map kf, acc.map vf) = ((nubA acc as).map kf, (nubA acc as).map vf)
  | [], acc => rfl
  | a :: as, acc => by
    have h : putD (acc.map kf) (acc.map vf) (kf a) (vf a) = if a ∈ acc then (acc.map kf, acc.map vf) else ((acc ++ [a]).map kf, (acc ++ [a]).map vf) := by
      unfold putD
      by_cases m : a ∈ acc
      · rw [if_pos (any_mem.mpr (List.mem_map.mpr ⟨a, m, rfl⟩)), if_pos m, List.zip_map', List.map_map]
        refine Prod.ext rfl (List.map_congr_left fun b _ => ?_)
        show (if kf b = kf a then vf a else vf b) = vf b
        by_cases z : kf b = kf a
        · rw [if_pos z, inj _ _ z]
        · rw [if_neg z]
      · rw [if_neg fun h => m (by
          obtain ⟨b, hb, e⟩ := List.mem_map.mp (any_mem.mp h)
          exact inj _ _ e ▸ hb), if_neg m, List.map_append, List.map_append]
        rfl
    rw [List.map_cons]
    show mergeD _ (putD (acc.map kf) (acc.map vf) (kf a) (vf a)) = _
    rw [h]
    unfold nubA
    by_cases m : a ∈ acc
    · rw [if_pos m, if_pos m, mergeD_nub inj as acc]
    · rw [if_neg m, if_neg m, mergeD_nub inj as (acc ++ [a])]
/-- .. the keys met again and again -/
theorem dv_dcN {α : Type} [DecidableEq α] {as : List α} {kf0 : α → D} {kf : α → List L2.Key} {vf : α → D} {kx vx : Expr} (inj : ∀ a b, kf0 a = kf0 b → a = b) (inj2 : ∀ a b, kf a = kf b → a = b) (hu : X.A.units < cLine) (hc : X.calm = true) (hN : X.N.Nodup) (hi : X.N[i]? = some x) (it : DI X c ds (.Name x tp) iter (· = as.map kf0)) (ok : L2.blkC X.N X.env.scope scope [(x, i)] = true) (hl : scope.names.lookup x = some .local)
    (hk : ∀ a, a ∈ as → Bk X scope fun Y => DV Y c ((wipeD ds [i]).set i (.val (kf0 a))) kx (kD (kf a))) (he : ∀ a, a ∈ as → Bk X scope fun Y => DV Y c ((wipeD ds [i]).set i (.val (kf0 a))) vx (vf a)) (hz : as.length ≤ sizeLine) (hs : ∀ x, foldedSetIterable iter X.env x = pure x := by intro _; rfl) :
    DV X c ds (.DictComp kx vx [⟨.Name x tp, iter, [], 0⟩] scope pos) (.dic ((nubA [] as).map kf) ((nubA [] as).map vf)) :=
  DV.cast (dv_dc (own := [(x, i)]) (kf := via kf0 kf []) (vf := via kf0 vf .non) hu hc hN it (L2.blkOk_by ok) (pg_name1 hN hi hl) (fun d _ => gp_name (by simp)) (fun d m s H C cl fp => by
    obtain ⟨a, ha, rfl⟩ := List.mem_map.mp m
    rw [via_at inj]
    exact hk a ha s H C cl fp) (fun d m s H C cl fp => by
    obtain ⟨a, ha, rfl⟩ := List.mem_map.mp m
    rw [via_at inj]
    exact he a ha s H C cl fp) (by rw [List.length_map]; exact hz) hs) (by
    have e : (as.map kf0).map (fun d => (via kf0 kf [] d, via kf0 vf .non d)) = as.map fun a => (kf a, vf a) := by
      rw [List.map_map]
      exact List.map_congr_left fun a _ => by show (via kf0 kf [] (kf0 a), via kf0 vf .non (kf0 a)) = _; rw [via_at inj, via_at inj]
    rw [e, show (([], []) : List (List L2.Key) × List D) = (([] : List α).map kf, ([] : List α).map vf) from rfl, mergeD_nub inj2])
end
end
/-! ### what may raise -/
/-- a def that answers g where ok, and raises C elsewhere -/
def spR (K : PySem.W.Frag) (pre : List D → Prop) (ok : List D → Bool) (g : List D → D) (C : Addr) : Sp := spD K false pre (fun as r => ok as = true ∧ r = g as) (fun as cls => ok as = false ∧ cls = .ref C)
/-- a def that answers g, and nothing leaves -/
def spF (K : PySem.W.Frag) (pre : List D → Prop) (f : List D → D) : Sp := spD K false pre (fun as r => r = f as) noX
section
variable {X : Cx} {c : Fx} {ds : List Sl} {d : D} {P : D → Prop} {ee : Expr} {es : List Expr} {pos p p2 p3 : Pos} {x : Str} {pre : List D → Prop} {ok : List D → Bool} {g : List D → D} {j k : Nat} {as das : List D} {Ce : Addr} {E : XK} {po : Po} {dvs : List V}
theorem ds_expr (he : DE X c ds ee P) (h : ∀ d, P d → po.nx ds) (hs : swapsWith ee none pos.line X.env = pure false := by rfl) : DS X c ds (.Expr ee pos) po :=
  ds_of (L2.ps_expr he hs) fun M ow σ H E D q1 q2 q3 q4 => ⟨M, ow, E, fun v d H' p l i => q1 M ow σ H' ds (h d p) (E.up l) (Kp.of l E.ok)⟩
theorem dv_callF (C : Cl X.prog X.w X.K X.mg X.base k x (spF X.K pre g) []) (hr : Room j X.A) (hk : k ≤ j) (hg : Gl X x) (ha : DL X c ds (ee :: es) as) (hp : pre as) (e : g as = d)
    (hdb : (x == ("__debug__" : Str)) = false := by decide) (he : starEach (ee :: es) X.env = (false, eval ee X.env) :: starEach es X.env := by rfl) (hpl : (backTo pos (starEach es X.env)).any (·.1) = false := by rfl) : DV X c ds (.Call (.Name x p) (ee :: es) [] pos) d :=
  dv_call C hr hk hg ha hp (fun _ z => z.trans e) hdb he hpl
/-- it does not raise -/
theorem dv_callR (C : Cl X.prog X.w X.K X.mg X.base k x (spR X.K pre ok g Ce) []) (hr : Room j X.A) (hk : k ≤ j) (hg : Gl X x) (ha : DL X c ds (ee :: es) as) (hp : pre as) (hok : ok as = true) (e : g as = d)
    (hdb : (x == ("__debug__" : Str)) = false := by decide) (he : starEach (ee :: es) X.env = (false, eval ee X.env) :: starEach es X.env := by rfl) (hpl : (backTo pos (starEach es X.env)).any (·.1) = false := by rfl) : DV X c ds (.Call (.Name x p) (ee :: es) [] pos) d :=
  de_call (das := []) C (fun _ => .nil) hr hk hg passF ha (fun _ e => by subst e; rw [List.append_nil]; exact hp) (fun as _ a h => by cases h) (fun _ r z q => by subst z; rw [List.append_nil] at q; exact q.2.trans e) (fun _ cls H' z q _ => by subst z; rw [List.append_nil, hok] at q; cases q.1) hdb he hpl
/-- it may raise, which leaves -/
theorem de_callX (C : Cl X.prog X.w X.K X.mg X.base k x (spR X.K pre ok g Ce) []) (hr : Room j X.A) (hk : k ≤ j) (hg : Gl X x) (hx : Passes (L2.CX X.prog X.w) X E) (ha : DL X c ds (ee :: es) as) (hp : pre as) (e : g as = d) (hE : ∀ H', ok as = false → Le c.z c.H0 H' → E (.ref Ce) none H')
    (hdb : (x == ("__debug__" : Str)) = false := by decide) (he : starEach (ee :: es) X.env = (false, eval ee X.env) :: starEach es X.env := by rfl) (hpl : (backTo pos (starEach es X.env)).any (·.1) = false := by rfl) : DE X c ds (.Call (.Name x p) (ee :: es) [] pos) (fun r => ok as = true ∧ r = d) :=
  de_call (das := []) C (fun _ => .nil) hr hk hg hx ha (fun _ e => by subst e; rw [List.append_nil]; exact hp) (fun as _ a h => by cases h) (fun _ r z q => by subst z; rw [List.append_nil] at q; exact ⟨q.1, q.2.trans e⟩) (fun _ cls H' z q l => by subst z; rw [List.append_nil] at q; obtain ⟨q1, rfl⟩ := q; exact hE H' q1 l) hdb he hpl
/-- a def's promise at these arguments -/
def spV (K : PySem.W.Frag) (as : List D) (d : D) : Sp := spD K false (· = as) (fun _ r => r = d) noX
def spO (K : PySem.W.Frag) (as : List D) (ok : Bool) (d : D) (C : Addr) : Sp := spD K false (· = as) (fun _ r => ok = true ∧ r = d) (fun _ cls => ok = false ∧ cls = .ref C)
theorem dv_callV (C : Cl X.prog X.w X.K X.mg X.base k x (spV X.K as d) []) (hr : Room j X.A) (hk : k ≤ j) (hg : Gl X x) (ha : DL X c ds (ee :: es) as)
    (hdb : (x == ("__debug__" : Str)) = false := by decide) (he : starEach (ee :: es) X.env = (false, eval ee X.env) :: starEach es X.env := by rfl) (hpl : (backTo pos (starEach es X.env)).any (·.1) = false := by rfl) : DV X c ds (.Call (.Name x p) (ee :: es) [] pos) d :=
  dv_call C hr hk hg ha rfl (fun _ z => z) hdb he hpl
theorem dv_callO {b : Bool} (C : Cl X.prog X.w X.K X.mg X.base k x (spO X.K as b d Ce) []) (hr : Room j X.A) (hk : k ≤ j) (hg : Gl X x) (ha : DL X c ds (ee :: es) as) (hok : b = true)
    (hdb : (x == ("__debug__" : Str)) = false := by decide) (he : starEach (ee :: es) X.env = (false, eval ee X.env) :: starEach es X.env := by rfl) (hpl : (backTo pos (starEach es X.env)).any (·.1) = false := by rfl) : DV X c ds (.Call (.Name x p) (ee :: es) [] pos) d :=
  de_call (das := []) C (fun _ => .nil) hr hk hg passF ha (fun _ e => by subst e; exact List.append_nil _) (fun as _ a h => by cases h) (fun _ r z q => q.2) (fun _ cls H' z q _ => by rw [hok] at q; cases q.1) hdb he hpl
theorem de_callO {b : Bool} (C : Cl X.prog X.w X.K X.mg X.base k x (spO X.K as b d Ce) []) (hr : Room j X.A) (hk : k ≤ j) (hg : Gl X x) (hx : Passes (L2.CX X.prog X.w) X E) (ha : DL X c ds (ee :: es) as) (hE : ∀ H', b = false → Le c.z c.H0 H' → E (.ref Ce) none H')
    (hdb : (x == ("__debug__" : Str)) = false := by decide) (he : starEach (ee :: es) X.env = (false, eval ee X.env) :: starEach es X.env := by rfl) (hpl : (backTo pos (starEach es X.env)).any (·.1) = false := by rfl) : DE X c ds (.Call (.Name x p) (ee :: es) [] pos) (fun r => b = true ∧ r = d) :=
  de_call (das := []) C (fun _ => .nil) hr hk hg hx ha (fun _ e => by subst e; exact List.append_nil _) (fun as _ a h => by cases h) (fun _ r z q => q) (fun _ cls H' z q l => by obtain ⟨q1, rfl⟩ := q; exact hE H' q1 l) hdb he hpl
/-- s.join(texts) -/
theorem dv_join {s : Str} {ys : List Str} {apos cpos : Pos} {jj p0} (ha : DV X c ds ee (.lst (ys.map D.str))) (h : (ys.map (·.length)).sum + ys.length * s.length ≤ 16777216)
    (hbase : attributeBase (.Constant (.str s) jj p0) "join" X.env (eval (.Constant (.str s) jj p0) X.env) = eval (.Constant (.str s) jj p0) X.env := by rfl)
    (hfew : ((backTo cpos (starEach [ee] X.env)).all (fun x => !x.1) && (backToKw cpos (keywordEach [] X.env)).all (fun x => x.1.isSome)
      && decide (([ee] : List Expr).length + ([] : List Keyword).length + (if ([] : List Keyword).isEmpty then 0 else 1) < 30)) = true := by rfl)
    (hline : (apos.endLine == cpos.line) = true := by rfl) (hs : starEach [ee] X.env = (false, eval ee X.env) :: starEach [] X.env := by rfl) (hplain : (backTo cpos (starEach [] X.env)).any (·.1) = false := by rfl) :
    DV X c ds (.Call (.Attribute (.Constant (.str s) jj p0) "join" apos) [ee] [] cpos) (.str (Txt.join s ys)) :=
  de_bm (Pa := (· = .str s)) (Pr := (· = [.lst (ys.map D.str)])) PySem.F.plainAttrs_str PySem.F.slot_str_join PySem.F.type_str_join de_str (fun a e => by subst e; exact t_str) (dl_cons ha da_nil hs) (fun a as e1 e2 => by subst e1 e2; exact m_join h) hbase hfew hline hs hplain
/-- a def's body takes what E takes -/
abbrev TkE (X : Cx) (E : XK) : Prop := L2.Takes X fun cls d _ H => E cls d H
theorem TkE.pass (h : TkE X E) : Passes (L2.CX X.prog X.w) X E := L2.passes_call h fun _ _ _ _ z => z
theorem dss_raise {m : Str} {jj} {C D f : Addr} (hc : X.calm = true) (tk : TkE X E) (T : PySem.GX.GExc X.prog X.K C D f) (gC : X.mg x = some (.ref C)) (hr : Room (k + 1) X.A) (hg : Gl X x) (hE : ∀ H', Le c.z c.H0 H' → E (.ref C) none H') (hdb : (x == ("__debug__" : Str)) = false := by decide) :
    DSs X c ds [.Raise (some (.Call (.Name x p) [.Constant (.str m) jj p2] [] p3)) none pos] po := dss_one (ds_raise hc tk (L2.pmk_gone T gC hr hg hdb) fun _ H' l => hE H' l)
end
/-! ### plain data -/
theorem canLay_all : ∀ {xs : List PyData}, (∀ x ∈ xs, x.canLay0 = true) → PyData.canLayAll0 xs = true
  | [], _ => by unfold PyData.canLayAll0; rfl
  | x :: xs, h => by
    unfold PyData.canLayAll0
    rw [h x List.mem_cons_self, canLay_all fun y m => h y (List.mem_cons_of_mem _ m)]
    rfl
theorem depth_le {n : Nat} : ∀ {xs : List PyData}, (∀ x ∈ xs, x.depth ≤ n) → PyData.depthAll xs ≤ n
  | [], _ => by unfold PyData.depthAll; exact Nat.zero_le _
  | x :: xs, h => by
    unfold PyData.depthAll
    exact Nat.max_le.mpr ⟨h x List.mem_cons_self, depth_le fun y m => h y (List.mem_cons_of_mem _ m)⟩
theorem pyAll_map {α : Type} {kf : α → D} {pf : α → PyData} : ∀ {as : List α}, (∀ a ∈ as, (kf a).py = some (pf a)) → D.pyAll (as.map kf) = some (as.map pf)
  | [], _ => rfl
  | a :: as, h => by
    rw [List.map_cons, List.map_cons]
    unfold D.pyAll
    rw [h a List.mem_cons_self, pyAll_map fun b m => h b (List.mem_cons_of_mem _ m)]
theorem py_tup {α : Type} {kf : α → D} {pf : α → PyData} {as : List α} (h : ∀ a ∈ as, (kf a).py = some (pf a)) : (D.tup (as.map kf)).py = some (.tuple (as.map pf)) := by
  unfold D.py
  rw [pyAll_map h]
  rfl
theorem py_lst {α : Type} {kf : α → D} {pf : α → PyData} {as : List α} (h : ∀ a ∈ as, (kf a).py = some (pf a)) : (D.lst (as.map kf)).py = some (.list (as.map pf)) := by
  unfold D.py
  rw [pyAll_map h]
  rfl
/-- plain data of depth at most n -/
structure ShN (n : Nat) (p : PyData) : Prop where
  lay : p.canLay0 = true
  dep : p.depth ≤ n
theorem ShN.shaped {n : Nat} {p : PyData} (h : ShN n p) (hn : n ≤ 64) : SeqAt.shaped p = true := Bool.and_eq_true_iff.mpr ⟨h.lay, decide_eq_true (Nat.le_trans h.dep hn)⟩
theorem shN_int {i : Int} : ShN 1 (.int i) := ⟨rfl, by unfold PyData.depth; decide⟩
theorem shN_tup {n : Nat} {xs : List PyData} (h : ∀ x ∈ xs, ShN n x) : ShN (n + 1) (.tuple xs) := ⟨by unfold PyData.canLay0; exact canLay_all fun x m => (h x m).lay, by unfold PyData.depth; exact Nat.succ_le_succ (depth_le fun x m => (h x m).dep)⟩
theorem shN_lst {n : Nat} {xs : List PyData} (h : ∀ x ∈ xs, ShN n x) : ShN (n + 1) (.list xs) := ⟨by unfold PyData.canLay0; exact canLay_all fun x m => (h x m).lay, by unfold PyData.depth; exact Nat.succ_le_succ (depth_le fun x m => (h x m).dep)⟩
end Dt

set_option Elab.async false
set_option linter.all false
set_option maxRecDepth 100000
set_option maxHeartbeats 4000000
/-! dicts whose keys are of many kinds -/
namespace Dt
open PySem PyProof.Rows L2
mutual
/-- the datum as a key -/
def D.nk : D → Option NestedKey
  | .non => some .none
  | .bl b => some (.num (if b = true then 1 else 0))
  | .int i => some (.num i)
  | .str s => some (.text s)
  | .tup xs => (D.nkAll xs).map .tup
  | .lst _ | .ty _ | .adr _ | .scr _ | .dic _ _ | .dck _ _ | .ist _ _ | .mix _ | .obj _ _ _ => none
def D.nkAll : List D → Option (List NestedKey)
  | [] => some []
  | d :: ds => match d.nk, D.nkAll ds with
    | some k, some ks => some (k :: ks)
    | _, _ => none
end
section
variable {K : PySem.W.Frag} {H G : Hp}
mutual
theorem Is.nk (s : Sub H G) : ∀ {v : V} {d : D} {k : NestedKey}, Is K H v d → d.nk = some k → Nk G k v
  | _, _, _, .non, e => by
    simp only [D.nk, Option.some.injEq] at e
    subst e
    exact .none
  | _, _, _, .bl, e => by
    simp only [D.nk, Option.some.injEq] at e
    subst e
    exact .bl rfl
  | _, _, _, .int, e => by
    simp only [D.nk, Option.some.injEq] at e
    subst e
    exact .int
  | _, _, _, .str, e => by
    simp only [D.nk, Option.some.injEq] at e
    subst e
    exact .str
  | _, _, _, .tup h a, e => by
    simp only [D.nk, Option.map_eq_some_iff] at e
    obtain ⟨ks, e, rfl⟩ := e
    exact .tup (s _ _ h) (IsAll.nk s a e)
  | _, _, _, .ty, e => by simp [D.nk] at e
  | _, _, _, .adr, e => by simp [D.nk] at e
  | _, _, _, .lst .., e => by simp [D.nk] at e
  | _, _, _, .scr .., e => by simp [D.nk] at e
  | _, _, _, .dic .., e => by simp [D.nk] at e
  | _, _, _, .dck .., e => by simp [D.nk] at e
  | _, _, _, .ist .., e => by simp [D.nk] at e
  | _, _, _, .mix .., e => by simp [D.nk] at e
  | _, _, _, .obj .., e => by simp [D.nk] at e
theorem IsAll.nk (s : Sub H G) : ∀ {vs : List V} {ds : List D} {ks : List NestedKey}, IsAll K H vs ds → D.nkAll ds = some ks → NkAll G ks vs
  | _, _, _, .nil, e => by
    simp only [D.nkAll, Option.some.injEq] at e
    subst e
    exact .nil
  | _, _, _, .cons (d := d) (ds := ds) h t, e => by
    simp only [D.nkAll] at e
    cases e1 : d.nk with
    | none => rw [e1] at e; simp at e
    | some k =>
      cases e2 : D.nkAll ds with
      | none => rw [e1, e2] at e; simp at e
      | some ks =>
        rw [e1, e2] at e
        simp only [Option.some.injEq] at e
        subst e
        exact .cons (Is.nk s h e1) (IsAll.nk s t e2)
end
theorem D.nkAll_map {α : Type} {f : α → D} {g : α → NestedKey} (h : ∀ x, (f x).nk = some (g x)) : ∀ xs : List α, D.nkAll (xs.map f) = some (xs.map g)
  | [] => rfl
  | x :: xs => by
    rw [List.map_cons, D.nkAll, h x, D.nkAll_map h xs]
    rfl
theorem D.nkAll_app {as bs : List D} {xs ys : List NestedKey} (h1 : D.nkAll as = some xs) (h2 : D.nkAll bs = some ys) : D.nkAll (as ++ bs) = some (xs ++ ys) := by
  induction as generalizing xs with
  | nil =>
    simp only [D.nkAll, Option.some.injEq] at h1
    subst h1
    exact h2
  | cons a as ih =>
    simp only [D.nkAll] at h1
    cases e1 : a.nk with
    | none => rw [e1] at h1; simp at h1
    | some k =>
      cases e2 : D.nkAll as with
      | none => rw [e1, e2] at h1; simp at h1
      | some ks =>
        rw [e1, e2] at h1
        simp only [Option.some.injEq] at h1
        subst h1
        rw [List.cons_append, D.nkAll, e1, ih e2]
        rfl
/-- pairs of any key and any value -/
def pr2 (p : D × D) : D := .tup [p.1, p.2]
theorem pairsM_inv (s : Sub H G) : ∀ {ps : List (D × D)} {vs : List V}, IsAll K H vs (ps.map pr2) → ∃ (as : List Addr) (kvs : List (V × V)), vs = as.map V.ref ∧ IsAll K H (kvs.map (·.1)) (ps.map (·.1)) ∧ Paired (fun p kv => G p = some (.tup [kv.1, kv.2])) as kvs
  | [], _, h => by
    cases h
    exact ⟨[], [], rfl, .nil, .nil⟩
  | p :: ps, _, h => by
    cases h with
    | cons j t =>
      obtain ⟨as, kvs, rfl, ik, pr⟩ := pairsM_inv s t
      obtain ⟨a, us, rfl, ha, iu⟩ := j.tup_inv
      obtain ⟨x, w, rfl, ix, iw⟩ := iu.two
      exact ⟨a :: as, (x, w) :: kvs, rfl, .cons ix ik, .cons (s _ _ ha) pr⟩
end
section
variable {X : Cx} {c : Fx} {ds : List Sl} {tg e : Expr}
/-- dict(pairs) -/
theorem c_dictM {ps : List (D × D)} {ks : List NestedKey} (hc : X.calm = true) (hu : X.A.units + 10 < cLine) (hk : D.nkAll (ps.map (·.1)) = some ks) (hn : ks.Nodup) (h8 : ∀ k ∈ ks, k.depth ≤ 8) : CallD X (.type "dict") c [.lst (ps.map pr2)] (· = .mix (ps.map (·.1))) := cad_of (call_dictM hc hu) fun M H xs ok i1 Q q => by
  obtain ⟨v, rfl, i⟩ := i1.one
  obtain ⟨p, vs, rfl, hl, ia⟩ := i.lst_inv
  obtain ⟨as, kvs, rfl, ik, pr⟩ := pairsM_inv (cut_sub (M := M) (H := H)) ia
  exact ⟨p, as, ks, kvs, rfl, .inl (.inl (cut_at hl).1), pr, ik.nk cut_sub hk, hn, h8, fun p' od us hp hv => q _ _ _ rfl (.new hp) (.mix (ok.at_new hp) hv (ik.up (ok.cutNew hp)))⟩
/-- for k in d -/
theorem di_mix {ks : List D} (he : DV X c ds e (.mix ks)) : DI X c ds tg e (· = ks) :=
  di_of (L2.pi_keysX he) fun M ow σ H E R q => ⟨M, ow, E, fun v d H1 p l1 i1 => by
    subst p
    cases i1 with
    | mix h0 hv a =>
      refine ⟨_, _, _, _, rfl, hv, (cut_at h0).1, q _ H1 _ rfl l1 fun M2 H2 k ok => ⟨fun i d hd => ?_, ⟨(cut_at (k.is _ _ h0)).1, by rw [← hv.length, a.len]; exact Nat.le_refl _⟩⟩⟩
      obtain ⟨x, ex, ix⟩ := a.at' hd
      have il : i < _ := (List.getElem?_eq_some_iff.mp ex).1
      refine ⟨⟨(cut_at (k.is _ _ h0)).1, by rw [← hv.length]; exact il⟩, fun y H3 hy => ?_⟩
      obtain ⟨e3, hy⟩ := hy
      subst e3
      rw [ex] at hy
      cases hy
      exact ⟨.rfl', ix.up k.is⟩⟩
end
end Dt

set_option Elab.async false
set_option linter.all false
set_option maxRecDepth 100000
set_option maxHeartbeats 4000000
/-! name = [..] where the name is a local of this def -/
namespace Dt
open PySem PyProof.Rows L2
section
variable {X : Cx} {c : Fx} {ds : List Sl} {po : Po} {elt iter ct : Expr} {scope : Scope} {x y : Str} {i j : Nat} {tp py spos pos : Pos}
theorem ds_setMapA {α : Type} {as : List α} {kf : α → D} {r : α → D} (inj : ∀ a b, kf a = kf b → a = b) (hy : X.N[j]? = some y) (hyl : X.env.scope.names.lookup y = some .local) (hsw : swapsWith (.ListComp elt [⟨.Name x tp, iter, [], 0⟩] scope pos) (some (.Name y py)) spos.line X.env = pure true)
    (hc : X.calm = true) (hN : X.N.Nodup) (hi : X.N[i]? = some x) (it : DI X c ds (.Name x tp) iter (· = as.map kf)) (ok : L2.blkC X.N X.env.scope scope [(x, i)] = true) (hl : scope.names.lookup x = some .local)
    (he : ∀ a, a ∈ as → Bk X scope fun Y => DV Y c ((wipeD ds [i]).set i (.val (kf a))) elt (r a)) (hz : as.length ≤ sizeLine) (h : po.nx (ds.set j (.val (.lst (as.map r))))) (hs : ∀ x, foldedSetIterable iter X.env x = pure x := by intro _; rfl) :
    DS X c ds (.Assign [.Name y py] (.ListComp elt [⟨.Name x tp, iter, [], 0⟩] scope pos) spos) po :=
  ds_setLc (own := [(x, i)]) (Pt := fun _ b => b = true) (Pe := fun d x => x = via kf r .non d) hc hN hy hyl hsw it (L2.blkOk_by ok) (pg_name1 hN hi hl) (fun _ d e m => gp_name (by simp)) (fun _ d e m s H C cl fp => dts_nil) (fun _ d e m _ s H C cl fp => by
    subst e
    obtain ⟨a, ha, rfl⟩ := List.mem_map.mp m
    rw [via_at inj]
    exact he a ha s H C cl fp) (fun _ e => by subst e; rw [List.length_map]; exact hz) (fun es rs e cm => by
    subst e
    rw [cm.map, List.map_map]
    have e : as.map (via kf r .non ∘ kf) = as.map r := List.map_congr_left fun a _ => via_at inj a
    rw [e]
    exact h) hs
theorem ds_setFilterA {α : Type} {as : List α} {kf : α → D} {t : α → Bool} {r : α → D} (inj : ∀ a b, kf a = kf b → a = b) (hy : X.N[j]? = some y) (hyl : X.env.scope.names.lookup y = some .local) (hsw : swapsWith (.ListComp elt [⟨.Name x tp, iter, [ct], 0⟩] scope pos) (some (.Name y py)) spos.line X.env = pure true)
    (hc : X.calm = true) (hN : X.N.Nodup) (hi : X.N[i]? = some x) (it : DI X c ds (.Name x tp) iter (· = as.map kf)) (ok : L2.blkC X.N X.env.scope scope [(x, i)] = true) (hl : scope.names.lookup x = some .local)
    (ht : ∀ a, a ∈ as → Bk X scope fun Y => DB Y c ((wipeD ds [i]).set i (.val (kf a))) ct (t a)) (he : ∀ a, a ∈ as → t a = true → Bk X scope fun Y => DV Y c ((wipeD ds [i]).set i (.val (kf a))) elt (r a)) (hz : as.length ≤ sizeLine) (h : po.nx (ds.set j (.val (.lst ((as.filter t).map r))))) (hs : ∀ x, foldedSetIterable iter X.env x = pure x := by intro _; rfl) :
    DS X c ds (.Assign [.Name y py] (.ListComp elt [⟨.Name x tp, iter, [ct], 0⟩] scope pos) spos) po :=
  ds_setLc (own := [(x, i)]) (Pt := fun d b => b = via kf t false d) (Pe := fun d x => x = via kf r .non d) hc hN hy hyl hsw it (L2.blkOk_by ok) (pg_name1 hN hi hl) (fun _ d e m => gp_name (by simp)) (fun _ d e m s H C cl fp => dts_one (by
    subst e
    obtain ⟨a, ha, rfl⟩ := List.mem_map.mp m
    rw [via_at inj]
    exact ht a ha s H C cl fp)) (fun _ d e m z s H C cl fp => by
    subst e
    obtain ⟨a, ha, rfl⟩ := List.mem_map.mp m
    rw [via_at inj] at z ⊢
    exact he a ha z.symm s H C cl fp) (fun _ e => by subst e; rw [List.length_map]; exact hz) (fun es rs e cm => by
    subst e
    rw [cm.filter, List.filter_map, List.map_map]
    have e1 : as.filter (via kf t false ∘ kf) = as.filter t := List.filter_congr fun a _ => via_at inj a
    have e : (as.filter t).map (via kf r .non ∘ kf) = (as.filter t).map r := List.map_congr_left fun a _ => via_at inj a
    rw [e1, e]
    exact h) hs
end
end Dt

set_option Elab.async false
set_option linter.all false
set_option maxRecDepth 100000
set_option maxHeartbeats 4000000
/-! own operators, in data -/
namespace Dt
open PySem PyProof.Rows L2
section
variable {X : Cx} {c : Fx} {ds : List Sl} {a b d : D} {P : D → Prop} {ea eb : Expr} {pos : Pos} {C : Addr} {ns ns2 : List Str} {os os2 : List D} {pre : List D → Prop} {post : List D → D → Prop} {xs : List D → Value → Prop} {k : Nat} {E : XK}
theorem obj_inv {K : PySem.W.Frag} {M : List Addr} {H : Hp} {v : V} (i : Is K (cut M H) v (.obj C ns os)) : ∃ a dx fs, v = .ref a ∧ H a = some (.ins C dx fs) := by
  cases i with
  | obj h1 hn ia => exact ⟨_, _, _, rfl, (cut_at h1).1⟩
/-- o[b] -/
theorem de_ixOwn (T : Mtd X.prog X.w X.K X.mg X.base k C "__getitem__" (spD X.K false pre post xs)) (gi : ∀ g, Meth X.K C "__getitem__" g → PySem.W.fnIn X.K g = true) (hr : Room (k + 1) X.A) (hx : Passes (L2.CX X.prog X.w) X E)
    (ha : DV X c ds ea (.obj C ns os)) (hb : DV X c ds eb b) (hp : pre [.obj C ns os, b]) (hq : ∀ d, post [.obj C ns os, b] d → P d) (hE : ∀ cls H', xs [.obj C ns os, b] cls → Le c.z c.H0 H' → E cls none H')
    (hs : ∀ (p : Addr) (i : Value), subscripted eb true (.ref p) i = runValue (.builtin "lifetime.subscript" ⟨[.ref p, i], []⟩) := by intro _ _; with_unfolding_all rfl) : DE X c ds (.Subscript ea eb pos) P := by
  obtain ⟨f, fd, ps, cl, me, F, b'⟩ := T.ex
  refine de_of (L2.pe_ixOwn me (gi f me) F hr b' .nil hx ha hb hs) fun M ow σ H E Q q => ⟨M, ow, E, fun v d H1 pd l1 i1 => ⟨M, ow, E.up l1, fun u e H2 p2 l2 i2 => ?_⟩⟩
  subst pd p2
  have i1' := i1.up ((E.up l1).ok.cut l2)
  obtain ⟨p, dx, fs, rfl, hp'⟩ := obj_inv i1'
  exact ⟨p, dx, fs, rfl, hp', spD_of (E.up (l1.tr l2)).ok (.cons i1' (.cons i2 .nil)) hp (fun a h => by cases h) (fun v d H' pd l i => q v d H' (hq d pd) ((l1.tr l2).tr l) i) hE⟩
/-- o op o2 -/
theorem o_binSame {op : Operator} (hc : PySem.W.selfFirst X.K C = true) (T : Mtd X.prog X.w X.K X.mg X.base k C (PySem.dunder op.info.2) (spD X.K false pre post xs)) (hr : Room k X.A) (hx : Passes (L2.CX X.prog X.w) X E)
    (hp : pre [.obj C ns os, .obj C ns2 os2]) (hq : ∀ d, post [.obj C ns os, .obj C ns2 os2] d → P d) (hE : ∀ cls H', xs [.obj C ns os, .obj C ns2 os2] cls → Le c.z c.H0 H' → E cls none H') : OpD X (binaryOp op) c (.obj C ns os) (.obj C ns2 os2) P := by
  obtain ⟨f, fd, ps, cl, me, F, b'⟩ := T.ex
  refine opd_of (L2.op_binSame hc me F hr b' .nil hx) fun M H x y ok i1 i2 Q q => ?_
  obtain ⟨p, dx, fs, rfl, h1⟩ := obj_inv i1
  obtain ⟨p2, dx2, fs2, rfl, h2⟩ := obj_inv i2
  exact ⟨p, dx, fs, p2, dx2, fs2, rfl, h1, rfl, h2, spD_of ok (.cons i1 (.cons i2 .nil)) hp (fun a h => by cases h) (fun v d H' pd l i => q v d H' (hq d pd) l i) hE⟩
/-- b in o -/
theorem o_inOwn {r : Bool} (T : Mtd X.prog X.w X.K X.mg X.base k C "__contains__" (spD X.K false pre post xs)) (hr : Room k X.A) (hx : Passes (L2.CX X.prog X.w) X E)
    (hp : pre [.obj C ns os, b]) (hq : ∀ d, post [.obj C ns os, b] d → d = .bl r) (hE : ∀ cls H', xs [.obj C ns os, b] cls → Le c.z c.H0 H' → E cls none H') : OpD X (compareOp .In) c b (.obj C ns os) (· = .bl r) := by
  obtain ⟨f, fd, ps, cl, me, F, b'⟩ := T.ex
  refine opd_of (L2.op_inOwn me F hr b' .nil hx) fun M H x y ok i1 i2 Q q => ?_
  obtain ⟨p, dx, fs, rfl, h1⟩ := obj_inv i2
  refine ⟨p, dx, fs, rfl, h1, spD_of ok (.cons i2 (.cons i1 .nil)) hp (fun a h => by cases h) (fun v d H' pd l i => ?_) hE⟩
  have := hq d pd
  subst this
  exact ⟨r, i.bl_inv, by rw [← i.bl_inv]; exact q v _ H' rfl l i⟩
/-- the class of what stands on the other side -/
theorem tyY_of {L : List Addr} {M : List Addr} {H : Hp} {x : V} {t : Value} (kl : KL X.K L) (h : kc L d = true) (i : Is X.K (cut M H) x d) (ht : d.cl = some t) : TyY X H x t := by
  have no := (kc_cl kl h).2
  cases d with
  | non => cases ht; exact .inl (by rw [i.non_inv]; exact .base .non)
  | bl b => cases ht; exact .inl (by rw [i.bl_inv]; exact .base (.bl b))
  | int j => cases ht; exact .inl (by rw [i.int_inv]; exact .base (.int j))
  | str s => cases ht; exact .inl (by rw [i.str_inv]; exact .base (.str s))
  | tup ds =>
    cases ht
    obtain ⟨p, xs, rfl, hp, _⟩ := i.tup_inv
    exact .inl (.base (.tup (cut_at hp).1))
  | lst ds =>
    cases ht
    obtain ⟨p, xs, rfl, hp, _⟩ := i.lst_inv
    exact .inl (.base (.lst (cut_at hp).1))
  | dic ks es =>
    cases ht
    obtain ⟨p, xs, rfl, hp, _⟩ := i.dic_inv
    exact .inr ⟨rfl, p, rfl, fun pins s σ I => dict_at I (.inl ⟨_, rd_uncut hp⟩)⟩
  | mix ks =>
    cases ht
    cases i with
    | mix hr _ _ => exact .inr ⟨rfl, _, rfl, fun pins s σ I => dict_at I (.inr ⟨_, .inr ⟨_, (cut_at hr).1⟩⟩)⟩
  | obj C ns es =>
    cases ht
    have f := no C ns es rfl
    cases i with
    | obj hp _ _ => exact .inl (.base (.ins (cut_at hp).1 f.cl f.ha f.hn f.ht f.hm))
  | _ => cases h
/-- o == b and the like -/
theorem o_cmpOwn {op : CmpOp} {L : List Addr} {t : Value} (kl : KL X.K L) (hk : kc L b = true) (ht : b.cl = some t) (hn : PySem.W.notFirst X.K C t = true) (hop : ∀ a b, compareOp op a b = richCompare op a b) (T : Mtd X.prog X.w X.K X.mg X.base k C (cmpInfo op).2.1 (spD X.K false pre post xs)) (hr : Room k X.A) (hx : Passes (L2.CX X.prog X.w) X E)
    (hp : pre [.obj C ns os, b]) (hq : ∀ d, post [.obj C ns os, b] d → P d) (hE : ∀ cls H', xs [.obj C ns os, b] cls → Le c.z c.H0 H' → E cls none H') : OpD X (compareOp op) c (.obj C ns os) b P := by
  obtain ⟨f, fd, ps, cl, me, F, b'⟩ := T.ex
  refine opd_of (L2.op_cmpOwn hop me F hr b' .nil hx) fun M H x y ok i1 i2 Q q => ?_
  obtain ⟨p, dx, fs, rfl, h1⟩ := obj_inv i1
  exact ⟨p, dx, fs, t, rfl, h1, tyY_of kl hk i2 ht, hn, spD_of ok (.cons i1 (.cons i2 .nil)) hp (fun a h => by cases h) (fun v d H' pd l i => q v d H' (hq d pd) l i) hE⟩
/-- o != b, by __eq__ -/
theorem o_neOwn {L : List Addr} {t : Value} {r : Bool} (kl : KL X.K L) (hk : kc L b = true) (ht : b.cl = some t) (hn : PySem.W.notFirst X.K C t = true) (n : PySem.W.findIn X.K (.ref C) "__ne__" = some (some (.builtin "object.__ne__"))) (ob : PySem.W.mroIn X.K C (.type "object") = some true)
    (T : Mtd X.prog X.w X.K X.mg X.base k C "__eq__" (spD X.K false pre post xs)) (hr : Room (k + 1) X.A) (hx : Passes (L2.CX X.prog X.w) X E)
    (hp : pre [.obj C ns os, b]) (hq : ∀ d, post [.obj C ns os, b] d → d = .bl r) (hE : ∀ cls H', xs [.obj C ns os, b] cls → Le c.z c.H0 H' → E cls none H') : OpD X (compareOp .NotEq) c (.obj C ns os) b (· = .bl (!r)) := by
  obtain ⟨f, fd, ps, cl, me, F, b'⟩ := T.ex
  refine opd_of (L2.op_neOwn n ob me F hr b' .nil hx) fun M H x y ok i1 i2 Q q => ?_
  obtain ⟨p, dx, fs, rfl, h1⟩ := obj_inv i1
  refine ⟨p, dx, fs, t, rfl, h1, tyY_of kl hk i2 ht, hn, spD_of ok (.cons i1 (.cons i2 .nil)) hp (fun a h => by cases h) (fun v d H' pd l i => ?_) hE⟩
  have := hq d pd
  subst this
  exact ⟨r, i.bl_inv, q _ _ H' rfl l .bl⟩
/-- o op b, b of another class -/
theorem o_binOther {op : Operator} {L : List Addr} {n : String} {rc : Option Value} (kl : KL X.K L) (hk : kc L b = true) (ht : b.cl = some (.type n)) (ot : otherTy X.K C op.info.2 n = true) (hc : PySem.W.selfFirst X.K C = true) (hr' : PySem.W.findIn X.K (.ref C) (dunderR op.info.2) = some rc) (hrc : rc = none ∨ ∃ g : Addr, rc = some (.ref g))
    (T : Mtd X.prog X.w X.K X.mg X.base k C (PySem.dunder op.info.2) (spD X.K false pre post xs)) (hr : Room k X.A) (hx : Passes (L2.CX X.prog X.w) X E)
    (hp : pre [.obj C ns os, b]) (hq : ∀ d, post [.obj C ns os, b] d → P d) (hE : ∀ cls H', xs [.obj C ns os, b] cls → Le c.z c.H0 H' → E cls none H') : OpD X (binaryOp op) c (.obj C ns os) b P := by
  obtain ⟨f, fd, ps, cl, me, F, b'⟩ := T.ex
  refine opd_of (L2.op_binOther hc me hr' hrc F hr b' .nil hx) fun M H x y ok i1 i2 Q q => ?_
  obtain ⟨p, dx, fs, rfl, h1⟩ := obj_inv i1
  exact ⟨p, dx, fs, n, rfl, h1, tyY_of kl hk i2 ht, ot, spD_of ok (.cons i1 (.cons i2 .nil)) hp (fun a h => by cases h) (fun v d H' pd l i => q v d H' (hq d pd) l i) hE⟩
/-- n * o -/
theorem o_mulBack {f1 : Addr} (hb : b = .non ∨ (∃ z, b = .bl z) ∨ ∃ i, b = .int i) (hc : PySem.W.selfFirst X.K C = true) (m1 : PySem.W.findIn X.K (.ref C) (PySem.dunder "mul") = some (some (.ref f1)))
    (s1 : PySem.W.mroIn X.K C (.type "NoneType") = some false) (s2 : PySem.W.mroIn X.K C (.type "bool") = some false) (s3 : PySem.W.mroIn X.K C (.type "int") = some false)
    (T : Mtd X.prog X.w X.K X.mg X.base k C (dunderR "mul") (spD X.K false pre post xs)) (hr : Room k X.A) (hx : Passes (L2.CX X.prog X.w) X E)
    (hp : pre [.obj C ns os, b]) (hq : ∀ d, post [.obj C ns os, b] d → P d) (hE : ∀ cls H', xs [.obj C ns os, b] cls → Le c.z c.H0 H' → E cls none H') : OpD X (binaryOp .Mult) c b (.obj C ns os) P := by
  obtain ⟨f, fd, ps, cl, me, F, b'⟩ := T.ex
  refine opd_of (L2.op_mulBack hc m1 me s1 s2 s3 F hr b' .nil hx) fun M H x y ok i1 i2 Q q => ?_
  obtain ⟨p, dx, fs, rfl, h1⟩ := obj_inv i2
  refine ⟨p, dx, fs, rfl, h1, ?_, spD_of ok (.cons i2 (.cons i1 .nil)) hp (fun a h => by cases h) (fun v d H' pd l i => q v d H' (hq d pd) l i) hE⟩
  rcases hb with rfl | ⟨z, rfl⟩ | ⟨z, rfl⟩
  · exact .inl i1.non_inv
  · exact .inr (.inl ⟨z, i1.bl_inv⟩)
  · exact .inr (.inr ⟨z, i1.int_inv⟩)
/-- len(o), bool(o), str(o) -/
theorem c_lenOwn {n : Int} (T : Mtd X.prog X.w X.K X.mg X.base k C "__len__" (spD X.K false pre post xs)) (hr : Room (k + 1) X.A) (hx : Passes (L2.CX X.prog X.w) X E) (hn : 0 ≤ n ∧ n < 2 ^ 63) (hp : pre [.obj C ns os]) (hq : ∀ d, post [.obj C ns os] d → d = .int n) (hE : ∀ cls H', xs [.obj C ns os] cls → Le c.z c.H0 H' → E cls none H') : CallD X (.builtin "len") c [.obj C ns os] (· = .int n) := by
  obtain ⟨f, fd, ps, cl, me, F, b'⟩ := T.ex
  refine cad_of (L2.call_lenOwn me F hr b' .nil hx) fun M H vs ok i1 Q q => ?_
  obtain ⟨v, rfl, i⟩ := i1.one
  obtain ⟨p, dx, fs, rfl, h1⟩ := obj_inv i
  refine ⟨p, dx, fs, rfl, h1, spD_of ok (.cons i .nil) hp (fun a h => by cases h) (fun v d H' pd l i => ?_) hE⟩
  have := hq d pd
  subst this
  exact ⟨n, i.int_inv, hn, q _ _ H' rfl l .int⟩
theorem c_boolOwn {r : Bool} (T : Mtd X.prog X.w X.K X.mg X.base k C "__bool__" (spD X.K false pre post xs)) (hr : Room (k + 2) X.A) (hx : Passes (L2.CX X.prog X.w) X E) (hp : pre [.obj C ns os]) (hq : ∀ d, post [.obj C ns os] d → d = .bl r) (hE : ∀ cls H', xs [.obj C ns os] cls → Le c.z c.H0 H' → E cls none H') : CallD X (.type "bool") c [.obj C ns os] (· = .bl r) := by
  obtain ⟨f, fd, ps, cl, me, F, b'⟩ := T.ex
  refine cad_of (L2.call_boolOwn me F hr b' .nil hx) fun M H vs ok i1 Q q => ?_
  obtain ⟨v, rfl, i⟩ := i1.one
  obtain ⟨p, dx, fs, rfl, h1⟩ := obj_inv i
  refine ⟨p, dx, fs, rfl, h1, spD_of ok (.cons i .nil) hp (fun a h => by cases h) (fun v d H' pd l i => ?_) hE⟩
  have := hq d pd
  subst this
  exact ⟨r, i.bl_inv, q _ _ H' rfl l .bl⟩
theorem c_strOwn {r : Str} (T : Mtd X.prog X.w X.K X.mg X.base k C "__str__" (spD X.K false pre post xs)) (hr : Room (k + 2) X.A) (hx : Passes (L2.CX X.prog X.w) X E) (hp : pre [.obj C ns os]) (hq : ∀ d, post [.obj C ns os] d → d = .str r) (hE : ∀ cls H', xs [.obj C ns os] cls → Le c.z c.H0 H' → E cls none H') : CallD X (.type "str") c [.obj C ns os] (· = .str r) := by
  obtain ⟨f, fd, ps, cl, me, F, b'⟩ := T.ex
  refine cad_of (L2.call_strOwn me F hr b' .nil hx) fun M H vs ok i1 Q q => ?_
  obtain ⟨v, rfl, i⟩ := i1.one
  obtain ⟨p, dx, fs, rfl, h1⟩ := obj_inv i
  refine ⟨p, dx, fs, rfl, h1, spD_of ok (.cons i .nil) hp (fun a h => by cases h) (fun v d H' pd l i => ?_) hE⟩
  have := hq d pd
  subst this
  exact ⟨r, i.str_inv, q _ _ H' rfl l .str⟩
end
end Dt

set_option Elab.async false
set_option linter.all false
set_option maxRecDepth 100000
set_option maxHeartbeats 4000000
/-! more operators, in data -/
namespace L2
open PySem PyProof.Rows
variable {X : Cx}
/-- ** whose outcome has at most 2 ^ 27 bits -/
def CPowW (i j : Int) : Prop := 0 ≤ j ∧ (Builtin.Int.intBits i : Int) * j ≤ 2 ^ 27
theorem op_powW : OpR X (binaryOp .Pow) (rI CPowW fun i j => .int (i ^ j.toNat)) := opI fun _ _ _ _ _ _ _ hc q => PyProof.Rows.pow_int hc.1 hc.2 q
end L2
namespace Dt
open PySem PyProof.Rows L2
section
variable {X : Cx} {c : Fx}
theorem o_powW {i j : Int} (h : CPowW i j) : OpD X (binaryOp .Pow) c (.int i) (.int j) (· = .int (i ^ j.toNat)) := opd_of op_powW fun M H x y ok i1 i2 Q q => ⟨i, j, i1.int_inv, i2.int_inv, h, q _ _ H rfl .rfl' .int⟩
theorem o_mulS {i j : Int} (h : CMul i j) : OpD X (binaryOp .Mult) c (.int i) (.int j) (· = .int (i * j)) := opd_of op_mul fun M H x y ok i1 i2 Q q => ⟨i, j, i1.int_inv, i2.int_inv, h, q _ _ H rfl .rfl' .int⟩
/-- dice[j] -/
theorem x_die {a : Addr} (h : c.Di a) {j : Nat} (hj : j < 3) : IxD X c (.adr a) (.int (j : Int)) (fun d => ∃ i, d = .int i) := ixd_of ix_list fun M H x y ok i1 i2 Q q => by
  obtain ⟨u, v, w, e⟩ := ok.dice h
  have hx := i1.adr_inv
  subst hx
  have at3 : ∃ n : Int, ([V.int u, V.int v, V.int w] : List V)[j]? = some (V.int n) := by
    match j, hj with
    | 0, _ => exact ⟨u, rfl⟩
    | 1, _ => exact ⟨v, rfl⟩
    | 2, _ => exact ⟨w, rfl⟩
  obtain ⟨n, hn⟩ := at3
  exact ⟨_, _, _, _, rfl, i2.int_inv, .inl (.inl e), atI_nat hn, q _ _ H ⟨n, rfl⟩ .rfl' .int⟩
/-- dice[j] = e -/
theorem ds_die {ds : List Sl} {po : Po} {a : Addr} {i : Nat} {x : Str} {j : Nat} {ee : Expr} {px pj tp pos : Pos} {jj} (h : c.Di a) (hj : j < 3) (hN : X.N[i]? = some x) (hv : Vis X.env.scope x) (hs : ds[i]? = some (.val (.adr a))) (he : DE X c ds ee (fun d => ∃ n, d = .int n)) (hq : po.nx ds)
    (h1 : swapsWithSole [.Subscript (.Name x px) (.Constant (.int (j : Int)) jj pj) tp] ee pos.line X.env = pure false := by rfl) (h2 : swappedStores [.Subscript (.Name x px) (.Constant (.int (j : Int)) jj pj) tp] ee X.env = pure none := by rfl)
    (h3 : (assignEach [.Subscript (.Name x px) (.Constant (.int (j : Int)) jj pj) tp] X.env).map (·.2) = [assign (.Subscript (.Name x px) (.Constant (.int (j : Int)) jj pj) tp) X.env] := by rfl)
    (ha : ∀ v, assign (.Subscript (.Name x px) (.Constant (.int (j : Int)) jj pj) tp) X.env v = (do
      let ov ← holding [v] (eval (.Name x px) X.env)
      let iv ← holding [v, ov] (eval (.Constant (.int (j : Int)) jj pj) X.env)
      standAt tp
      holding [v, ov, iv] (setItem ov iv v)
      release [v, ov, iv] []) := by intro _; rfl) (hd : (x == ("__debug__" : Str)) = false := by decide) (hcd : (x == ("__classdict__" : Str)) = false := by decide) :
    DS X c ds (.Assign [.Subscript (.Name x px) (.Constant (.int (j : Int)) jj pj) tp] ee pos) po :=
  ds_of (L2.ps_asg he (L2.pg_sub (pe_var hN hv hd hcd) pe_int L2.set_list ha) h1 h2 h3) fun M ow σ H E D q1 q2 q3 q4 => ⟨M, ow, E, fun v d H1 pd l1 i1 => by
    obtain ⟨n, rfl⟩ := pd
    have E1 := E.up l1
    obtain ⟨v0, ev, iv⟩ := E1.at_ i _ hs
    have ev' := iv.adr_inv
    subst ev'
    obtain ⟨u, v', w, e⟩ := E1.ok.dice h
    have hn := i1.int_inv
    subst hn
    have hj' : ixN ([V.int u, V.int v', V.int w] : List V).length (j : Int) = some j := by
      match j, hj with
      | 0, _ => rfl
      | 1, _ => rfl
      | 2, _ => rfl
    have new : ∃ x y z : Int, ([V.int u, V.int v', V.int w] : List V).set j (.int n) = [.int x, .int y, .int z] := by
      match j, hj with
      | 0, _ => exact ⟨n, v', w, rfl⟩
      | 1, _ => exact ⟨u, n, w, rfl⟩
      | 2, _ => exact ⟨u, v', n, rfl⟩
    obtain ⟨x1, y1, z1, en⟩ := new
    have l2 : Le c.z H1 (upd H1 a (.lst ([V.int u, V.int v', V.int w].set j (.int n)))) := ⟨fun b o nb eb => by
      rw [upd_ne (show b ≠ a from fun z => nb (by rw [z]; exact .inl h))]
      exact eb, fun b hb db => by
      by_cases z : b = a
      · subst z
        exact ⟨x1, y1, z1, by rw [upd_same, en]⟩
      · obtain ⟨p, q, r, e⟩ := db
        exact ⟨p, q, r, by rw [upd_ne z]; exact e⟩, fun b _ t => tab_upd t (.at e rfl)⟩
    refine ⟨_, ev, a, _, (j : Int), j, rfl, rfl, e, hj', ?_⟩
    exact q1 M ow σ _ ds hq (E1.up l2) (Kp.of (l1.tr l2) E.ok)⟩
/-- some int -/
def anI (d : D) : Prop := ∃ i, d = .int i
theorem de_die {ds : List Sl} {a : Addr} (i : Nat) {j : Nat} {x : Str} {px pj tp : Pos} {jj} (h : c.Di a) (hj : j < 3) (hs : ds[i]? = some (.val (.adr a)) := by rfl) (hN : X.N[i]? = some x := by rfl) (hv : Vis X.env.scope x := by first | exact .inl rfl | exact .inr (.inl rfl) | exact .inr (.inr rfl)) (hp : PlainIx (.Constant (.int (j : Int)) jj pj) := by intro _ _; rfl) (hd : (x == ("__debug__" : Str)) = false := by decide) (hcd : (x == ("__classdict__" : Str)) = false := by decide) : DE X c ds (.Subscript (.Name x px) (.Constant (.int (j : Int)) jj pj) tp) anI :=
  dv_ix (de_var hN hv hs hd hcd) de_int (x_die h hj) hp
theorem de_intI {ds : List Sl} {ee : Expr} {p pos : Pos} (hg : Gl X "int") (hm : X.mg "int" = none) (h : DE X c ds ee anI) (he : starEach [ee] X.env = (false, eval ee X.env) :: starEach [] X.env := by rfl) (hpl : (backTo pos (starEach [] X.env)).any (·.1) = false := by rfl) : DE X c ds (.Call (.Name "int" p) [ee] [] pos) anI :=
  de_callTy hg hm rfl (da_cons h da_nil he) (fun as ⟨d, r, e, ⟨i, e1⟩, e2⟩ => by
    subst e e1 e2
    exact c_intI.imp fun d e => ⟨i, e⟩) (by decide) (by decide) he hpl
theorem de_opI {ds : List Sl} {ea eb : Expr} {op : Operator} {pos : Pos} {P Q : D → Prop} {R : D → Prop} (ha : DE X c ds ea P) (hb : DE X c ds eb Q) (ho : ∀ i j, P (.int i) → Q (.int j) → OpD X (binaryOp op) c (.int i) (.int j) R) (hP : ∀ d, P d → anI d) (hQ : ∀ d, Q d → anI d) : DE X c ds (.BinOp ea op eb pos) R :=
  de_bin ha hb fun a b pa pb => by
    obtain ⟨i, rfl⟩ := hP a pa
    obtain ⟨j, rfl⟩ := hQ b pb
    exact ho i j pa pb
end
end Dt

set_option Elab.async false
set_option linter.all false
set_option maxRecDepth 100000
set_option maxHeartbeats 4000000
/-! lists made and taken apart, in data -/
namespace Dt
open PySem PyProof.Rows L2
section
variable {X : Cx} {c : Fx} {ds : List Sl} {po : Po} {ee ea : Expr} {P : D → Prop}
/-- list(e), a new object -/
theorem dn_listL {p pos : Pos} {as : List D} (hg : Gl X "list") (hm : X.mg "list" = none) (ha : DE X c ds ee fun d => d = .lst as ∨ d = .tup as) (he : starEach [ee] X.env = (false, eval ee X.env) :: starEach [] X.env := by rfl) (hpl : (backTo pos (starEach [] X.env)).any (·.1) = false := by rfl) :
    DNV X c ds (.Call (.Name "list" p) [ee] [] pos) (.lst as) :=
  dn_of (L2.pe_callTy L2.call_list_of hg hm rfl (L2.pa_cons ha L2.pa_nil he) (by decide) (by decide) he hpl) fun M ow σ H E Q q => ⟨M, ow, E, fun v d H1 pd l1 i1 => by
    rcases pd with rfl | rfl
    · obtain ⟨p, ys, rfl, hp, ia⟩ := i1.lst_inv
      refine ⟨p, ys, rfl, .inl (.inl (.inl (cut_at hp).1)), fun l hl => ?_⟩
      obtain ⟨h1, h2, h3, h4, h5⟩ := dn_new E l1 hl ia
      exact q _ _ _ _ rfl h1 h2 h3 h4 h5
    · obtain ⟨p, ys, rfl, hp, ia⟩ := i1.tup_inv
      refine ⟨p, ys, rfl, .inr (.inl (.inl (cut_at hp).1)), fun l hl => ?_⟩
      obtain ⟨h1, h2, h3, h4, h5⟩ := dn_new E l1 hl ia
      exact q _ _ _ _ rfl h1 h2 h3 h4 h5⟩
/-- found.append(left.pop(e)) -/
theorem ds_appPop {i j : Nat} {x y : Str} {es rs : List D} {px py apos cpos apos2 cpos2 pos : Pos} (hij : i ≠ j) (hN : X.N[i]? = some x) (hv : L2.Vis X.env.scope x) (hN2 : X.N[j]? = some y) (hv2 : L2.Vis X.env.scope y) (h : ds[i]? = some (.lst es)) (h2 : ds[j]? = some (.lst rs))
    (ha : DE X c ds ee fun d => ∃ k : Nat, d = .int (k : Int) ∧ k < rs.length) (hz : es.length < sizeLine) (hz2 : rs.length < 2 ^ 62) (hq : ∀ k d, rs[k]? = some d → po.nx ((ds.set j (.lst (rs.eraseIdx k))).set i (.lst (es ++ [d]))))
    (hbase : attributeBase (.Name x px) "append" X.env (eval (.Name x px) X.env) = eval (.Name x px) X.env := by rfl)
    (hfew : ((backTo cpos (starEach [.Call (.Attribute (.Name y py) "pop" apos2) [ee] [] cpos2] X.env)).all (fun x => !x.1) && (backToKw cpos (keywordEach [] X.env)).all (fun x => x.1.isSome) && decide (([.Call (.Attribute (.Name y py) "pop" apos2) [ee] [] cpos2] : List Expr).length + ([] : List Keyword).length + (if ([] : List Keyword).isEmpty then 0 else 1) < 30)) = true := by rfl)
    (hline : (apos.endLine == cpos.line) = true := by rfl) (hs : starEach [.Call (.Attribute (.Name y py) "pop" apos2) [ee] [] cpos2] X.env = (false, eval (.Call (.Attribute (.Name y py) "pop" apos2) [ee] [] cpos2) X.env) :: starEach [] X.env := by rfl) (hplain : (backTo cpos (starEach [] X.env)).any (·.1) = false := by rfl)
    (hbase2 : attributeBase (.Name y py) "pop" X.env (eval (.Name y py) X.env) = eval (.Name y py) X.env := by rfl)
    (hfew2 : ((backTo cpos2 (starEach [ee] X.env)).all (fun x => !x.1) && (backToKw cpos2 (keywordEach [] X.env)).all (fun x => x.1.isSome) && decide (([ee] : List Expr).length + ([] : List Keyword).length + (if ([] : List Keyword).isEmpty then 0 else 1) < 30)) = true := by rfl)
    (hline2 : (apos2.endLine == cpos2.line) = true := by rfl) (hs2 : starEach [ee] X.env = (false, eval ee X.env) :: starEach [] X.env := by rfl) (hplain2 : (backTo cpos2 (starEach [] X.env)).any (·.1) = false := by rfl)
    (hsw : swapsWith (.Call (.Attribute (.Name x px) "append" apos) [.Call (.Attribute (.Name y py) "pop" apos2) [ee] [] cpos2] [] cpos) none pos.line X.env = pure false := by rfl)
    (d1 : (x == ("__debug__" : Str)) = false := by decide) (d2 : (x == ("__classdict__" : Str)) = false := by decide) (d3 : (y == ("__debug__" : Str)) = false := by decide) (d4 : (y == ("__classdict__" : Str)) = false := by decide) :
    DS X c ds (.Expr (.Call (.Attribute (.Name x px) "append" apos) [.Call (.Attribute (.Name y py) "pop" apos2) [ee] [] cpos2] [] cpos) pos) po :=
  ds_of (L2.ps_expr (L2.pe_bm PySem.F.plainAttrs_list PySem.F.slot_list_append PySem.F.type_list_append L2.mt_append (L2.pe_var (i := i) hN hv d1 d2) (L2.pa_cons (L2.pe_bm PySem.F.plainAttrs_list PySem.F.slot_list_pop PySem.F.type_list_pop L2.mt_popAt (L2.pe_var (i := j) hN2 hv2 d3 d4) (L2.pa_cons ha L2.pa_nil hs2) hbase2 hfew2 hline2 hs2 hplain2) L2.pa_nil hs) hbase hfew hline hs hplain) hsw) fun M ow σ H E D q1 q2 q3 q4 => by
    obtain ⟨e1, m, n, vs, hl, ia⟩ := at_own E h
    obtain ⟨e2, m2, n2, ws, hw, iw⟩ := at_own E h2
    refine ⟨_, e1, .inl ⟨rfl, vs, .inl (.inl hl)⟩, _, e2, .inl ⟨rfl, ws, .inl (.inl hw)⟩, M, ow, E, fun v d H1 pd l1 i1 => ?_⟩
    obtain ⟨kk, rfl, hk⟩ := pd
    have E1 := E.up l1
    have hw1 : H1 (ow j) = some (.lst ws) := l1.keep _ _ (own_z n2) hw
    have hl1 : H1 (ow i) = some (.lst vs) := l1.keep _ _ (own_z n) hl
    have ne : ow i ≠ ow j := fun z => hij (E.ap i j _ _ h h2 rfl rfl z)
    have hk' : kk < ws.length := by rw [iw.len]; exact hk
    obtain ⟨dd, hd⟩ : ∃ dd, rs[kk]? = some dd := ⟨rs[kk], List.getElem?_eq_getElem hk⟩
    obtain ⟨yv, hy, iy⟩ := (iw.up (E.ok.cut l1)).at' hd
    refine ⟨_, ws, (kk : Int), kk, yv, rfl, by rw [i1.int_inv], hw1, by omega, by omega, ?_, hy, ?_⟩
    · exact PySem.seqIndex_of (Int.natCast_nonneg _) (by omega)
    · have E2 := E1.lset h2 ((iw.up (E.ok.cut l1)).erase kk)
      have h' : (ds.set j (.lst (rs.eraseIdx kk)))[i]? = some (.lst es) := by rw [List.getElem?_set_ne (fun z => hij z.symm)]; exact h
      refine ⟨_, vs, yv, rfl, rfl, by rw [upd_ne ne]; exact hl1, by rw [ia.len]; exact hz, q1 _ _ _ _ _ (hq kk dd hd) (E2.lset h' (IsAll.app ?_ (.cons ?_ .nil))) ((kp_own E l1 m2).tr (kp_own E2 .rfl' m))⟩
      · rw [cut_upd m2]
        exact ia.up (E.ok.cut l1)
      · rw [cut_upd m2]
        exact iy
end
end Dt

set_option Elab.async false
set_option linter.all false
set_option maxRecDepth 100000
set_option maxHeartbeats 4000000
/-! loops over one name, drawn comprehensions, defs where no repr is under way -/
namespace Dt
open PySem PyProof.Rows L2
section
variable {X : Cx} {c : Fx} {ds : List Sl} {po : Po} {elt iter tg : Expr} {x : Str} {i : Nat} {tp pos : Pos} {scope : Scope} {body : List Stmt}
theorem Cm.allP {Q : D → Prop} : ∀ {es rs : List D}, Cm (fun _ b => b = true) (fun _ r => Q r) es rs → rs.length = es.length ∧ ∀ r ∈ rs, Q r
  | _, _, .nil => ⟨rfl, fun r m => by cases m⟩
  | _, _, .skip a _ => by cases a
  | _, _, .take _ b t => ⟨congrArg Nat.succ (Cm.allP t).1, fun r m => by
    rcases List.mem_cons.mp m with rfl | m
    · exact b
    · exact (Cm.allP t).2 r m⟩
/-- [e for x in ..], the items drawn -/
theorem de_mapP {es : List D} {Q : D → Prop} (hc : X.calm = true) (hN : X.N.Nodup) (hi : X.N[i]? = some x) (it : DI X c ds (.Name x tp) iter (· = es)) (ok : L2.blkC X.N X.env.scope scope [(x, i)] = true) (hl : scope.names.lookup x = some .local)
    (he : ∀ d, d ∈ es → Bk X scope fun Y => DE Y c ((wipeD ds [i]).set i (.val d)) elt Q) (hz : es.length ≤ sizeLine) (hs : ∀ x, foldedSetIterable iter X.env x = pure x := by intro _; rfl) :
    DE X c ds (.ListComp elt [⟨.Name x tp, iter, [], 0⟩] scope pos) fun d => ∃ rs, d = .lst rs ∧ rs.length = es.length ∧ ∀ r ∈ rs, Q r :=
  (de_lc (own := [(x, i)]) (f := fun d => (wipeD ds [i]).set i (.val d)) (Pt := fun _ b => b = true) (Pe := fun _ r => Q r) hc hN it (L2.blkOk_by ok) (pg_name1 hN hi hl) (fun _ d e m => gp_name (by simp)) (fun _ d e m s H C cl fp => dts_nil) (fun _ d e m _ s H C cl fp => he d (e ▸ m) s H C cl fp) (fun _ e => by subst e; exact hz) hs).imp fun d ⟨es', rs, e1, e2, cm⟩ => by
    subst e2
    exact ⟨rs, e1, cm.allP⟩
/-- for x in es: .. -/
theorem ds_forL {es : List D} (I : Nat → List Sl → Prop) (hp : PassesOwn (model X.prog X.w) X.A X.env X.xe) (hc : X.calm = true) (hN : X.N.Nodup) (hi : X.N[i]? = some x) (hx : Loc X.env.scope x) (it : DI X c ds (.Name x tp) iter (· = es)) (h0 : I 0 ds)
    (hb : ∀ k d ds', es[k]? = some d → I k ds' → DSs X c (ds'.set i (.val d)) body ⟨I (k + 1), po.rt, po.nx, I (k + 1)⟩) (hd : ∀ ds', I es.length ds' → po.nx ds') (hs : ∀ x, foldedSetIterable iter X.env x = pure x := by intro _; rfl)
    (hf : X.fn x = true ∨ X.env.scope.names.lookup x = some .local := by first | exact .inl rfl | exact .inr rfl | assumption) : DS X c ds (.For (.Name x tp) iter body [] pos) po :=
  ds_for (f := fun d ds' => ds'.set i (.val d)) (fun _ k ds' => I k ds') hp hc it (pg_name hN hi hx hf) [i] (fun _ d ds' _ _ => gp_name (by simp)) (fun _ _ => h0) (fun _ k d ds' e h1 h2 => hb k d ds' (e ▸ h1) h2) (fun _ ds' e h => hd ds' (by subst e; exact h)) hs
/-- for x in range(..): .., the number of turns drawn -/
theorem ds_forR {S : Int → Prop} (I : Nat → Nat → List Sl → Prop) (hp : PassesOwn (model X.prog X.w) X.A X.env X.xe) (hc : X.calm = true) (hN : X.N.Nodup) (hi : X.N[i]? = some x) (hx : Loc X.env.scope x) (it : DI X c ds (.Name x tp) iter fun es => ∃ j, S j ∧ es = rngD 0 j.toNat) (h0 : ∀ j, S j → I j.toNat 0 ds)
    (hb : ∀ j k ds', S j → k < j.toNat → I j.toNat k ds' → DSs X c (ds'.set i (.val (.int (k : Int)))) body ⟨I j.toNat (k + 1), po.rt, po.nx, I j.toNat (k + 1)⟩) (hd : ∀ j ds', S j → I j.toNat j.toNat ds' → po.nx ds') (hs : ∀ x, foldedSetIterable iter X.env x = pure x := by intro _; rfl)
    (hf : X.fn x = true ∨ X.env.scope.names.lookup x = some .local := by first | exact .inl rfl | exact .inr rfl | assumption) : DS X c ds (.For (.Name x tp) iter body [] pos) po := by
  have len : ∀ n, (rngD 0 n).length = n := fun n => by unfold rngD; rw [List.length_map, List.length_range]
  refine ds_for (f := fun d ds' => ds'.set i (.val d)) (fun es k ds' => I es.length k ds') hp hc it (pg_name hN hi hx hf) [i] (fun _ d ds' _ _ => gp_name (by simp)) (fun es e => ?_) (fun es k d ds' e h1 h2 => ?_) (fun es ds' e h => ?_) hs
  · obtain ⟨j, hj, rfl⟩ := e
    rw [len]
    exact h0 j hj
  · obtain ⟨j, hj, rfl⟩ := e
    rw [len] at h2 ⊢
    have hk : k < j.toNat := by
      have := (List.getElem?_eq_some_iff.mp h1).1
      rw [len] at this
      exact this
    have ed : d = .int (k : Int) := by
      unfold rngD at h1
      rw [List.getElem?_map, List.getElem?_range hk] at h1
      simp at h1
      exact h1.symm
    subst ed
    exact hb j k ds' hj hk h2
  · obtain ⟨j, hj, rfl⟩ := e
    rw [len] at h
    exact hd j ds' hj h
/-- for x, y in es: .. -/
theorem ds_forP {α : Type} {as : List α} {f1 f2 : α → D} {y : Str} {j kk : Nat} {px py : Pos} (I : Nat → List Sl → Prop) (hp : PassesOwn (model X.prog X.w) X.A X.env X.xe) (hc : X.calm = true) (hN : X.N.Nodup) (hi : X.N[i]? = some x) (hx : Loc X.env.scope x) (hj : X.N[j]? = some y) (hy : Loc X.env.scope y)
    (it : DI X c ds (.Tuple [.Name x px, .Name y py] kk tp) iter (· = as.map fun a => .tup [f1 a, f2 a])) (h0 : I 0 ds)
    (hb : ∀ k a ds', as[k]? = some a → I k ds' → DSs X c ((ds'.set i (.val (f1 a))).set j (.val (f2 a))) body ⟨I (k + 1), po.rt, po.nx, I (k + 1)⟩) (hd : ∀ ds', I as.length ds' → po.nx ds') (hs : ∀ x, foldedSetIterable iter X.env x = pure x := by intro _; rfl)
    (hn : (assignEach [.Name x px, .Name y py] X.env).length = 2 := by rfl) (hst : (assignEach [.Name x px, .Name y py] X.env).findIdx? (·.1) = none := by rfl)
    (hs1 : (assignEach [.Name x px, .Name y py] X.env).map (·.2) = assign (.Name x px) X.env :: (assignEach [.Name y py] X.env).map (·.2) := by rfl) (hs2 : (assignEach [.Name y py] X.env).map (·.2) = assign (.Name y py) X.env :: (assignEach [] X.env).map (·.2) := by rfl)
    (hf : X.fn x = true ∨ X.env.scope.names.lookup x = some .local := by first | exact .inl rfl | exact .inr rfl | assumption) (hf2 : X.fn y = true ∨ X.env.scope.names.lookup y = some .local := by first | exact .inl rfl | exact .inr rfl | assumption) :
    DS X c ds (.For (.Tuple [.Name x px, .Name y py] kk tp) iter body [] pos) po := by
  refine ds_for (f := fun d ds' => match d with | .tup [a, b] => (ds'.set i (.val a)).set j (.val b) | _ => ds') (fun _ k ds' => I k ds') hp hc it (pg_tup hc (pgs_cons (pg_name hN hi hx hf) (pgs_cons (pg_name hN hj hy hf2) pgs_nil hs2) hs1) hn hst) [i, j] (fun es d ds' e m => ?_) (fun _ _ => h0) (fun es k d ds' e h1 h2 => ?_) (fun _ ds' e h => hd ds' (by subst e; rw [List.length_map] at h; exact h)) hs
  · subst e
    obtain ⟨a, _, rfl⟩ := List.mem_map.mp m
    exact gp_pair (by simp) (by simp)
  · subst e
    rw [List.getElem?_map, Option.map_eq_some_iff] at h1
    obtain ⟨a, ha, rfl⟩ := h1
    exact hb k a ds' ha h2
end
/-! ### defs that are called where the guards of repr are none -/
structure ClG (P : Program) (w : World) (K : PySem.W.Frag) (mg : Str → Option Value) (base : Heap) (k : Nat) (x : Str) (sp : Sp) (dvs : List V) : Prop where
  ex : ∃ (f : Addr) (fd : FuncData) (ps : List Str) (dd : List Value), FnG P w K mg base (L2.CX P w) k f fd ps sp ∧ mg x = some (.ref f) ∧ PySem.W.keepIn K (.ref f) = true ∧ Binds K fd ps dd ∧ Vals dvs dd
theorem Cl.g {P : Program} {w : World} {K : PySem.W.Frag} {mg : Str → Option Value} {base : Heap} {k : Nat} {x : Str} {sp : Sp} {dvs : List V} (C : Cl P w K mg base k x sp dvs) : ClG P w K mg base k x sp dvs :=
  let ⟨f, fd, ps, dd, F, r⟩ := C.ex
  ⟨f, fd, ps, dd, F.g, r⟩
section
variable {X : Cx} {c : Fx} {ds : List Sl} {P : D → Prop} {e : Expr} {es : List Expr} {pos p : Pos} {x m : Str} {dice : Bool} {pre : List D → Prop} {post : List D → D → Prop} {xs : List D → Value → Prop} {dvs : List V} {das : List D} {j k : Nat} {E : XK} {Pa : List D → Prop} {T : List (Addr × Str)}
theorem de_callG (C : ClG X.prog X.w X.K X.mg X.base k x (spT X.K T dice pre post noX) []) (gd : X.A.guards = some []) (hr : Room j X.A) (hk : k ≤ j) (hg : Gl X x) (ha : DA X c ds (e :: es) Pa) (hp : ∀ as, Pa as → pre as) (hz : ∀ as, Pa as → ∀ a ∈ zOf dice as, c.Di a) (hq : ∀ as d, Pa as → post as d → P d) (hT : T = [] ∨ T = c.z.tb := by exact .inl rfl)
    (hdb : (x == ("__debug__" : Str)) = false := by decide) (he : starEach (e :: es) X.env = (false, eval e X.env) :: starEach es X.env := by rfl) (hpl : (backTo pos (starEach es X.env)).any (·.1) = false := by rfl) :
    DE X c ds (.Call (.Name x p) (e :: es) [] pos) P := by
  obtain ⟨f, fd, ps, dd, F, hm, kp, b, d⟩ := C.ex
  exact de_of (L2.pe_callG (E := EF) F (hr.mono hk) gd hg hm kp b d passF ha hdb he hpl) fun M ow σ H E Q q => ⟨M, ow, E, fun vs as H1 pa l1 i1 => by
    show spT X.K T dice pre post noX (vs ++ []) H1 Q EF
    rw [List.append_nil]
    exact spD_of (E.up l1).ok i1 (hp as pa) (hz as pa) (fun v d H' pd l i => q v d H' (hq as d pa pd) (l1.tr l) i) (fun cls H' h l => h.elim) hT⟩
/-- all known -/
theorem dv_callG {as : List D} (C : ClG X.prog X.w X.K X.mg X.base k x (spT X.K T dice pre post noX) []) (gd : X.A.guards = some []) (hr : Room j X.A) (hk : k ≤ j) (hg : Gl X x) (ha : DL X c ds (e :: es) as) (hp : pre as) (hz : ∀ a ∈ zOf dice as, c.Di a) (hq : ∀ d, post as d → P d) (hT : T = [] ∨ T = c.z.tb := by exact .inl rfl)
    (hdb : (x == ("__debug__" : Str)) = false := by decide) (he : starEach (e :: es) X.env = (false, eval e X.env) :: starEach es X.env := by rfl) (hpl : (backTo pos (starEach es X.env)).any (·.1) = false := by rfl) :
    DE X c ds (.Call (.Name x p) (e :: es) [] pos) P :=
  de_callG C gd hr hk hg ha (fun _ z => by subst z; exact hp) (fun _ z => by subst z; exact hz) (fun _ d z => by subst z; exact hq d) hT hdb he hpl
end
section
variable {P : Program} {w : World} {K : PySem.W.Frag} {mg : Str → Option Value} {base : Heap} {x qual : Str} {params : Arguments} {body : List Stmt} {scope : Scope} {dvs : List V} {kws : List (Str × V)} {f : Addr} {fd : FuncData}
variable {N ps : List Str} {k : Nat} {dice : Bool} {pre : List D → Prop} {post : List D → D → Prop} {xs : List D → Value → Prop} {T : List (Addr × Str)}
/-- a def from which nothing leaves, called where the guards are none -/
theorem fn_dG (F : FunD K x qual params body scope dvs kws f fd) (S : FnScope N ps scope) (hl : ∀ as, pre as → as.length = ps.length)
    (hb : ∀ (c : Fx) (as : List D) (cdv : Value) (A : Around) (outer : List PySem.Env) (s : Shared) (E : XK), Room k (A.deeper (envOfC qual scope s.heap.objs.size f cdv)) → (A.deeper (envOfC qual scope s.heap.objs.size f cdv)).guards = some [] → pre as → (∀ a ∈ zOf dice as, c.Di a) → c.z.tb = T →
      DSs (cxOf (L2.CX P w) P w K mg base N qual scope f cdv A outer s c.H0 E).nox c (startD N as) body ⟨fun _ => post as .non, post as, fun _ => False, fun _ => False⟩) :
    FnG P w K mg base (L2.CX P w) (k + 1) f fd ps (spT K T dice pre post xs) := by
  refine F.okG S (fun vs H Q E h => ?_) fun cdv A outer s H vs Q E hr gd h => ?_
  · obtain ⟨c, as, _, _, hp, ia, _⟩ := h
    rw [ia.len, hl as hp]
  · obtain ⟨c, as, rfl, ⟨hz, hT⟩, hp, ia, q, _⟩ := h
    obtain ⟨t, h1, h2⟩ := body_of (K := K) rfl (hb c as cdv A outer s E hr gd hp hz hT) ia q
    exact ⟨t, h1.nox, h2⟩
end
/-! ### stores to names of which not all are plain -/
section
variable {X : Cx} {c : Fx} {ds : List Sl} {po : Po} {P Pa Pb : D → Prop} {e ea eb tg : Expr} {pos : Pos}
theorem ds_asgG {g : TG} {vs : List Nat} {f : D → List Sl} (he : DE X c ds e P) (hg : PG X tg g) (gp : ∀ d, P d → GP X.K c g vs d ds (f d)) (h : ∀ d, P d → po.nx (f d)) (hs : swapsWithSole [tg] e pos.line X.env = pure false := by rfl) (hw : swappedStores [tg] e X.env = pure none := by rfl)
    (h1 : (assignEach [tg] X.env).map (·.2) = [assign tg X.env] := by rfl) : DS X c ds (.Assign [tg] e pos) po :=
  ds_of (L2.ps_asg he hg hs hw h1) fun M ow σ H E D q1 q2 q3 q4 => ⟨M, ow, E, fun v d H1 pd l1 i1 => gp d pd M ow σ H1 v (E.up l1) i1 _ fun σ' _ E' => q1 M ow σ' H1 _ (h d pd) E' (.of l1 E.ok)⟩
variable {i j : Nat} {x y : Str} {px py pt : Pos} {kt k2 : Nat} {pt2 : Pos}
/-- x, y = a, b -/
theorem ds_parC (hc : X.calm = true) (hN : X.N.Nodup) (hi : X.N[i]? = some x) (hj : X.N[j]? = some y) (hx : Loc X.env.scope x) (hy : Loc X.env.scope y) (ha : DE X c ds ea Pa) (hb : DE X c ds eb Pb) (h : ∀ a b, Pa a → Pb b → po.nx ((ds.set i (.val a)).set j (.val b)))
    (hs : swapsWithSole [.Tuple [.Name x px, .Name y py] kt pt] (.Tuple [ea, eb] k2 pt2) pos.line X.env = pure false := by rfl) (hw : swappedStores [.Tuple [.Name x px, .Name y py] kt pt] (.Tuple [ea, eb] k2 pt2) X.env = pure none := by rfl)
    (h0 : (assignEach [.Tuple [.Name x px, .Name y py] kt pt] X.env).map (·.2) = [assign (.Tuple [.Name x px, .Name y py] kt pt) X.env] := by rfl)
    (hn : (assignEach [.Name x px, .Name y py] X.env).length = 2 := by rfl) (hst : (assignEach [.Name x px, .Name y py] X.env).findIdx? (·.1) = none := by rfl)
    (hs1 : (assignEach [.Name x px, .Name y py] X.env).map (·.2) = assign (.Name x px) X.env :: (assignEach [.Name y py] X.env).map (·.2) := by rfl) (hs2 : (assignEach [.Name y py] X.env).map (·.2) = assign (.Name y py) X.env :: (assignEach [] X.env).map (·.2) := by rfl)
    (hf : X.fn x = true ∨ X.env.scope.names.lookup x = some .local := by first | exact .inl rfl | exact .inr rfl | assumption) (hf2 : X.fn y = true ∨ X.env.scope.names.lookup y = some .local := by first | exact .inl rfl | exact .inr rfl | assumption)
    (h1 : starEach [ea, eb] X.env = (false, eval ea X.env) :: starEach [eb] X.env := by rfl) (h2 : starEach [eb] X.env = (false, eval eb X.env) :: starEach [] X.env := by rfl) :
    DS X c ds (.Assign [.Tuple [.Name x px, .Name y py] kt pt] (.Tuple [ea, eb] k2 pt2) pos) po :=
  ds_asgG (P := fun d => ∃ a b, d = .tup [a, b] ∧ Pa a ∧ Pb b) (vs := [i, j]) (f := fun d => match d with | .tup [a, b] => (ds.set i (.val a)).set j (.val b) | _ => ds)
    (DE.imp (de_tup (da_cons ha (da_cons hb da_nil h2) h1) fun as z => by obtain ⟨_, _, rfl, _, _, _, rfl, _, rfl⟩ := z; exact small_line (by simp)) fun d z => by
      obtain ⟨_, rfl, a, _, rfl, pa, b, _, rfl, pb, rfl⟩ := z
      exact ⟨a, b, rfl, pa, pb⟩)
    (pg_tup hc (pgs_cons (pg_name hN hi hx hf) (pgs_cons (pg_name hN hj hy hf2) pgs_nil hs2) hs1) hn hst)
    (fun d z => by
      obtain ⟨a, b, rfl, _, _⟩ := z
      exact gp_pair (by simp) (by simp))
    (fun d z => by
      obtain ⟨a, b, rfl, pa, pb⟩ := z
      exact h a b pa pb) hs hw h0
/-- .. the second a new object -/
theorem ds_parCN {Pn : Sl → Prop} (hc : X.calm = true) (hN : X.N.Nodup) (hi : X.N[i]? = some x) (hj : X.N[j]? = some y) (hx : Loc X.env.scope x) (hy : Loc X.env.scope y) (ha : DE X c ds ea Pa) (hb : DN X c ds eb Pn) (h : ∀ a b, Pa a → Pn b → po.nx ((ds.set i (.val a)).set j b))
    (hs : swapsWithSole [.Tuple [.Name x px, .Name y py] kt pt] (.Tuple [ea, eb] k2 pt2) pos.line X.env = pure false := by rfl) (hw : swappedStores [.Tuple [.Name x px, .Name y py] kt pt] (.Tuple [ea, eb] k2 pt2) X.env = pure none := by rfl)
    (h0 : (assignEach [.Tuple [.Name x px, .Name y py] kt pt] X.env).map (·.2) = [assign (.Tuple [.Name x px, .Name y py] kt pt) X.env] := by rfl)
    (hn : (assignEach [.Name x px, .Name y py] X.env).length = 2 := by rfl) (hst : (assignEach [.Name x px, .Name y py] X.env).findIdx? (·.1) = none := by rfl)
    (hs1 : (assignEach [.Name x px, .Name y py] X.env).map (·.2) = assign (.Name x px) X.env :: (assignEach [.Name y py] X.env).map (·.2) := by rfl) (hs2 : (assignEach [.Name y py] X.env).map (·.2) = assign (.Name y py) X.env :: (assignEach [] X.env).map (·.2) := by rfl)
    (hf : X.fn x = true ∨ X.env.scope.names.lookup x = some .local := by first | exact .inl rfl | exact .inr rfl | assumption) (hf2 : X.fn y = true ∨ X.env.scope.names.lookup y = some .local := by first | exact .inl rfl | exact .inr rfl | assumption)
    (h1 : starEach [ea, eb] X.env = (false, eval ea X.env) :: starEach [eb] X.env := by rfl) (h2 : starEach [eb] X.env = (false, eval eb X.env) :: starEach [] X.env := by rfl) :
    DS X c ds (.Assign [.Tuple [.Name x px, .Name y py] kt pt] (.Tuple [ea, eb] k2 pt2) pos) po :=
  ds_of (L2.ps_asg (L2.pe_tup (L2.pa_cons ha (L2.pa_cons hb L2.pa_nil h2) h1)) (pg_tup hc (pgs_cons (pg_name hN hi hx hf) (pgs_cons (pg_name hN hj hy hf2) pgs_nil hs2) hs1) hn hst) hs hw h0) fun M ow σ H E D q1 q2 q3 q4 => ⟨M, ow, E, fun v a H1 pa l1 i1 => ⟨M, ow, E.up l1, fun p o s H2 ps l2 n1 n2 no sk => ⟨small_line (by simp), fun q hq =>
    ⟨q, [v, .ref p], rfl, .inl (.inl upd_same), rfl, v, [.ref p], rfl, .ref p, [], rfl, rfl, by
      have E2 := ((E.up l1).set i i1).more (i := j) l2 n1 n2 no sk
      refine q1 _ _ _ _ _ (h a s pa ps) (E2.up (Le.new hq)) (Kp.tr (.of l1 E.ok) (Kp.tr (M1 := p :: M) (H1 := H2) ⟨fun b u nb e => l2.keep b u (fun z => nb (E.ok.zM b z)) e, fun b m => (List.mem_cons.mp m).elim (fun z => .inr (z ▸ n1)) .inl⟩ (.of (c := c) (Le.new hq) E2.ok)))⟩⟩⟩⟩
end
end Dt

set_option Elab.async false
set_option linter.all false
set_option maxRecDepth 100000
set_option maxHeartbeats 4000000
/-! lists against the empty list -/
namespace L2
open PySem PySem.SeqAt PyProof.Rows
section
variable {X : Cx}
def rEqNil (K : PySem.W.Frag) (g : Bool → Bool) : R2 := fun x y H Q => ∃ (a b : Addr) (xs : List V), x = .ref a ∧ y = .ref b ∧ SqL K H a xs ∧ SqL K H b [] ∧ Q (.bl (g xs.isEmpty)) H
theorem op_eqNil (hu : X.A.units < cLine) : OpR X (compareOp .Eq) (rEqNil X.K id) := by
  intro pins s σ H x y v u Q I rx ry h
  obtain ⟨a, b, xs, rfl, rfl, ha, hb, q⟩ := h
  obtain rfl : v = Value.ref a := rx
  obtain rfl : u = Value.ref b := ry
  obtain ⟨its, rv, hl, hz⟩ := I.list ha
  obtain ⟨its2, rv2, hl2, hz2⟩ := I.list hb
  cases rv2
  show wpAny _ _ (richCompare .Eq (.ref a) (.ref b)) _ _ _
  cases rv with
  | nil => exact RcAt.lists (e := fun _ => true) hl.isList hl2.isList rfl hu (fun j h => absurd h (Nat.not_lt_zero _)) _ _ _ _ ⟨.bl true, H, I, rfl, q⟩
  | cons r t => exact RcAt.lists_lengths hl.isList hl2.isList (by simp) hu _ _ _ _ ⟨.bl false, H, I, rfl, q⟩
theorem op_neNil (hu : X.A.units < cLine) : OpR X (compareOp .NotEq) (rEqNil X.K not) := by
  intro pins s σ H x y v u Q I rx ry h
  obtain ⟨a, b, xs, rfl, rfl, ha, hb, q⟩ := h
  obtain rfl : v = Value.ref a := rx
  obtain rfl : u = Value.ref b := ry
  obtain ⟨its, rv, hl, hz⟩ := I.list ha
  obtain ⟨its2, rv2, hl2, hz2⟩ := I.list hb
  cases rv2
  show wpAny _ _ (richCompare .NotEq (.ref a) (.ref b)) _ _ _
  cases rv with
  | nil => exact RcNeAt.lists (e := fun _ => true) hl.isList hl2.isList rfl hu (fun j h => absurd h (Nat.not_lt_zero _)) _ _ _ _ ⟨.bl false, H, I, rfl, q⟩
  | cons r t => exact RcNeAt.lists_lengths hl.isList hl2.isList (by simp) hu _ _ _ _ ⟨.bl true, H, I, rfl, q⟩
end
end L2
namespace Dt
open PySem PyProof.Rows L2
section
variable {X : Cx} {c : Fx}
/-- xs == [] -/
theorem o_eqN {xs : List D} (hu : X.A.units < cLine) : OpD X (compareOp .Eq) c (.lst xs) (.lst []) (· = .bl xs.isEmpty) := opd_of (op_eqNil hu) fun M H x y ok i1 i2 Q q => by
  obtain ⟨a, ys, rfl, ha, ia⟩ := i1.lst_inv
  obtain ⟨b, zs, rfl, hb, ib⟩ := i2.lst_inv
  cases ib
  refine ⟨a, b, ys, rfl, rfl, .inl (.inl (cut_at ha).1), .inl (.inl (cut_at hb).1), q _ _ H ?_ .rfl' .bl⟩
  cases ia <;> rfl
theorem o_neN {xs : List D} (hu : X.A.units < cLine) : OpD X (compareOp .NotEq) c (.lst xs) (.lst []) (· = .bl (!xs.isEmpty)) := opd_of (op_neNil hu) fun M H x y ok i1 i2 Q q => by
  obtain ⟨a, ys, rfl, ha, ia⟩ := i1.lst_inv
  obtain ⟨b, zs, rfl, hb, ib⟩ := i2.lst_inv
  cases ib
  refine ⟨a, b, ys, rfl, rfl, .inl (.inl (cut_at ha).1), .inl (.inl (cut_at hb).1), q _ _ H ?_ .rfl' .bl⟩
  cases ia <;> rfl
end
end Dt

set_option Elab.async false
set_option linter.all false
set_option maxRecDepth 100000
set_option maxHeartbeats 4000000
/-! a lambda handed to a def, what a try catches, in data -/
namespace LamX
open PySem PySem.Spec PyProof.Rows L2
/-- all but the table at P stays -/
def ExtP (P : Addr) (H H1 : Hp) : Prop := ∀ b o, b ≠ P → H b = some o → H1 b = some o
section
variable {X : Cx} {pins : List (Addr × Obj)} {σ : L2.St} {H : Hp} {s : Shared}
abbrev lamN (X : Cx) : Str := X.env.qual ++ "<lambda>"
theorem lam_at {T : List (Addr × Str)} {cd P : Addr} {params : Arguments} {body : Expr} {scope : Scope} {pos : Pos} {E Q : Value → Shared → Prop} (I : Inv X pins σ H s) (TB : TabB X.base X.mg cd P) (hcode : X.env.code = .ref cd)
    (hm : (P, lamN X) ∈ T) (hu : ∀ p ∈ T, p.1 = P → p.2 = lamN X) (hT : Tabs T H) (hdef : defaultsOf params X.env = ([], [])) (hfree : ∀ y ∈ scope.names, y.2 = .free → ∃ c, X.env.cells.lookup y.1 = some c)
    (h : ∀ (f c' : Addr) (pm ctv : Value) (H1 : Hp) (s' : Shared), Inv X pins σ H1 s' → ExtP P H H1 → Tabs T H1 →
      s'.heap.get? f = some (PySem.W.kla_obj "<lambda>" (lamN X) params body scope (cloFrom X.env.cells scope.names []) pm c' ctv) → H1 f = none → f ∉ frs X.stack → H1 c' = some (CodeO c' (lamN X)) → Q (.ref f) s') :
    wpAny (model X.prog X.w) X.A (eval (.Lambda params body scope pos) X.env) Q E s := by
  obtain ⟨ps, atP, tr, am⟩ := hT _ hm
  have gP := I.hok P _ atP
  have bP := TB.bm.keeps I.bk
  have away : ∀ f, s.heap.objs.size ≤ f → f ∉ frs X.stack := fun f hf z => (List.mem_cons.mp (I.stkSub _ z)).elim (fun e => by have h1 := I.lt; rw [← e] at h1; exact absurd (Nat.lt_of_lt_of_le h1 hf) (Nat.lt_irrefl _)) (I.nofs hf)
  refine PySem.W.kla_eval hdef ?_
  cases fnd : codeAmong pos ps.toList with
  | some cv =>
    obtain ⟨c', e, hco⟩ := am pos cv fnd
    subst e
    exact PySem.W.kla_makeFunctionHit (mg := X.mg) (c := cd) (P := P) (ps := ps) (closure_ok hfree) I.ok.glob (I.mod.glob.keeps I.bk) hcode (TB.code.keeps I.bk) gP tr fnd bP fun ctv h' tk hx hsz =>
      h h'.objs.size c' ((X.mg "__name__").getD .none) ctv H _ (I.kept fun b o e => Heap.get?_push_of_some _ (hx b o e)) (fun _ _ _ e => e) hT (Heap.get?_push_size _ rfl) (I.hok.fresh hsz) (away _ hsz) hco
  | none =>
    refine PySem.W.kla_makeFunction (mg := X.mg) (c := cd) (P := P) (ps := ps) (closure_ok hfree) I.ok.glob (I.mod.glob.keeps I.bk) hcode (TB.code.keeps I.bk) gP tr fnd TB.gP bP fun c' ctv h' tk hx hge hlt hrec htb => ?_
    obtain ⟨c2, oc, vs, t, e2, hoc, hd, hv⟩ := hrec
    cases e2
    have nC : H c' = none := I.hok.fresh hge
    have sz : s.heap.objs.size ≤ h'.objs.size := Nat.le_trans hge (Nat.le_of_lt hlt)
    have up : ∀ b o, h'.get? b = some o → (h'.push (PySem.W.kla_obj "<lambda>" (lamN X) params body scope (cloFrom X.env.cells scope.names []) ((X.mg "__name__").getD .none) c' ctv)).get? b = some o := fun _ _ e => Heap.get?_push_of_some _ e
    have I1 := inv_table (t' := tk) (more := #[rawInt pos.line, rawInt pos.col, .ref c']) I atP (fun b o hb e => up _ _ (hx b o hb e)) (up _ _ htb) hge ⟨oc, vs, t, up _ _ hoc, hd, hv⟩
    have PnC : P ≠ c' := ne_of_none atP nC
    have keep : ExtP P H (upd (upd H P (.tbl (ps ++ #[rawInt pos.line, rawInt pos.col, .ref c']))) c' (CodeO c' (lamN X))) := fun b o n e => by rw [upd_ne (ne_of_none e nC), upd_ne n]; exact e
    have codeNP : ∀ c0 q, H c0 = some (CodeO c0 q) → c0 ≠ P := fun c0 q e z => by rw [z, atP] at e; exact absurd (Option.some.inj e).symm (codeO_ne ps)
    have eL : (ps ++ #[rawInt pos.line, rawInt pos.col, .ref c']).toList = ps.toList ++ [rawInt pos.line, rawInt pos.col, .ref c'] := by simp
    refine h h'.objs.size c' _ ctv _ _ I1 keep (fun p hp => ?_) (Heap.get?_push_size _ rfl) ?_ (away _ sz) upd_same
    · by_cases hb : p.1 = P
      · refine ⟨_, by rw [hb, upd_ne PnC, upd_same], by rw [eL]; exact PySem.TriplesOk_snoc _ _ _ _ tr, fun p' cv hcv => ?_⟩
        rw [eL] at hcv
        rw [hu p hp hb]
        exact (among_app _ tr hcv).elim (fun z => let ⟨c0, e1, e2⟩ := am p' cv z; ⟨c0, e1, keep _ _ (codeNP _ _ e2) e2⟩) fun z => ⟨c', z, upd_same⟩
      · obtain ⟨ps', a1, a2, a3⟩ := hT p hp
        exact ⟨ps', keep _ _ hb a1, a2, fun p' cv hcv => let ⟨c0, e1, e2⟩ := a3 p' cv hcv; ⟨c0, e1, keep _ _ (codeNP _ _ e2) e2⟩⟩
    · rw [upd_ne (Nat.ne_of_gt hlt), upd_ne (Nat.ne_of_gt (Nat.lt_of_lt_of_le (Heap.lt_size gP) sz))]
      exact I.hok.fresh sz
/-- x(lambda: body), the tables but this def's stay -/
theorem pe_lam {T : List (Addr × Str)} {TT : (XK → Hp → VK → Prop) → Hp → VK → Prop} {x a : Str} {g cd P : Addr} {k : Nat} {pg : Arguments} {bg : List Stmt} {sg : Scope} {dV kV doc pm cdv ct oc : Value} {an od : Option Addr} {osl : Array (Option Value)} {Ng : List Str}
    {params : Arguments} {body : Expr} {scope : Scope} {t : XK → TE} {p lpos pos : Pos} (hg : Gl X x) (hm : X.mg x = some (.ref g)) (hk : PySem.W.keepIn X.K (.ref g) = true)
    (lk : X.K.lookup g = some ⟨oc, od, .func (PySem.W.fnOf x x pg bg sg dV kV doc pm an cdv ct), osl⟩) (hcg : PySem.W.codeIn X.K cdv x = true) (hb : L2.Binds X.K (PySem.W.fnOf x x pg bg sg dV kV doc pm an cdv ct) [a] []) (Sg : FnScope Ng [a] sg) (hNg : Ng[0]? = some a) (hva : Vis sg a)
    (hG : GivesTo X Ng x sg g cdv bg a (lamN X) TT) (TB : TabB X.base X.mg cd P) (hcode : X.env.code = .ref cd) (hmT : (P, lamN X) ∈ T) (hu : ∀ p ∈ T, p.1 = P → p.2 = lamN X) (hr : Room (k + 2) X.A) (L : LamS X.env.scope scope) (hdef : defaultsOf params X.env = ([], []))
    (hbind : ∀ (q : Str) (cl : List (Str × Addr)) (pm cv ctv : Value), bindArgs (PySem.W.kla_fn "<lambda>" q params body scope cl pm cv ctv) ⟨[], []⟩ = pure [])
    (hbody : ∀ (A : Around) (outer : List Env) (s : Shared) (H : Hp) (E : XK) (f c' : Addr), Room k (A.deeper (lamEnv X scope s.heap.objs.size f c')) → PE (lamCx X A outer s H E scope f c') body (t E))
    (hdb : (x == ("__debug__" : Str)) = false := by decide) (hd : (a == ("__debug__" : Str)) = false := by decide) (hcd : (a == ("__classdict__" : Str)) = false := by decide) :
    PE X (.Call (.Name x p) [.Lambda params body scope lpos] [] pos) (fun σ H Q => Tabs T H ∧ ∀ H1, ExtP P H H1 → Tabs T H1 → TT (fun E H' Q' => t E σ H' Q') H1 Q) := by
  refine ⟨fun pins s σ H Q I ⟨hT, h⟩ => wpAny_Call_Name_kw (ld_glob I hg hm (PySem.W.callWith_K (h₀ := X.base) I.ok.mod.kin hk ?_ (by rfl) (by rfl)) hdb)⟩
  show wpAny _ _ (spliced ((false, eval (.Lambda params body scope lpos) X.env) :: backTo pos (starEach [] X.env))) _ _ s
  refine Calls.spliced_cons (lam_at I TB hcode hmT hu hT hdef (L.has I.ok) fun f c' pm' ctv H1 s' I1 eN T1 hf hfn hfr hco => Calls.spliced_nil ⟨I1.kIn, wpAny_call (codeAny_mono (?_ : codeAny (model X.prog X.w) X.A (.call (.ref g) ⟨[.ref f], []⟩) (CR C8.CX0 X.stack X.prog X.w H1 s' Q C8.E0) s') fun r s2 hq => ?_)⟩)
  · refine run_ofS (N := Ng) (ps := [a]) (us := [.ref f]) (vs := [.ref f]) lk hcg Sg hr I1.env0 (hb s' [.ref f] I1.kIn rfl) (.cons rfl .nil) rfl fun hr' => ?_
    obtain ⟨t', ht', hq'⟩ := hG f c' s' H1 Q (fun E H' Q' => t E σ H' Q') (fun W pn xe E p1 p2 tk hW => pe_act (i := 0) I1 L hf hfn hfr (hbind _ _ _ _ _) tk hW hr' (fun A outer s H hr2 => hbody A outer s H E f c' hr2) hNg hva hd hcd) hco (h H1 eN T1)
    exact ⟨t', ht'.nox, hq'⟩
  · match r, hq with
    | .ok (.ret u), hq => exact I1.after hq
end
end LamX
namespace Dt
open PySem PyProof.Rows L2
/-! ### what a try catches -/
section
variable {X : Cx} {c : Fx} {ds : List Sl} {po : Po}
theorem env_none {K : PySem.W.Frag} {σ : L2.St} {H : Hp} (l : Le c.z c.H0 H) {n : Nat} (hl : σ.length = n) : Env K c c.B (fun _ => 0) σ H (List.replicate n .no) := by
  have no : ∀ (j : Nat) (t : Sl), (List.replicate n Sl.no)[j]? = some t → t = .no := fun j t e => by
    rw [List.getElem?_replicate] at e
    split at e
    · exact (Option.some.inj e).symm
    · cases e
  refine ⟨⟨l, fun _ m => m, (c.ok.up l).kn⟩, by rw [List.length_replicate]; exact hl, fun j t e => ?_, fun j k t u e1 _ w1 _ _ => ?_⟩
  · rw [no j t e]
    trivial
  · rw [no j t e1] at w1
    cases w1
/-- the slots of a suite: the exception's own alone -/
def dsE (n i : Nat) (a : Addr) : List Sl := (List.replicate n .no).set i (.val (.adr a))
/-- try: body / except x as n: suite; the suite gives back -/
theorem ds_tryAs {x n : Str} {C : Addr} {i : Nat} {S : Value → Prop} {body suite : List Stmt} {b0 : Stmt} {np pos pos' : Pos} (hs : X.stack = X.env :: X.outer) (hf : X.env.frame = some X.env.locals) (hN : X.N.Nodup) (hi : X.N[i]? = some n) (hln : X.env.kindOf n = some .local) (hc : Names X x (.ref C))
    (hx : ∀ cls, S cls → PySem.W.exmOne X.K cls (.ref C) = some true)
    (hb : ∀ (W : WX) (pn : List (Addr × Obj)) (xe : Value → Shared → Prop), Takes (X.tr pn xe) W → PassesOwn (model X.prog X.w) X.A X.env xe → (∀ cls σ' H', S cls → Le c.z c.H0 H' → W cls none σ' H') → DSs (X.tr pn xe) c ds body po)
    (hsu : ∀ (a : Addr) (oe : Obj) (cls : Value) (pn : List (Addr × Obj)), S cls → Zc cls none oe → (∃ vs, oe.data = .fields vs) → DSs (X.suite a ((a, oe) :: pn)) c (dsE X.N.length i a) (b0 :: suite) ⟨fun _ => False, po.rt, fun _ => False, fun _ => False⟩) :
    DS X c ds (.Try body [.ExceptHandler (some (.Name x np)) (some n) (b0 :: suite) pos'] [] [] pos) po := by
  have g1 : ∀ (W : WX) (pn : List (Addr × Obj)) (xe : Value → Shared → Prop), Takes (X.tr pn xe) W → PassesOwn (model X.prog X.w) X.A X.env xe → PSs (X.tr pn xe) body fun D σ H => (∀ cls σ' H', S cls → Le c.z c.H0 H' → W cls none σ' H') ∧ tDS X.K c ds po D σ H :=
    fun W pn xe tk pw => ⟨fun pins s σ H D I ⟨hw, h⟩ => (hb W pn xe tk pw hw).run pins s σ H D I h⟩
  have g2 : ∀ (a : Addr) (oe : Obj) (cls : Value) (d : Option Addr) (pn : List (Addr × Obj)), Zc cls d oe → (∃ vs, oe.data = .fields vs) →
      PSs (X.suite a ((a, oe) :: pn)) (b0 :: suite) fun D σ H => σ.length = X.N.length → S cls ∧ d = none ∧ tDS X.K c (dsE X.N.length i a) ⟨fun _ => False, po.rt, fun _ => False, fun _ => False⟩ D σ H := fun a oe cls d pn hz hf => ⟨fun pins s σ H D I h => by
    obtain ⟨h1, h2, h3⟩ := h I.len
    subst h2
    exact (hsu a oe cls pn h1 hz hf).run pins s σ H D I h3⟩
  refine ds_of (L2.ps_try_as hs hf hN hi hln hc LamX.takes0 g1 g2) fun M ow σ H E D q1 q2 q3 q4 => ⟨fun cls σ' H' hS l => ⟨true, hx cls hS, fun _ a na hl => ⟨hS, rfl, c.B, fun _ => 0, ?_, (fun _ _ _ _ _ z => z.elim), q2, (fun _ _ _ _ _ z => z.elim), fun _ _ _ _ _ z => z.elim⟩, fun z => by cases z⟩, M, ow, E, q1, q2, q3, q4⟩
  exact (env_none l (by rw [List.length_set] at hl; exact hl)).set i .adr
/-- isinstance(e, cls), e what is caught -/
theorem c_isE {a C : Addr} {oe : Obj} {pn : List (Addr × Obj)} {e : D} {u : Value} {r : Bool} (T : L2.ExcC X.K C) (hz : Zc (.ref C) none oe) (hf : ∃ vs, oe.data = .fields vs) (he : e.asC = some u) (h : PySem.W.kitOne X.K (.ref C) u = some r) : CallD (X.suite a ((a, oe) :: pn)) (.builtin "isinstance") c [.adr a, e] (· = .bl r) :=
  cad_of (L2.call_isE T hz hf) fun M H xs ok i Q q => by
    obtain ⟨v, w, rfl, i1, i2⟩ := i.two
    have hv := i1.adr_inv
    subst hv
    exact ⟨w, u, r, rfl, fun z rz => (asC_is i2 he).eq rz, h, q _ _ H rfl .rfl' .bl⟩
end
end Dt

set_option Elab.async false
set_option linter.all false
set_option maxRecDepth 100000
set_option maxHeartbeats 4000000
/-! x(lambda: body), in data; defs whose code object is known -/
namespace Dt
open PySem PyProof.Rows L2
/-- what a def makes of a lambda that may raise: fine, or told of what was caught -/
def TTb (S : Value → Prop) (tv fv : V) : (XK → Hp → VK → Prop) → Hp → VK → Prop := fun tl H Q => tl (fun cls d H' => S cls ∧ d = none ∧ ∀ H2, Sub H' H2 → Q tv H2) H fun _ H' => Q fv H'
theorem env_noOwn {K : PySem.W.Frag} {c c2 : Fx} {M : List Addr} {ow : Nat → Addr} {σ : L2.St} {H : Hp} {ds : List Sl} (E : Env K c M ow σ H ds) (ok : Ok c2 M H) : Env K c2 M ow σ H (ds.map noOwn) := by
  refine ⟨ok, by rw [List.length_map]; exact E.len, fun j t e => ?_, fun j k t u e1 _ w1 _ _ => ?_⟩
  · rw [List.getElem?_map, Option.map_eq_some_iff] at e
    obtain ⟨t0, e0, rfl⟩ := e
    have z := E.at_ j t0 e0
    cases t0 with
    | no => trivial
    | val d => exact z
    | lst es => trivial
    | dic ks es => trivial
    | obj x C ns es => trivial
    | lck ks es => exact z
  · rw [List.getElem?_map, Option.map_eq_some_iff] at e1
    obtain ⟨t0, e0, rfl⟩ := e1
    rw [noOwn_own] at w1
    cases w1
section
variable {X : Cx} {c : Fx} {ds : List Sl}
/-- what is known of a def that calls the function it gets -/
structure LamF (X : Cx) (x a : Str) (Ng : List Str) (TT : (XK → Hp → VK → Prop) → Hp → VK → Prop) : Prop where
  ex : ∃ (g : Addr) (pg : Arguments) (bg : List Stmt) (sg : Scope) (dV kV doc pm cdv ct oc : Value) (an od : Option Addr) (osl : Array (Option Value)),
    X.mg x = some (.ref g) ∧ PySem.W.keepIn X.K (.ref g) = true ∧ X.K.lookup g = some ⟨oc, od, .func (PySem.W.fnOf x x pg bg sg dV kV doc pm an cdv ct), osl⟩ ∧ PySem.W.codeIn X.K cdv x = true ∧
    L2.Binds X.K (PySem.W.fnOf x x pg bg sg dV kV doc pm an cdv ct) [a] [] ∧ FnScope Ng [a] sg ∧ Ng[0]? = some a ∧ Vis sg a ∧ LamX.GivesTo X Ng x sg g cdv bg a (LamX.lamN X) TT
/-- what is known of the def that makes the lambda: its code object, its table -/
structure LamM (X : Cx) (T : List (Addr × Str)) : Prop where
  ex : ∃ cd P : Addr, LamX.TabB X.base X.mg cd P ∧ X.env.code = .ref cd ∧ (P, LamX.lamN X) ∈ T ∧ ∀ p ∈ T, p.1 = P → p.2 = LamX.lamN X
theorem de_lam {b : Bool} {S : Value → Prop} {tv fv : V} {td fd : D} {x a : Str} {Ng : List Str} {T : List (Addr × Str)} {k : Nat} {params : Arguments} {body : Expr} {scope : Scope} {p lpos pos : Pos} (htd : ∀ H, Is X.K H tv td) (hfd : ∀ H, Is X.K H fv fd) (hg : Gl X x) (LF : LamF X x a Ng (TTb S tv fv)) (LM : LamM X T)
    (hT : c.z.tb = T) (hr : Room (k + 2) X.A) (L : LamX.LamS X.env.scope scope) (hdef : defaultsOf params X.env = ([], []))
    (hbind : ∀ (q : Str) (cl : List (Str × Addr)) (pm cv ctv : Value), bindArgs (PySem.W.kla_fn "<lambda>" q params body scope cl pm cv ctv) ⟨[], []⟩ = pure [])
    (hbody : ∀ (c2 : Fx) (A : Around) (outer : List PySem.Env) (s : Shared) (H : Hp) (E : XK) (f c' : Addr), c2.z = c.z → Room k (A.deeper (LamX.lamEnv X scope s.heap.objs.size f c')) → (∀ cls H', b = false → S cls → Le c2.z c2.H0 H' → E cls none H') → DE (LamX.lamCx X A outer s H E scope f c') c2 (ds.map noOwn) body fun _ => b = true)
    (hdb : (x == ("__debug__" : Str)) = false := by decide) (hd : (a == ("__debug__" : Str)) = false := by decide) (hcd : (a == ("__classdict__" : Str)) = false := by decide) :
    DV X c ds (.Call (.Name x p) [.Lambda params body scope lpos] [] pos) (if b = true then fd else td) := by
  obtain ⟨g, pg, bg, sg, dV, kV, doc, pm, cdv, ct, oc, an, od, osl, hm, hk, lk, hcg, hb, Sg, hNg, hva, hG⟩ := LF.ex
  obtain ⟨cd, P, TB, hcode, hmT, hu⟩ := LM.ex
  refine de_of (LamX.pe_lam (t := fun E σ H Q => ∃ c2 : Fx, c2.z = c.z ∧ (∀ cls H', b = false → S cls → Le c2.z c2.H0 H' → E cls none H') ∧ tD X.K c2 (ds.map noOwn) (fun _ => b = true) σ H Q) hg hm hk lk hcg hb Sg hNg hva hG TB hcode hmT hu hr L hdef hbind
    (fun A outer s H E f c' hr2 => ⟨fun pins s2 σ H2 Q I ⟨c2, z, hE, h⟩ => (hbody c2 A outer s H E f c' z hr2 hE).run pins s2 σ H2 Q I h⟩) hdb hd hcd) fun M ow σ H E Q q => ⟨hT ▸ E.ok.tabs, fun H1 eP T1 => ?_⟩
  obtain ⟨ps, hP, _⟩ := E.ok.tabs (P, LamX.lamN X) (by rw [hT]; exact hmT)
  have nz : P ∈ c.z := .inr (List.mem_map.mpr ⟨_, by rw [hT]; exact hmT, rfl⟩)
  have l1 : Le c.z H H1 := ⟨fun a o n e => eP a o (fun z => n (z ▸ nz)) e, fun a m ⟨u, v, w, e⟩ => ⟨u, v, w, eP a _ (fun z => by rw [z, hP] at e; cases e) e⟩, fun p m _ => T1 p (by rw [← hT]; exact m)⟩
  have E1 := E.up l1
  refine ⟨E1.ok.fx c.z (fun _ m => m) E1.ok.zok, rfl, fun cls H' hb hS l => ⟨hS, rfl, fun H2 sb => ?_⟩, M, ow, env_noOwn E1 ⟨.rfl', fun _ m => m, E1.ok.kn⟩, fun v d H' pd l i => ?_⟩
  · rw [hb] at q
    exact q tv _ H2 rfl (l1.tr (Le.tr l (.of sb))) (htd _)
  · exact q fv _ H' (by rw [pd]; rfl) (l1.tr l) (hfd _)
end
section
variable {P : Program} {w : World} {K : PySem.W.Frag} {mg : Str → Option Value} {base : Heap} {x qual : Str} {params : Arguments} {body : List Stmt} {scope : Scope} {dvs : List V} {kws : List (Str × V)} {f : Addr} {fd : FuncData}
variable {N ps : List Str} {k : Nat} {dice : Bool} {pre : List D → Prop} {post : List D → D → Prop} {xs : List D → Value → Prop} {T : List (Addr × Str)}
/-- a def that makes lambdas: its code object is that of K -/
theorem fn_dL {at_ : Str × Option Str} (hat : f = He.fAd K at_) (F : FunD K x qual params body scope dvs kws f fd) (S : FnScope N ps scope) (hl : ∀ as, pre as → as.length = ps.length)
    (hb : ∀ (c : Fx) (as : List D) (cdv : Value) (A : Around) (outer : List PySem.Env) (s : Shared) (E : XK), cdv = .ref (He.codeOf K at_) → Room k (A.deeper (envOfC qual scope s.heap.objs.size f cdv)) → pre as → (∀ a ∈ zOf dice as, c.Di a) → c.z.tb = T →
      DSs (cxOf (L2.CX P w) P w K mg base N qual scope f cdv A outer s c.H0 E).nox c (startD N as) body ⟨fun _ => post as .non, post as, fun _ => False, fun _ => False⟩) :
    FnOk P w K mg base (L2.CX P w) (k + 1) f fd ps (spT K T dice pre post xs) := by
  obtain ⟨oc, od, dV, kV, doc, pm, an, cdv, ct, osl, e, lk, hcd, hD, hK⟩ := id F.ex
  subst e
  obtain ⟨cd, rfl⟩ := He.codeIn_ref hcd
  have hc : He.codeOf K at_ = cd := He.codeOf_eq (hat ▸ lk) rfl
  refine ⟨fun vs H Q E ⟨c, as, _, _, hp, ia, _⟩ => by rw [ia.len, hl as hp], fun A outer s H args us vs Q E hr e0 hbd r h => ?_⟩
  obtain ⟨c, as, rfl, ⟨hz, hT⟩, hp, ia, q, qx⟩ := id h
  have hlen : vs.length = ps.length := by rw [ia.len, hl as hp]
  refine LamX.run_ofS lk hcd S hr e0 hbd r hlen fun hr' => ?_
  obtain ⟨t, h1, h2⟩ := body_of (K := K) rfl (hb c as (.ref cd) A outer s E (by rw [hc]) hr' hp hz hT) ia q
  exact ⟨t, h1.nox, h2⟩
end
end Dt

set_option Elab.async false
set_option linter.all false
set_option maxRecDepth 100000
set_option maxHeartbeats 4000000
/-! levels; properties -/
namespace Dt
open PySem PyProof.Rows L2
section
variable {P : Program} {w : World} {K : PySem.W.Frag} {mg : Str → Option Value} {base : Heap} {CX : CXT} {k k' : Nat} {f C : Addr} {fd : FuncData} {ps : List Str} {sp sp' : Sp} {x m : Str} {dvs : List V}
theorem fnOk_lift (F : FnOk P w K mg base CX k f fd ps sp) (h : k ≤ k') : FnOk P w K mg base CX k' f fd ps sp :=
  ⟨F.len, fun A outer s H args us vs Q E hr => F.run A outer s H args us vs Q E (hr.mono h)⟩
theorem fnG_lift (F : FnG P w K mg base CX k f fd ps sp) (h : k ≤ k') : FnG P w K mg base CX k' f fd ps sp :=
  ⟨F.len, fun A outer s H args us vs Q E hr => F.run A outer s H args us vs Q E (hr.mono h)⟩
theorem fnOk_weak (F : FnOk P w K mg base CX k f fd ps sp) (h : ∀ vs H Q E, sp' vs H Q E → sp vs H Q E) : FnOk P w K mg base CX k f fd ps sp' :=
  ⟨fun vs H Q E z => F.len vs H Q E (h _ _ _ _ z), fun A outer s H args us vs Q E hr e b r z => F.run A outer s H args us vs Q E hr e b r (h _ _ _ _ z)⟩
theorem fnG_weak (F : FnG P w K mg base CX k f fd ps sp) (h : ∀ vs H Q E, sp' vs H Q E → sp vs H Q E) : FnG P w K mg base CX k f fd ps sp' :=
  ⟨fun vs H Q E z => F.len vs H Q E (h _ _ _ _ z), fun A outer s H args us vs Q E hr gd e b r z => F.run A outer s H args us vs Q E hr gd e b r (h _ _ _ _ z)⟩
theorem Cl.lift (F : Dt.Cl P w K mg base k x sp dvs) (h : k ≤ k') : Dt.Cl P w K mg base k' x sp dvs :=
  let ⟨f, fd, ps, dd, F, r⟩ := F.ex
  ⟨f, fd, ps, dd, fnOk_lift F h, r⟩
theorem Cl.weak (F : Dt.Cl P w K mg base k x sp dvs) (h : ∀ vs H Q E, sp' vs H Q E → sp vs H Q E) : Dt.Cl P w K mg base k x sp' dvs :=
  let ⟨f, fd, ps, dd, F, r⟩ := F.ex
  ⟨f, fd, ps, dd, fnOk_weak F h, r⟩
theorem ClG.lift (F : ClG P w K mg base k x sp dvs) (h : k ≤ k') : ClG P w K mg base k' x sp dvs :=
  let ⟨f, fd, ps, dd, F, r⟩ := F.ex
  ⟨f, fd, ps, dd, fnG_lift F h, r⟩
theorem Mkr.lift (F : Mkr P w K mg base k x C sp dvs) (h : k ≤ k') : Mkr P w K mg base k' x C sp dvs :=
  let ⟨f, fd, ps, dd, M, F, r⟩ := F.ex
  ⟨f, fd, ps, dd, M, fnOk_lift F h, r⟩
theorem Mtd.lift (F : Mtd P w K mg base k C m sp) (h : k ≤ k') : Mtd P w K mg base k' C m sp :=
  let ⟨f, fd, ps, M, N, F, r⟩ := F.ex
  ⟨f, fd, ps, M, N, fnOk_lift F h, r⟩
/-- a property of the class at C -/
structure Prp (P : Program) (w : World) (K : PySem.W.Frag) (mg : Str → Option Value) (base : Heap) (k : Nat) (C : Addr) (f : Str) (sp : Sp) : Prop where
  ex : ∃ (p g : Addr) (fd : FuncData) (ps : List Str), L2.Cls K C ∧ PropOf K C f p g ∧ FnOk P w K mg base (L2.CX P w) k g fd ps sp ∧ Binds K fd ps []
theorem Prp.lift (F : Prp P w K mg base k C m sp) (h : k ≤ k') : Prp P w K mg base k' C m sp :=
  let ⟨p, g, fd, ps, c, q, F, r⟩ := F.ex
  ⟨p, g, fd, ps, c, q, fnOk_lift F h, r⟩
end
section
variable {X : Cx} {c : Fx} {ds : List Sl} {P : D → Prop} {e : Expr} {pos : Pos} {C : Addr} {ns : List Str} {os : List D} {f : Str} {pre : List D → Prop} {post : List D → D → Prop} {j k : Nat}
theorem dv_prop (T : Prp X.prog X.w X.K X.mg X.base k C f (spD X.K false pre post noX)) (hr : Room j X.A) (hk : k + 1 ≤ j) (ho : DV X c ds e (.obj C ns os)) (hp : pre [.obj C ns os]) (hq : ∀ d, post [.obj C ns os] d → P d) (hb : attributeBase e f X.env (eval e X.env) = eval e X.env := by rfl) : DE X c ds (.Attribute e f pos) P := by
  obtain ⟨p, g, fd, ps, cl, q, F, b⟩ := T.ex
  exact de_prop cl q F hr hk b ho hp hq hb
end
end Dt

set_option Elab.async false
set_option linter.all false
set_option maxRecDepth 100000
set_option maxHeartbeats 4000000
/-! three names at once, op=, conditional lists, in data -/
namespace Dt
open PySem PyProof.Rows L2
section
variable {X : Cx} {c : Fx} {ds : List Sl} {po : Po} {P Pa Pb Pc : D → Prop} {e ea eb ec tg : Expr} {a b : D} {pos : Pos}
variable {i j l : Nat} {x y z : Str} {px py pz pt : Pos} {kt k2 : Nat} {pt2 : Pos}
/-- x, y, z = a, b, c with plain names -/
theorem ds_par3 (hc : X.calm = true) (hN : X.N.Nodup) (hi : X.N[i]? = some x) (hj : X.N[j]? = some y) (hl : X.N[l]? = some z) (hij : i ≠ j) (hil : i ≠ l) (hjl : j ≠ l)
    (hx : X.env.scope.names.lookup x = some .local) (hy : X.env.scope.names.lookup y = some .local) (hz : X.env.scope.names.lookup z = some .local) (ha : DE X c ds ea Pa) (hb : DE X c ds eb Pb) (hcc : DE X c ds ec Pc) (h : ∀ u v w, Pa u → Pb v → Pc w → po.nx (((ds.set i (.val u)).set j (.val v)).set l (.val w)))
    (hw : swappedStores [.Tuple [.Name x px, .Name y py, .Name z pz] kt pt] (.Tuple [ea, eb, ec] k2 pt2) X.env = pure (some [x, y, z]) := by rfl) (hs : swapsWithSole [.Tuple [.Name x px, .Name y py, .Name z pz] kt pt] (.Tuple [ea, eb, ec] k2 pt2) pos.line X.env = pure false := by rfl)
    (h1 : starEach [ea, eb, ec] X.env = (false, eval ea X.env) :: starEach [eb, ec] X.env := by rfl) (h2 : starEach [eb, ec] X.env = (false, eval eb X.env) :: starEach [ec] X.env := by rfl) (h3 : starEach [ec] X.env = (false, eval ec X.env) :: starEach [] X.env := by rfl) :
    DS X c ds (.Assign [.Tuple [.Name x px, .Name y py, .Name z pz] kt pt] (.Tuple [ea, eb, ec] k2 pt2) pos) po :=
  ds_of (L2.ps_par3 hc hN hi hj hl hij hil hjl hx hy hz (L2.pa_cons ha (L2.pa_cons hb (L2.pa_cons hcc L2.pa_nil h3) h2) h1) hw hs) fun M ow σ H E D q1 q2 q3 q4 => ⟨M, ow, E, fun u d1 H1 p1 l1 i1 => ⟨M, ow, E.up l1, fun v d2 H2 p2 l2 i2 => ⟨M, ow, E.up (l1.tr l2), fun w d3 H3 p3 l3 i3 => ⟨u, v, w, rfl, by
    have E3 := E.up ((l1.tr l2).tr l3)
    exact q1 _ _ _ H3 _ (h d1 d2 d3 p1 p2 p3) (((E3.set i (i1.up ((E.up l1).ok.cut (l2.tr l3)))).set j (i2.up ((E.up (l1.tr l2)).ok.cut l3))).set l i3) (.of ((l1.tr l2).tr l3) E.ok)⟩⟩⟩⟩
theorem gp_lst3 {K : PySem.W.Frag} {vs : List Nat} {d1 d2 d3 : D} (hi : i ∈ vs) (hj : j ∈ vs) (hk : l ∈ vs) : GP K c (gLst K 3 (gCons (gName i) (gCons (gName j) (gCons (gName l) gNil)))) vs (.lst [d1, d2, d3]) ds (((ds.set i (.val d1)).set j (.val d2)).set l (.val d3)) := fun M ow σ H v E iv Q q => by
  cases iv with
  | lst h0 al =>
    cases al with
    | cons ia al =>
      cases al with
      | cons ib al =>
        cases al with
        | cons ie al =>
          cases al
          exact ⟨_, _, rfl, .inl (.inl (cut_at h0).1), rfl, _, _, rfl, _, _, rfl, _, _, rfl, rfl, q _ (by rw [wipe_set _ l _ vs hk, wipe_set _ j _ vs hj, wipe_set _ i _ vs hi]) (((E.set i ia).set j ib).set l ie)⟩
/-- x, y, z = a list of three -/
theorem ds_unp3 (hc : X.calm = true) (hN : X.N.Nodup) (hi : X.N[i]? = some x) (hj : X.N[j]? = some y) (hl : X.N[l]? = some z) (hx : Loc X.env.scope x) (hy : Loc X.env.scope y) (hz : Loc X.env.scope z)
    (he : DE X c ds e fun d => ∃ u v w, d = .lst [u, v, w] ∧ Pa u ∧ Pb v ∧ Pc w) (h : ∀ u v w, Pa u → Pb v → Pc w → po.nx (((ds.set i (.val u)).set j (.val v)).set l (.val w)))
    (hs : swapsWithSole [.Tuple [.Name x px, .Name y py, .Name z pz] kt pt] e pos.line X.env = pure false := by rfl) (hw : swappedStores [.Tuple [.Name x px, .Name y py, .Name z pz] kt pt] e X.env = pure none := by rfl)
    (h0 : (assignEach [.Tuple [.Name x px, .Name y py, .Name z pz] kt pt] X.env).map (·.2) = [assign (.Tuple [.Name x px, .Name y py, .Name z pz] kt pt) X.env] := by rfl)
    (hn : (assignEach [.Name x px, .Name y py, .Name z pz] X.env).length = 3 := by rfl) (hst : (assignEach [.Name x px, .Name y py, .Name z pz] X.env).findIdx? (·.1) = none := by rfl)
    (s1 : (assignEach [.Name x px, .Name y py, .Name z pz] X.env).map (·.2) = assign (.Name x px) X.env :: (assignEach [.Name y py, .Name z pz] X.env).map (·.2) := by rfl) (s2 : (assignEach [.Name y py, .Name z pz] X.env).map (·.2) = assign (.Name y py) X.env :: (assignEach [.Name z pz] X.env).map (·.2) := by rfl)
    (s3 : (assignEach [.Name z pz] X.env).map (·.2) = assign (.Name z pz) X.env :: (assignEach [] X.env).map (·.2) := by rfl)
    (hf : X.fn x = true ∨ X.env.scope.names.lookup x = some .local := by first | exact .inl rfl | exact .inr rfl | assumption) (hf2 : X.fn y = true ∨ X.env.scope.names.lookup y = some .local := by first | exact .inl rfl | exact .inr rfl | assumption) (hf3 : X.fn z = true ∨ X.env.scope.names.lookup z = some .local := by first | exact .inl rfl | exact .inr rfl | assumption) :
    DS X c ds (.Assign [.Tuple [.Name x px, .Name y py, .Name z pz] kt pt] e pos) po :=
  ds_asgG (vs := [i, j, l]) (f := fun d => match d with | .lst [u, v, w] => ((ds.set i (.val u)).set j (.val v)).set l (.val w) | _ => ds) he (pg_lst hc (pgs_cons (pg_name hN hi hx hf) (pgs_cons (pg_name hN hj hy hf2) (pgs_cons (pg_name hN hl hz hf3) pgs_nil s3) s2) s1) hn hst)
    (fun d q => by
      obtain ⟨u, v, w, rfl, _⟩ := q
      exact gp_lst3 (by simp) (by simp) (by simp))
    (fun d q => by
      obtain ⟨u, v, w, rfl, pu, pv, pw⟩ := q
      exact h u v w pu pv pw) hs hw h0
/-- x op= e -/
theorem ds_aug {op : Operator} (hN : X.N.Nodup) (hi : X.N[i]? = some x) (hx : Loc X.env.scope x) (h : ds[i]? = some (.val a)) (he : DV X c ds e b) (ho : OpD X (inplaceOp op) c a b P) (hq : ∀ d, P d → po.nx (ds.set i (.val d)))
    (hf : X.fn x = true ∨ X.env.scope.names.lookup x = some .local := by first | exact .inl rfl | exact .inr rfl | assumption) : DS X c ds (.AugAssign (.Name x px) op e pos) po :=
  ds_of (L2.ps_aug hN hi hx he (ti := fun x y H Q => ∃ M, Ok c M H ∧ Is X.K (cut M H) x a ∧ Is X.K (cut M H) y b ∧ ∀ v d H', P d → Le c.z H H' → Is X.K (cut M H') v d → Q v H') ho hf) fun M ow σ H E D q1 q2 q3 q4 => by
    obtain ⟨v, ev, iv⟩ := E.val h
    refine ⟨v, ev, M, ow, E, fun u d H1 pd l1 i1 => ⟨M, (E.up l1).ok, iv.up (E.ok.cut l1), pd ▸ i1, fun w d2 H2 p2 l2 i2 => q1 _ _ _ H2 _ (hq d2 p2) ((E.up (l1.tr l2)).set i i2) (.of (l1.tr l2) E.ok)⟩⟩
/-- o += o2 -/
theorem o_iopSame {op : Operator} {C : Addr} {ns ns2 : List Str} {os os2 : List D} {pre : List D → Prop} {post : List D → D → Prop} {xs : List D → Value → Prop} {k : Nat} {E : XK} {cd : ClassData} (hadd : (op == .Add) = true) (hc : PySem.W.clsIn X.K C = some cd) (hm : cd.mro = [.ref C, .type "object"])
    (n1 : PySem.W.findIn X.K (.ref C) (dunderI op.info.2) = some none) (n2 : PySem.W.findIn X.K (.type "object") (dunderI op.info.2) = some none) (T : Mtd X.prog X.w X.K X.mg X.base k C (PySem.dunder op.info.2) (spD X.K false pre post xs)) (hr : Room k X.A) (hx : Passes (L2.CX X.prog X.w) X E)
    (hp : pre [.obj C ns os, .obj C ns2 os2]) (hq : ∀ d, post [.obj C ns os, .obj C ns2 os2] d → P d) (hE : ∀ cls H', xs [.obj C ns os, .obj C ns2 os2] cls → Le c.z c.H0 H' → E cls none H') : OpD X (inplaceOp op) c (.obj C ns os) (.obj C ns2 os2) P := by
  obtain ⟨f, fd, ps, cl, me, F, b'⟩ := T.ex
  refine opd_of (L2.iop_same hadd hc hm n1 n2 me F hr b' .nil hx) fun M H x y ok i1 i2 Q q => ?_
  obtain ⟨p, dx, fs, rfl, h1⟩ := obj_inv i1
  obtain ⟨p2, dx2, fs2, rfl, h2⟩ := obj_inv i2
  exact ⟨p, dx, fs, p2, dx2, fs2, rfl, h1, rfl, h2, spD_of ok (.cons i1 (.cons i2 .nil)) hp (fun a h => by cases h) (fun v d H' pd l i => q v d H' (hq d pd) l i) hE⟩
end
end Dt

set_option Elab.async false
set_option linter.all false
set_option maxRecDepth 100000
set_option maxHeartbeats 4000000
/-! defs that call makers of lambdas; unions of promises -/
namespace Dt
open PySem PyProof.Rows L2
section
variable {P : Program} {w : World} {K : PySem.W.Frag} {mg : Str → Option Value} {base : Heap} {x qual : Str} {params : Arguments} {body : List Stmt} {scope : Scope} {dvs : List V} {kws : List (Str × V)} {f : Addr} {fd : FuncData}
variable {N ps : List Str} {k : Nat} {dice : Bool} {pre : List D → Prop} {post : List D → D → Prop} {xs : List D → Value → Prop} {T : List (Addr × Str)}
/-- a def that has tables -/
theorem fn_dT (F : FunD K x qual params body scope dvs kws f fd) (S : FnScope N ps scope) (hl : ∀ as, pre as → as.length = ps.length)
    (hb : ∀ (c : Fx) (as : List D) (cdv : Value) (A : Around) (outer : List PySem.Env) (s : Shared) (E : XK), Room k (A.deeper (envOfC qual scope s.heap.objs.size f cdv)) → pre as → (∀ a ∈ zOf dice as, c.Di a) → c.z.tb = T →
      DSs (cxOf (L2.CX P w) P w K mg base N qual scope f cdv A outer s c.H0 E).nox c (startD N as) body ⟨fun _ => post as .non, post as, fun _ => False, fun _ => False⟩) :
    FnOk P w K mg base (L2.CX P w) (k + 1) f fd ps (spT K T dice pre post xs) := by
  refine F.ok S (fun vs H Q E ⟨c, as, _, _, hp, ia, _⟩ => by rw [ia.len, hl as hp]) fun cdv A outer s H vs Q E hr h => ?_
  obtain ⟨c, as, rfl, ⟨hz, hT⟩, hp, ia, q, _⟩ := h
  obtain ⟨t, h1, h2⟩ := body_of (K := K) rfl (hb c as cdv A outer s E hr hp hz hT) ia q
  exact ⟨t, h1.nox, h2⟩
theorem fnOk_union {I : Type} {CX : CXT} {sp : I → Sp} (F : ∀ i, FnOk P w K mg base CX k f fd ps (sp i)) : FnOk P w K mg base CX k f fd ps fun vs H Q E => ∃ i, sp i vs H Q E :=
  ⟨fun vs H Q E ⟨i, h⟩ => (F i).len vs H Q E h, fun A outer s H args us vs Q E hr e b r ⟨i, h⟩ => (F i).run A outer s H args us vs Q E hr e b r h⟩
theorem fnG_union {I : Type} {CX : CXT} {sp : I → Sp} (F : ∀ i, FnG P w K mg base CX k f fd ps (sp i)) : FnG P w K mg base CX k f fd ps fun vs H Q E => ∃ i, sp i vs H Q E :=
  ⟨fun vs H Q E ⟨i, h⟩ => (F i).len vs H Q E h, fun A outer s H args us vs Q E hr gd e b r ⟨i, h⟩ => (F i).run A outer s H args us vs Q E hr gd e b r h⟩
end
section
variable {X : Cx} {c : Fx} {ds : List Sl} {P : D → Prop} {e : Expr} {es : List Expr} {pos p : Pos} {x m : Str} {dice : Bool} {pre : List D → Prop} {post : List D → D → Prop} {j k : Nat} {Pa : List D → Prop} {T : List (Addr × Str)}
theorem de_callT (C : Dt.Cl X.prog X.w X.K X.mg X.base k x (spT X.K T dice pre post noX) []) (hr : Room j X.A) (hk : k ≤ j) (hg : Gl X x) (ha : DA X c ds (e :: es) Pa) (hp : ∀ as, Pa as → pre as) (hz : ∀ as, Pa as → ∀ a ∈ zOf dice as, c.Di a) (hq : ∀ as d, Pa as → post as d → P d) (hT : T = [] ∨ T = c.z.tb := by exact .inl rfl)
    (hdb : (x == ("__debug__" : Str)) = false := by decide) (he : starEach (e :: es) X.env = (false, eval e X.env) :: starEach es X.env := by rfl) (hpl : (backTo pos (starEach es X.env)).any (·.1) = false := by rfl) :
    DE X c ds (.Call (.Name x p) (e :: es) [] pos) P := by
  obtain ⟨f, fd, ps, dd, F, hm, kp, b, d⟩ := C.ex
  exact de_of (L2.pe_call (E := EF) F (hr.mono hk) hg hm kp b d passF ha hdb he hpl) fun M ow σ H E Q q => ⟨M, ow, E, fun vs as H1 pa l1 i1 => by
    show spT X.K T dice pre post noX (vs ++ []) H1 Q EF
    rw [List.append_nil]
    exact spD_of (E.up l1).ok i1 (hp as pa) (hz as pa) (fun v d H' pd l i => q v d H' (hq as d pa pd) (l1.tr l) i) (fun cls H' h l => h.elim) hT⟩
theorem dv_callT {as : List D} (C : Dt.Cl X.prog X.w X.K X.mg X.base k x (spT X.K T dice pre post noX) []) (hr : Room j X.A) (hk : k ≤ j) (hg : Gl X x) (ha : DL X c ds (e :: es) as) (hp : pre as) (hz : ∀ a ∈ zOf dice as, c.Di a) (hq : ∀ d, post as d → P d) (hT : T = [] ∨ T = c.z.tb := by exact .inl rfl)
    (hdb : (x == ("__debug__" : Str)) = false := by decide) (he : starEach (e :: es) X.env = (false, eval e X.env) :: starEach es X.env := by rfl) (hpl : (backTo pos (starEach es X.env)).any (·.1) = false := by rfl) :
    DE X c ds (.Call (.Name x p) (e :: es) [] pos) P :=
  de_callT C hr hk hg ha (fun _ z => by subst z; exact hp) (fun _ z => by subst z; exact hz) (fun _ d z => by subst z; exact hq d) hT hdb he hpl
end
end Dt

set_option Elab.async false
set_option linter.all false
set_option maxRecDepth 100000
set_option maxHeartbeats 4000000
/-! how long texts are; repr -/
namespace Dt
open PySem PyProof.Rows L2
/-- the codes of a text are codes -/
def okS (x : Str) : Prop := ∀ c ∈ x.cps.toList, c < 16 ^ 8
theorem okS_app {x y : Str} (h : okS x) (k : okS y) : okS (x ++ y) := fun c hc => by
  have e : (x ++ y).cps.toList = x.cps.toList ++ y.cps.toList := Array.toList_append
  rw [e] at hc
  exact (List.mem_append.mp hc).elim (h c) (k c)
theorem okS_of (s : String) : okS (Str.ofString s) := fun c hc => by
  rw [Str.ofString_eq_toList] at hc
  obtain ⟨ch, _, rfl⟩ := List.mem_map.mp hc
  have : ch.toNat < 0x110000 := by
    have := ch.valid
    rcases this with h | h
    · exact Nat.lt_trans h (by decide)
    · exact h.2
  exact Nat.lt_trans this (by decide)
theorem okS_join {s : Str} (h : okS s) : ∀ {ys : List Str}, (∀ y ∈ ys, okS y) → okS (Str.join s ys)
  | [], _ => fun c hc => by cases hc
  | [x], k => k x List.mem_cons_self
  | x :: y :: r, k => okS_app (okS_app (k x List.mem_cons_self) h) (okS_join h (ys := y :: r) fun z m => k z (List.mem_cons_of_mem _ m))
theorem okS_txt {s : Str} (h : okS s) {ys : List Str} (k : ∀ y ∈ ys, okS y) : okS (Txt.join s ys) := by
  show okS (Builtin.Str.glued s ys)
  rw [StrLaws.glued_eq_join]
  exact okS_join h k
theorem len_txt {s : Str} {ys : List Str} {n : Nat} (k : ∀ y ∈ ys, y.length ≤ n) : (Txt.join s ys).length ≤ ys.length * (n + s.length) := by
  show (Builtin.Str.glued s ys).length ≤ _
  rw [size_glued]
  have h : (ys.map (·.length)).sum ≤ ys.length * n := by
    induction ys with
    | nil => simp
    | cons y ys ih =>
      have h1 := k y List.mem_cons_self
      have h2 := ih fun z m => k z (List.mem_cons_of_mem _ m)
      rw [List.map_cons, List.sum_cons, List.length_cons, Nat.succ_mul]
      omega
  have h2 : (ys.length - 1) * s.length ≤ ys.length * s.length := Nat.mul_le_mul_right _ (Nat.sub_le _ _)
  rw [Nat.mul_add]
  omega
theorem len_int {i : Int} {k : Nat} (hk : 0 < k) (h : i.natAbs < 10 ^ k) : (toString i : Str).length ≤ k + 1 := by
  have := int_text_length_le10 hk h
  show (Str.ofString (toString i)).length ≤ _
  rw [PySem.ofString_length]
  exact this
/-! ### repr of data -/
structure Shw (n d : Nat) (p : PyData) : Prop where
  sh : p.showable = true
  nd : p.hasDict = false
  dp : p.depth ≤ d
  ln : p.shown.length ≤ n
theorem Shw.le {n d n' d' : Nat} {p : PyData} (h : Shw n d p) (a : n ≤ n') (b : d ≤ d') : Shw n' d' p := ⟨h.sh, h.nd, Nat.le_trans h.dp b, Nat.le_trans h.ln a⟩
theorem shw_int {i : Int} {k : Nat} (hk : 0 < k) (h : i.natAbs < 10 ^ k) (h2 : i.natAbs.log2 < 1920) : Shw (k + 1) 1 (.int i) :=
  ⟨by unfold PyData.showable; exact decide_eq_true h2, by unfold PyData.hasDict; rfl, by unfold PyData.depth; decide, by unfold PyData.shown; exact len_int hk h⟩
theorem shw_bl {b : Bool} : Shw 5 1 (.bool b) := ⟨by unfold PyData.showable; rfl, by unfold PyData.hasDict; rfl, by unfold PyData.depth; decide, by unfold PyData.shown; cases b <;> decide⟩
theorem shw_non : Shw 4 1 .none := ⟨by unfold PyData.showable; rfl, by unfold PyData.hasDict; rfl, by unfold PyData.depth; decide, by unfold PyData.shown; decide⟩
theorem shw_str {x : Str} (h : okS x) : Shw (10 * x.length + 2) 1 (.str x) := ⟨by unfold PyData.showable; rfl, by unfold PyData.hasDict; rfl, by unfold PyData.depth; decide, by unfold PyData.shown; exact StrLaws.reprText_len x h⟩
theorem shwAll {n d : Nat} : ∀ {xs : List PyData}, (∀ x ∈ xs, Shw n d x) → PyData.showableAll xs = true ∧ PyData.hasDictAll xs = false ∧ PyData.depthAll xs ≤ d ∧ (∀ t ∈ PyData.shownAll xs, t.length ≤ n) ∧ (PyData.shownAll xs).length = xs.length
  | [], _ => ⟨by unfold PyData.showableAll; rfl, by unfold PyData.hasDictAll; rfl, by unfold PyData.depthAll; exact Nat.zero_le _, fun t m => (by unfold PyData.shownAll at m; cases m), by unfold PyData.shownAll; rfl⟩
  | x :: xs, h => by
    obtain ⟨h1, h2, h3, h4⟩ := h x List.mem_cons_self
    obtain ⟨k1, k2, k3, k4, k5⟩ := shwAll fun y m => h y (List.mem_cons_of_mem _ m)
    refine ⟨by unfold PyData.showableAll; rw [h1, k1]; rfl, by unfold PyData.hasDictAll; rw [h2, k2]; rfl, by unfold PyData.depthAll; exact Nat.max_le.mpr ⟨h3, k3⟩, fun t m => ?_, by unfold PyData.shownAll; rw [List.length_cons, List.length_cons, k5]⟩
    unfold PyData.shownAll at m
    rcases List.mem_cons.mp m with rfl | m
    · exact h4
    · exact k4 t m
theorem len_from {n : Nat} : ∀ (ts : List Str) (k : Nat) (acc : Str), (∀ t ∈ ts, t.length ≤ n) → (textFrom k acc ts).length ≤ acc.length + ts.length * (n + 2)
  | [], k, acc, _ => by unfold textFrom; simp
  | t :: ts, k, acc, h => by
    have ih := len_from ts (k + 1) (acc ++ (if k > 0 then ", " else "" : String) ++ t) fun z m => h z (List.mem_cons_of_mem _ m)
    have h1 := h t List.mem_cons_self
    have h2 : (Str.ofString (if k > 0 then ", " else "" : String)).length ≤ 2 := by split <;> decide
    rw [Str.length_append, Str.length_append] at ih
    unfold textFrom
    rw [List.length_cons, Nat.succ_mul]
    omega
theorem len_list {n : Nat} {ts : List Str} (h : ∀ t ∈ ts, t.length ≤ n) : (listText ts).length ≤ ts.length * (n + 2) + 2 := by
  unfold listText
  rw [Str.length_append]
  have h1 := len_from (n := n) ts 0 "[" h
  have h2 : ("[" : Str).length = 1 := by decide
  have h3 : ("]" : Str).length = 1 := by decide
  omega
theorem len_tup {n : Nat} {ts : List Str} (h : ∀ t ∈ ts, t.length ≤ n) : (tupleText ts).length ≤ ts.length * (n + 2) + 3 := by
  unfold tupleText
  rw [Str.length_append, Str.length_append]
  have h1 : (Str.join ", " ts).length ≤ ts.length * (n + 2) := by
    have e := len_txt (s := ", ") (ys := ts) h
    have e2 : (Txt.join ", " ts) = Str.join ", " ts := by
      show Builtin.Str.glued ", " ts = _
      rw [StrLaws.glued_eq_join]
    rw [e2] at e
    exact e
  have h2 : ("(" : Str).length = 1 := by decide
  have h3 : (Str.ofString (if (ts.length == 1) = true then ",)" else ")" : String)).length ≤ 2 := by split <;> decide
  omega
theorem shw_list {n d : Nat} {xs : List PyData} (h : ∀ x ∈ xs, Shw n d x) : Shw (xs.length * (n + 2) + 2) (d + 1) (.list xs) := by
  obtain ⟨k1, k2, k3, k4, k5⟩ := shwAll h
  exact ⟨by unfold PyData.showable; exact k1, by unfold PyData.hasDict; exact k2, by unfold PyData.depth; exact Nat.succ_le_succ k3, by unfold PyData.shown; rw [← k5]; exact len_list k4⟩
theorem shw_tup {n d : Nat} {xs : List PyData} (h : ∀ x ∈ xs, Shw n d x) : Shw (xs.length * (n + 2) + 3) (d + 1) (.tuple xs) := by
  obtain ⟨k1, k2, k3, k4, k5⟩ := shwAll h
  exact ⟨by unfold PyData.showable; exact k1, by unfold PyData.hasDict; exact k2, by unfold PyData.depth; exact Nat.succ_le_succ k3, by unfold PyData.shown; rw [← k5]; exact len_tup k4⟩
section
variable {X : Cx} {c : Fx} {n d : Nat} {p : PyData} {x : D}
theorem c_reprW (h : Shw n d p) (hd : d ≤ 60) (hn : n ≤ 16777216) (hg : X.A.guards = some []) (hu : X.A.units + 64 < cLine) (hr : x.ref = true) (hp : x.py = some p) : CallD X (.builtin "repr") c [x] (· = .str p.shown) :=
  c_repr hg hu hr hp h.sh h.nd (Nat.le_trans h.dp hd) (by rw [sizeLine_eq]; exact Nat.le_trans h.ln hn)
theorem c_strW (h : Shw n d p) (hd : d ≤ 60) (hn : n ≤ 16777216) (hg : X.A.guards = some []) (hu : X.A.units + 64 < cLine) (hr : x.ref = true) (hp : x.py = some p) : CallD X (.type "str") c [x] (· = .str p.shown) :=
  c_strD hg hu hr hp h.sh h.nd (Nat.le_trans h.dp hd) (by rw [sizeLine_eq]; exact Nat.le_trans h.ln hn)
end
end Dt

set_option Elab.async false
set_option linter.all false
set_option maxRecDepth 100000
set_option maxHeartbeats 4000000
/-! d.clear() with tuple keys -/
namespace L2
open PySem PySem.Spec PyProof.Rows
section
variable {prog : Program} {w : World} {d : Addr}
theorem meets_clearT : MeetsIn prog w (Builtin.«dict.clear» ⟨[.ref d], []⟩) (fun _ R s => ∃ o es ep, s.heap.get? d = some o ∧ o.ExactDict ∧ o.data = .dict es ep ∧ es.size ≤ sizeLine ∧
    ∀ h' o' ep', h'.get? d = some o' → o'.ExactDict → o'.data = .dict #[] ep' → Heap.SameBut d s.heap h' → R (.ok (.ret .none)) { s with heap := h' }) :=
  .of_wp fun A R s ⟨o, es, ep, ho, hc, hdat, hes, h⟩ => by
    unfold Builtin.«dict.clear»
    refine wpAny_bind ?_
    unfold Builtin.Dict.noArgs
    refine wpAny_bind (wpAny_notOrdered_dict ⟨o, ho, hc.1⟩ ?_)
    show wpAny _ _ (pure d) _ _ s
    refine wpAny_pure ?_
    refine wpAny_bind (wpAny_dictEntries ho hdat ?_)
    refine wpAny_bind ?_
    unfold bearsInstanceDictMark
    refine wpAny_bind (wpAny_load ho (wpAny_pure ?_))
    refine wpAny_bind (wpAny_updateDictKeys (hz := hes) ho hdat ?_)
    have k := h (s.heap.update d (Obj.mapDictKeys fun _ => #[])) _ (ep + 1) (Heap.get?_update_self _ ho (Obj.isFreed_of_dict (Obj.data_mapDictKeys hdat _))) (hc.mapDictKeys _) (Obj.data_mapDictKeys hdat _) (Heap.SameBut.update ..)
    split
    · exact wpAny_bind (wpAny_letGo (wpAny_pure ⟨.none, rfl, k⟩))
    · exact wpAny_bind (wpAny_pure (wpAny_pure ⟨.none, rfl, k⟩))
end
def rDClearT : V → List V → Hp → VK → Prop := fun x vs H Q => ∃ (a : Addr) (kvs : List (List Key × V)), x = .ref a ∧ vs = [] ∧ H a = some (.dT kvs) ∧ Q .non (upd H a (.dT []))
theorem mtd_clearT {X : Cx} : MtR X "dict.clear" rDClearT := by
  intro pins s σ H x vs v us Q I rx rv h
  obtain ⟨a, kvs, ex, ev, e, q⟩ := h
  subst ex
  subst ev
  obtain rfl : v = Value.ref a := rx
  have hus := rv.zero
  subst hus
  obtain ⟨z, hS, xs, pr, o, es, ep, ho, hx, hdt, he, hn⟩ := (show ObjOk X.prog X.w H s.heap a (.dT kvs) from I.hok a _ e)
  have hsz : es.size ≤ sizeLine := by
    have l1 : es.size = xs.length := size_of_entries he
    have l2 : kvs.length = xs.length := Paired.length pr
    omega
  refine call_meetsIn PySem.F.slot_dict_clear ⟨o, ho, hx.1⟩ PySem.F.entry_dict_clear (PySem.F.args_dict_clear_1 _) meets_clearT ⟨o, es, ep, ho, hx, hdt, hsz, fun h' o' ep' g1 g2 g3 hs => ?_⟩
  have new : ObjOk X.prog X.w (upd H a (.dT [])) h' a (.dT []) := ⟨Nat.zero_le _, hS, [], .nil, o', #[], ep', g1, g2, g3, rfl, .nil⟩
  exact ⟨.non, _, d_write (t' := s.toks) I (by rw [e]; exact True.intro) hs ⟨o', g1⟩ new, rfl, q⟩
theorem pe_dclearT {X : Cx} {o : Expr} {to : TE} {apos cpos : Pos} (ho : PE X o to) (hbase : attributeBase o "clear" X.env (eval o X.env) = eval o X.env := by rfl) (hline : (apos.endLine == cpos.line) = true := by rfl) : PE X (.Call (.Attribute o "clear" apos) [] [] cpos) (tBM0 X.K "dict" rDClearT to) :=
  pe_bm0 PySem.F.plainAttrs_dict PySem.F.slot_dict_clear PySem.F.type_dict_clear mtd_clearT ho hbase hline
end L2
namespace Dt
open PySem PyProof.Rows L2
section
variable {X : Cx} {c : Fx} {ds : List Sl} {po : Po} {x y : Str} {i j : Nat} {tp py spos pos : Pos} {ks : List (List L2.Key)} {es os : List D}
/-- own.clear() -/
theorem ds_dclear {pn apos cpos : Pos} (hN : X.N[i]? = some x) (hv : L2.Vis X.env.scope x) (h : ds[i]? = some (.dic ks es)) (hq : po.nx (ds.set i (.dic [] []))) (hbase : attributeBase (.Name x pn) "clear" X.env (eval (.Name x pn) X.env) = eval (.Name x pn) X.env := by rfl)
    (hline : (apos.endLine == cpos.line) = true := by rfl) (hsw : swapsWith (.Call (.Attribute (.Name x pn) "clear" apos) [] [] cpos) none pos.line X.env = pure false := by rfl) (hd : (x == ("__debug__" : Str)) = false := by decide) (hcd : (x == ("__classdict__" : Str)) = false := by decide) :
    DS X c ds (.Expr (.Call (.Attribute (.Name x pn) "clear" apos) [] [] cpos) pos) po :=
  ds_of (L2.ps_expr (L2.pe_dclearT (L2.pe_var (i := i) hN hv hd hcd) hbase hline) hsw) fun M ow σ H E D q1 q2 q3 q4 => by
    obtain ⟨e1, m, n, vs, hp, hl, hn, ia⟩ := E.at_ i _ h
    refine ⟨_, e1, .inr (.inr (.inl ⟨rfl, .inr ⟨_, hp⟩⟩)), ow i, _, rfl, rfl, hp, ?_⟩
    exact q1 _ _ _ _ _ hq (E.write h rfl (fun xs z => by cases z) ⟨rfl, m, n, [], upd_same, rfl, .nil, .nil⟩) (kp_own E (.rfl') m)
/-- a new dict of pairs -/
theorem dn_dictP {p : Pos} {ee : Expr} {ps : List (List L2.Key × D)} (hg : Gl X "dict") (hm : X.mg "dict" = none) (hc : X.calm = true) (hu : X.A.units + 2 < cLine) (hn : (ps.map (·.1)).Nodup) (ha : DV X c ds ee (.lst (ps.map pairD))) (he : starEach [ee] X.env = (false, eval ee X.env) :: starEach [] X.env := by rfl)
    (hpl : (backTo pos (starEach [] X.env)).any (·.1) = false := by rfl) : DNV X c ds (.Call (.Name "dict" p) [ee] [] pos) (.dic (ps.map (·.1)) (ps.map (·.2))) :=
  dn_of (L2.pe_callTy (L2.call_dictPT hc hu) hg hm rfl (L2.pa_cons ha L2.pa_nil he) (by decide) (by decide) he hpl) fun M ow σ H E Q q => ⟨M, ow, E, fun v d H1 pd l1 i1 => by
    subst pd
    have E1 := E.up l1
    obtain ⟨p, vs, rfl, hl, ia⟩ := i1.lst_inv
    obtain ⟨as, ws, rfl, iw, pr⟩ := pairs_inv (cut_sub (M := M) (H := H1)) ia
    obtain ⟨us, e1, e2, e3, e4⟩ := merge_zip (ks := []) (vs := []) (es := []) iw rfl .nil .nil
    refine ⟨p, as, _, rfl, .inl (.inl (cut_at hl).1), pr, fun p' hp => ?_⟩
    have e1 : mergeT [] ((ps.map (·.1)).zip ws) = _ := e1
    rw [e1]
    have em : mergeD ps ([], []) = (ps.map (·.1), ps.map (·.2)) := by rw [mergeD_new ps [] [] (by simpa using hn)]; rfl
    rw [em] at e1 e2 e3 e4
    rw [em]
    have h0 : H p' = none := by
      cases e : H p' with
      | none => rfl
      | some o =>
        by_cases z : p' ∈ c.z
        · exact absurd hp ((l1.zok E.ok.zok).num z)
        · rw [l1.keep p' o z e] at hp
          cases hp
    exact q p' _ _ _ rfl (l1.tr (.new hp)) h0 upd_same (fun xs z => by cases z) ⟨rfl, List.mem_cons_self, E.ok.none0 h0, us, upd_same, e2, e3, e4.up (E1.ok.subNew (.new hp) hp)⟩⟩
/-- {k: v for x in ..} as a new dict -/
theorem dn_dcA {iter kx vx : Expr} {scope : Scope} {α : Type} {as : List α} {kf0 : α → D} {kf : α → List L2.Key} {vf : α → D} (inj : ∀ a b, kf0 a = kf0 b → a = b) (hu : X.A.units < cLine) (hc : X.calm = true) (hN : X.N.Nodup) (hi : X.N[i]? = some x) (it : DI X c ds (.Name x tp) iter (· = as.map kf0)) (ok : L2.blkC X.N X.env.scope scope [(x, i)] = true) (hl : scope.names.lookup x = some .local)
    (hk : ∀ a, a ∈ as → Bk X scope fun Y => DV Y c ((wipeD ds [i]).set i (.val (kf0 a))) kx (kD (kf a))) (he : ∀ a, a ∈ as → Bk X scope fun Y => DV Y c ((wipeD ds [i]).set i (.val (kf0 a))) vx (vf a)) (hn : (as.map kf).Nodup) (hz : as.length ≤ sizeLine) (hs : ∀ x, foldedSetIterable iter X.env x = pure x := by intro _; rfl) :
    DNV X c ds (.DictComp kx vx [⟨.Name x tp, iter, [], 0⟩] scope pos) (.dic (as.map kf) (as.map vf)) := by
  have e : mergeD ((as.map kf0).map fun d => (via kf0 kf [] d, via kf0 vf .non d)) ([], []) = (as.map kf, as.map vf) := by
    have e : (as.map kf0).map (fun d => (via kf0 kf [] d, via kf0 vf .non d)) = as.map fun a => (kf a, vf a) := by
      rw [List.map_map]
      exact List.map_congr_left fun a _ => by show (via kf0 kf [] (kf0 a), via kf0 vf .non (kf0 a)) = _; rw [via_at inj, via_at inj]
    rw [e, mergeD_new _ [] [] (by rw [List.map_map]; exact hn), List.map_map, List.map_map]
    rfl
  have g := dn_dc (X := X) (c := c) (ds := ds) (kx := kx) (vx := vx) (tg := .Name x tp) (iter := iter) (scope := scope) (pos := pos) (own := [(x, i)]) (its := as.map kf0) (kf := via kf0 kf []) (vf := via kf0 vf .non) (f := fun d => (wipeD ds [i]).set i (.val d)) hu hc hN it (L2.blkOk_by ok) (pg_name1 hN hi hl) (fun d _ => gp_name (by simp)) (fun d m s H C cl fp => by
    obtain ⟨a, ha, rfl⟩ := List.mem_map.mp m
    rw [via_at inj]
    exact hk a ha s H C cl fp) (fun d m s H C cl fp => by
    obtain ⟨a, ha, rfl⟩ := List.mem_map.mp m
    rw [via_at inj]
    exact he a ha s H C cl fp) (by rw [List.length_map]; exact hz) hs
  rw [e] at g
  exact g
end
/-! ### data in which no dict stands -/
mutual
def D.nod : D → Bool
  | .non | .bl _ | .int _ | .str _ | .ty _ | .adr _ => true
  | .tup xs => D.nodAll xs
  | .lst xs => D.nodAll xs
  | .scr _ | .dic _ _ | .dck _ _ | .ist _ _ | .mix _ | .obj _ _ _ => false
def D.nodAll : List D → Bool
  | [] => true
  | d :: ds => d.nod && D.nodAll ds
end
section
variable {K : PySem.W.Frag} {M : List Addr} {H : Hp} {g : Addr} {kvs : List (List L2.Key × V)}
theorem cut_hide {a : Addr} {o : HO} (hg : H g = some (.dT kvs)) (n : ∀ z, o ≠ .dT z) (h : cut M H a = some o) : cut (g :: M) H a = some o := by
  obtain ⟨e1, e2⟩ := cut_at h
  refine cut_of e1 fun m => ?_
  rcases List.mem_cons.mp m with rfl | m
  · rw [hg] at e1
    cases e1
    exact n _ rfl
  · exact e2 m
mutual
theorem Is.hide (hg : H g = some (.dT kvs)) : ∀ {v : V} {d : D}, Is K (cut M H) v d → d.nod = true → Is K (cut (g :: M) H) v d
  | _, _, .non, _ => .non
  | _, _, .bl, _ => .bl
  | _, _, .int, _ => .int
  | _, _, .str, _ => .str
  | _, _, .ty, _ => .ty
  | _, _, .adr, _ => .adr
  | _, _, .tup h a, e => .tup (cut_hide hg (fun _ z => by cases z) h) (IsAll.hide hg a e)
  | _, _, .lst h a, e => .lst (cut_hide hg (fun _ z => by cases z) h) (IsAll.hide hg a e)
  | _, _, .scr .., e => by cases e
  | _, _, .dic .., e => by cases e
  | _, _, .dck .., e => by cases e
  | _, _, .ist .., e => by cases e
  | _, _, .mix .., e => by cases e
  | _, _, .obj .., e => by cases e
theorem IsAll.hide (hg : H g = some (.dT kvs)) : ∀ {vs : List V} {ds : List D}, IsAll K (cut M H) vs ds → D.nodAll ds = true → IsAll K (cut (g :: M) H) vs ds
  | _, _, .nil, _ => .nil
  | _, _, .cons h t, e => by
    unfold D.nodAll at e
    obtain ⟨e1, e2⟩ := Bool.and_eq_true_iff.mp e
    exact .cons (Is.hide hg h e1) (IsAll.hide hg t e2)
end
end
/-! ### an __init__ whose instance knows nothing of the dict at hand -/
def tF (K : PySem.W.Frag) (c : Fx) (ds : List Sl) (N : Hp → Prop) : TS := fun D σ H => ∃ M ow, Env K c M ow σ H ds ∧ ∀ σ' H', Le c.z c.H0 H' → N H' → D.nx σ' H'
def DSsF (X : Cx) (c : Fx) (ds : List Sl) (st : List Stmt) (N : Hp → Prop) : Prop := PSs X st (tF X.K c ds N)
section
variable {X : Cx} {c : Fx} {ds : List Sl} {N : Hp → Prop} {st : Stmt} {r : List Stmt}
theorem dsF_cons {N1 : List Sl → Prop} (h1 : DS X c ds st ⟨N1, fun _ => False, fun _ => False, fun _ => False⟩) (h2 : ∀ ds', N1 ds' → DSsF X c ds' r N) : DSsF X c ds (st :: r) N := by
  have g2 : PSs X r fun D σ H => ∃ ds', N1 ds' ∧ tF X.K c ds' N D σ H := ⟨fun pins s σ H D I ⟨ds', n, h⟩ => (h2 ds' n).run pins s σ H D I h⟩
  exact ⟨fun pins s σ H D I ⟨M, ow, E, q⟩ => (pss_cons h1 g2).run pins s σ H D I ⟨M, ow, E, fun M' ow' σ' H' ds' n E' k => ⟨ds', n, M', ow', E', q⟩, fun _ _ _ z => z.elim, fun _ _ _ _ _ z => z.elim, fun _ _ _ _ _ z => z.elim⟩⟩
theorem dsF_to {ds' : List Sl} (h1 : DS X c ds st ⟨(· = ds'), fun _ => False, fun _ => False, fun _ => False⟩) (h2 : DSsF X c ds' r N) : DSsF X c ds (st :: r) N := dsF_cons h1 fun _ e => by subst e; exact h2
/-- self.f = a new dict, the last statement -/
theorem dsF_fldDict {x0 C : Addr} {ns : List Str} {f : Str} {i : Nat} {x : Str} {px pt pos : Pos} {ee : Expr} {es os : List D} {ks : List (List L2.Key)} (hN : X.N[i]? = some x) (hv : Vis X.env.scope x) (h : ds[i]? = some (.obj x0 C ns es)) (he : DNV X c ds ee (.dic ks os)) (ne : D.nodAll es = true) (no : D.nodAll os = true)
    (cl : Cls X.K C) (na : NoAttr X.K C f) (hf : f ∉ ns) (hz : ns.length < 1000) (hs : swapsWith ee (some (.Attribute (.Name x px) f pt)) pos.line X.env = pure false := by rfl) (h1 : (x == ("__debug__" : Str)) = false := by decide) (h2 : (x == ("__classdict__" : Str)) = false := by decide) :
    DSsF X c ds [.Assign [.Attribute (.Name x px) f pt] ee pos] fun H => ∀ g kvs, c.H0 g = some (.dT kvs) → g ∉ c.z → Is X.K (cut (g :: c.B) H) (.ref x0) (.obj C (ns ++ [f]) (es ++ [.dic ks os])) := by
  refine ⟨fun pins s σ H D I ⟨M, ow, E, q⟩ => (pss_one (L2.ps_fld (pe_var hN hv h1 h2) he hs)).run pins s σ H D I ⟨M, ow, E, fun p o sl H1 ps l1 hp0 hp no' sk => ?_⟩⟩
  subst ps
  obtain ⟨_, _, np, us, hpd, hlu, hnd, iu⟩ := sk
  obtain ⟨e1, m, n, ex, dx, vs, hx, hn, ia⟩ := (E.up l1).at_ i _ h
  refine ⟨_, (E.at_ i _ h).1, ow i, C, dx, _, rfl, hx, cl, na, by rw [List.length_zip, ← hn, Nat.min_self]; exact hz, ?_⟩
  rw [putF_zip hn hf]
  have le2 : Le c.z c.H0 (upd H1 (ow i) (.ins C dx ((ns ++ [f]).zip (vs ++ [.ref p])))) := (E.up l1).ok.le.mut n (.at hx rfl)
  refine q _ _ le2 fun g kvs hg nz => ?_
  have hg2 := le2.keep g _ nz hg
  have xg : ow i ≠ g := fun z => by rw [z, hg] at n; cases n
  have pg : p ≠ g := fun z => by rw [z, hg] at np; cases np
  have px : p ≠ ow i := fun z => by rw [z, hx] at hpd; cases hpd
  rw [← ex]
  have sb : ∀ {M' : List Addr}, ow i ∈ M' → (∀ a ∈ c.B, a ∈ M') → Sub (cut M' H1) (cut c.B (upd H1 (ow i) (.ins C dx ((ns ++ [f]).zip (vs ++ [.ref p]))))) := fun mo mb a o e => by
    obtain ⟨q1, q2⟩ := cut_at e
    refine cut_of ?_ fun z => q2 (mb a z)
    rw [upd_ne fun z => q2 (by rw [z]; exact mo)]
    exact q1
  have bM := E.ok.bM
  refine .obj (cut_of upd_same fun z => ?_) (by simp [hn]) (IsAll.app ((ia.up (sb m bM)).hide hg2 ne) (.cons (.dic (.inl (cut_of ?_ fun z => ?_)) hlu hnd ((iu.up (sb (List.mem_cons_of_mem _ m) fun a ma => List.mem_cons_of_mem _ (bM a ma))).hide hg2 no)) .nil))
  · rcases List.mem_cons.mp z with z | z
    · exact xg z
    · exact own_B n z
  · rw [upd_ne px]
    exact hpd
  · rcases List.mem_cons.mp z with z | z
    · exact pg z
    · exact own_B np z
end
def spIh (K : PySem.W.Frag) (C : Addr) (pre : List D → Prop) (post : List D → D → Prop) : Sp := fun vs H Q E => ∃ (c : Fx) (as : List D) (x dx : Addr) (ws : List V) (g : Addr) (kvs : List (List L2.Key × V)), vs = .ref x :: ws ∧ H = upd (upd c.H0 dx (.own x)) x (.ins C dx []) ∧ c.H0 x = none ∧ c.H0 dx = none ∧ dx ≠ x ∧ c.z = ⟨[], []⟩ ∧ pre as ∧ IsAll K (cut c.B c.H0) ws as ∧
  c.H0 g = some (.dT kvs) ∧ (∀ d H', post as d → Le c.z c.H0 H' → Is K (cut (g :: c.B) H') (.ref x) d → Q .non H')
section
variable {Pr : Program} {w : World} {K : PySem.W.Frag} {mg : Str → Option Value} {base : Heap} {x qual : Str} {params : Arguments} {body : List Stmt} {scope : Scope} {dvs : List V} {kws : List (Str × V)} {f C : Addr} {fd : FuncData}
variable {N ps : List Str} {k : Nat} {pre : List D → Prop} {post : List D → D → Prop}
theorem fn_iH (F : FunD K x qual params body scope dvs kws f fd) (S : FnScope N ps scope) (hl : ∀ as, pre as → as.length + 1 = ps.length)
    (hb : ∀ (x0 : Addr) (c : Fx) (as : List D) (cdv : Value) (A : Around) (outer : List PySem.Env) (s : Shared) (H : Hp) (E : XK), Room k (A.deeper (envOfC qual scope s.heap.objs.size f cdv)) → pre as → c.z = ⟨[], []⟩ →
      DSsF (cxOf (L2.CX Pr w) Pr w K mg base N qual scope f cdv A outer s H E) c (startI N x0 C as) body fun H' => ∀ g kvs, c.H0 g = some (.dT kvs) → g ∉ c.z → ∃ d, post as d ∧ Is K (cut (g :: c.B) H') (.ref x0) d) :
    FnOk Pr w K mg base (L2.CX Pr w) (k + 1) f fd ps (spIh K C pre post) := by
  refine F.ok S (fun vs H Q E h => ?_) fun cdv A outer s H vs Q E hr h => ?_
  · obtain ⟨c, as, x, dx, ws, g, kvs, rfl, _, _, _, _, _, hp, ia, _⟩ := h
    rw [List.length_cons, ia.len, hl as hp]
  · obtain ⟨c, as, x, dx, ws, g, kvs, rfl, hH, h1, h2, h3, hz, hp, ia, hg, q⟩ := h
    refine ⟨_, hb x c as cdv A outer s H E hr hp hz, x :: c.B, fun _ => x, startI_env (hl as hp) hH h1 h2 h3 ia, fun σ' H' l n => ?_⟩
    obtain ⟨d, pd, i⟩ := n g kvs hg (by rw [hz]; exact fun m => no_mem m)
    exact q d H' pd l i
end
section
variable {X : Cx} {c : Fx} {ds : List Sl} {P : D → Prop} {pos p gp : Pos} {x y : Str} {C : Addr} {pre : List D → Prop} {post : List D → D → Prop} {j k i : Nat} {ks : List (List L2.Key)} {es : List D}
/-- C(own), own a dict that only this slot knows -/
theorem de_makeH (T : Mkr X.prog X.w X.K X.mg X.base k x C (spIh X.K C pre post) []) (hr : Room j X.A) (hk : k + 1 ≤ j) (hg : Gl X x) (hN : X.N[i]? = some y) (hv : Vis X.env.scope y) (h : ds[i]? = some (.dic ks es)) (hp : pre [.dic ks es]) (hq : ∀ d, post [.dic ks es] d → P d)
    (hdb : (x == ("__debug__" : Str)) = false := by decide) (h1 : (y == ("__debug__" : Str)) = false := by decide) (h2 : (y == ("__classdict__" : Str)) = false := by decide) (he : starEach [.Name y gp] X.env = (false, eval (.Name y gp) X.env) :: starEach [] X.env := by rfl) (hpl : (backTo pos (starEach [] X.env)).any (·.1) = false := by rfl) :
    DE X c ds (.Call (.Name x p) [.Name y gp] [] pos) P := by
  obtain ⟨f, fd, ps, dd, M0, F, hm, b, d⟩ := T.ex
  cases d
  refine de_of (L2.pe_make (E := EF) M0 F (hr.mono hk) hg hm b .nil passF (L2.pa_cons (pe_var hN hv h1 h2) L2.pa_nil he) hdb he hpl) fun M ow σ H E Q q => ?_
  obtain ⟨e1, m, n, us, hp', hl, hn, ia⟩ := E.at_ i _ h
  refine ⟨_, e1, fun a dx n1 n2 n3 => ?_⟩
  have E2 := E.freeze h rfl
  have iv : Is X.K (cut (M.filter (· ≠ ow i)) H) (.ref (ow i)) (.dic ks es) := by
    have li : i < ds.length := (List.getElem?_eq_some_iff.mp h).1
    obtain ⟨v, ev, iv⟩ := E2.val (i := i) (d := .dic ks es) (by rw [List.getElem?_set_self li]; rfl)
    rw [e1] at ev
    cases ev
    exact iv
  refine ⟨E2.ok.fx ⟨[], []⟩ (fun a m => no_mem m) zok0, [.dic ks es], a, dx, [.ref (ow i)], ow i, _, rfl, rfl, n1, n2, n3, rfl, hp, .cons iv .nil, hp', fun d H' pd l i2 => ⟨rfl, q _ d H' (hq d pd) (l.up (fun a m => by cases m) (.inl rfl) zok0) (i2.up (cut_less fun a ma => ?_))⟩⟩
  by_cases z : a = ow i
  · rw [z]
    exact List.mem_cons_self
  · exact List.mem_cons_of_mem _ (List.mem_filter.mpr ⟨ma, decide_eq_true z⟩)
end
end Dt

set_option Elab.async false
set_option linter.all false
set_option maxRecDepth 100000
set_option maxHeartbeats 4000000
/-! more rules for what is drawn -/
namespace Dt
open PySem PyProof.Rows L2
theorem Cm.none {Pe : D → D → Prop} : ∀ {es rs : List D}, Cm (fun _ b => b = false) Pe es rs → rs = []
  | _, _, .nil => rfl
  | _, _, .skip _ b => Cm.none b
  | _, _, .take a _ _ => by cases a
section
variable {X : Cx} {c : Fx} {ds : List Sl} {po : Po} {x y : Str} {i j l : Nat} {tp py px pz spos pos : Pos} {elt iter ct : Expr} {scope : Scope}
/-- a new dict of drawn pairs -/
theorem dn_dictE {p : Pos} {ee : Expr} {Ps : List (List L2.Key × D) → Prop} (hg : Gl X "dict") (hm : X.mg "dict" = none) (hc : X.calm = true) (hu : X.A.units + 2 < cLine) (hn : ∀ ps, Ps ps → (ps.map (·.1)).Nodup) (ha : DE X c ds ee fun d => ∃ ps, Ps ps ∧ d = .lst (ps.map pairD)) (he : starEach [ee] X.env = (false, eval ee X.env) :: starEach [] X.env := by rfl)
    (hpl : (backTo pos (starEach [] X.env)).any (·.1) = false := by rfl) : DN X c ds (.Call (.Name "dict" p) [ee] [] pos) fun s => ∃ ps, Ps ps ∧ s = .dic (ps.map (·.1)) (ps.map (·.2)) :=
  dn_of (L2.pe_callTy (L2.call_dictPT hc hu) hg hm rfl (L2.pa_cons ha L2.pa_nil he) (by decide) (by decide) he hpl) fun M ow σ H E Q q => ⟨M, ow, E, fun v d H1 pd l1 i1 => by
    obtain ⟨ps, pps, rfl⟩ := pd
    have E1 := E.up l1
    obtain ⟨p, vs, rfl, hl, ia⟩ := i1.lst_inv
    obtain ⟨as, ws, rfl, iw, pr⟩ := pairs_inv (cut_sub (M := M) (H := H1)) ia
    obtain ⟨us, e1, e2, e3, e4⟩ := merge_zip (ks := []) (vs := []) (es := []) iw rfl .nil .nil
    refine ⟨p, as, _, rfl, .inl (.inl (cut_at hl).1), pr, fun p' hp => ?_⟩
    have e1 : mergeT [] ((ps.map (·.1)).zip ws) = _ := e1
    rw [e1]
    have em : mergeD ps ([], []) = (ps.map (·.1), ps.map (·.2)) := by rw [mergeD_new ps [] [] (by simpa using hn ps pps)]; rfl
    rw [em] at e1 e2 e3 e4
    rw [em]
    have h0 : H p' = none := by
      cases e : H p' with
      | none => rfl
      | some o =>
        by_cases z : p' ∈ c.z
        · exact absurd hp ((l1.zok E.ok.zok).num z)
        · rw [l1.keep p' o z e] at hp
          cases hp
    exact q p' _ _ _ ⟨ps, pps, rfl⟩ (l1.tr (.new hp)) h0 upd_same (fun xs z => by cases z) ⟨rfl, List.mem_cons_self, E.ok.none0 h0, us, upd_same, e2, e3, e4.up (E1.ok.subNew (.new hp) hp)⟩⟩
/-- [.. for x in es if t], t never so -/
theorem dv_filterNo {Ps : List D → Prop} (hc : X.calm = true) (hN : X.N.Nodup) (hi : X.N[i]? = some x) (it : DI X c ds (.Name x tp) iter Ps) (ok : L2.blkC X.N X.env.scope scope [(x, i)] = true) (hl : scope.names.lookup x = some .local)
    (ht : ∀ es d, Ps es → d ∈ es → Bk X scope fun Y => DB Y c ((wipeD ds [i]).set i (.val d)) ct false) (he : ∀ d, Bk X scope fun Y => DE Y c ((wipeD ds [i]).set i (.val d)) elt fun _ => True) (hz : ∀ es, Ps es → es.length ≤ sizeLine) (hs : ∀ x, foldedSetIterable iter X.env x = pure x := by intro _; rfl) :
    DV X c ds (.ListComp elt [⟨.Name x tp, iter, [ct], 0⟩] scope pos) (.lst []) :=
  (de_lc (own := [(x, i)]) (f := fun d => (wipeD ds [i]).set i (.val d)) (Pt := fun _ b => b = false) (Pe := fun _ _ => True) hc hN it (L2.blkOk_by ok) (pg_name1 hN hi hl) (fun _ d e m => gp_name (by simp)) (fun es d e m s H C cl fp => dts_one (ht es d e m s H C cl fp)) (fun es d e m z s H C cl fp => he d s H C cl fp) hz hs).imp fun d ⟨es', rs, e1, e2, cm⟩ => by
    rw [e1, cm.none]
/-- name = [.. for x, y in ..] on one line -/
theorem ds_setMapP {α : Type} {as : List α} {f1 f2 : α → D} {r : α → D} {z : Str} {kk : Nat} (inj : ∀ a b, D.tup [f1 a, f2 a] = D.tup [f1 b, f2 b] → a = b) (hz : X.N[l]? = some z) (hzl : X.env.scope.names.lookup z = some .local) (hsw : swapsWith (.ListComp elt [⟨.Tuple [.Name x px, .Name y py] kk tp, iter, [], 0⟩] scope pos) (some (.Name z pz)) spos.line X.env = pure true)
    (hc : X.calm = true) (hN : X.N.Nodup) (hi : X.N[i]? = some x) (hj : X.N[j]? = some y) (it : DI X c ds (.Tuple [.Name x px, .Name y py] kk tp) iter (· = as.map fun a => .tup [f1 a, f2 a])) (ok : L2.blkC X.N X.env.scope scope [(x, i), (y, j)] = true) (hl1 : scope.names.lookup x = some .local) (hl2 : scope.names.lookup y = some .local)
    (he : ∀ a, a ∈ as → Bk X scope fun Y => DV Y c (((wipeD ds [i, j]).set i (.val (f1 a))).set j (.val (f2 a))) elt (r a)) (hsz : as.length ≤ sizeLine) (h : po.nx (ds.set l (.val (.lst (as.map r))))) (hs : ∀ x, foldedSetIterable iter X.env x = pure x := by intro _; rfl) :
    DS X c ds (.Assign [.Name z pz] (.ListComp elt [⟨.Tuple [.Name x px, .Name y py] kk tp, iter, [], 0⟩] scope pos) spos) po :=
  ds_setLc (own := [(x, i), (y, j)]) (f := fun d => match d with | .tup [a, b] => ((wipeD ds [i, j]).set i (.val a)).set j (.val b) | _ => wipeD ds [i, j]) (Pt := fun _ b => b = true) (Pe := fun d x => x = via (fun a => D.tup [f1 a, f2 a]) r .non d) hc hN hz hzl hsw it (L2.blkOk_by ok)
    (fun s H C cl fp => pg_tup (X := X.blk s H scope (compEnvC scope cl C X.env) fp) hc (pgs_cons (pg_name (X := X.blk s H scope (compEnvC scope cl C X.env) fp) hN hi (.inl (lookup_relabel_local hl1)) (.inr (lookup_relabel_local hl1))) (pgs_cons (pg_name (X := X.blk s H scope (compEnvC scope cl C X.env) fp) hN hj (.inl (lookup_relabel_local hl2)) (.inr (lookup_relabel_local hl2))) pgs_nil rfl) rfl) rfl rfl) (fun es d e m => by
      subst e
      obtain ⟨a, _, rfl⟩ := List.mem_map.mp m
      exact gp_pair (by simp) (by simp)) (fun _ d e m s H C cl fp => dts_nil) (fun _ d e m _ s H C cl fp => by
      subst e
      obtain ⟨a, ha, rfl⟩ := List.mem_map.mp m
      rw [via_at inj]
      exact he a ha s H C cl fp) (fun _ e => by subst e; rw [List.length_map]; exact hsz) (fun es rs e cm => by
      subst e
      rw [cm.map, List.map_map]
      have e : as.map (via (fun a => D.tup [f1 a, f2 a]) r .non ∘ fun a => D.tup [f1 a, f2 a]) = as.map r := List.map_congr_left fun a _ => via_at inj a
      rw [e]
      exact h) hs
theorem DSsF.imp {st : List Stmt} {N N' : Hp → Prop} (h : DSsF X c ds st N) (i : ∀ H, N H → N' H) : DSsF X c ds st N' :=
  ⟨fun pins s σ H D I ⟨M, ow, E, q⟩ => h.run pins s σ H D I ⟨M, ow, E, fun σ' H' l n => q σ' H' l (i H' n)⟩⟩
end
end Dt

set_option Elab.async false
set_option linter.all false
set_option maxRecDepth 100000
set_option maxHeartbeats 4000000
/-! defs that give back a new list; lists that become dice -/
namespace Dt
open PySem PyProof.Rows L2
/-- the promise of a new list -/
def spN (K : PySem.W.Frag) (pre : List D → Prop) (post : List D → List D → Prop) : Sp := fun vs H Q E => ∃ (c : Fx) (as : List D), c.H0 = H ∧ c.z = ⟨[], []⟩ ∧ pre as ∧ IsAll K (cut c.B H) vs as ∧
  ∀ p us es H', post as es → Le c.z H H' → H p = none → H' p = some (.lst us) → IsAll K (cut (p :: c.B) H') us es → Q (.ref p) H'
def tR (K : PySem.W.Frag) (c : Fx) (ds : List Sl) (post : List D → Prop) : TS := fun D σ H => ∃ M ow, Env K c M ow σ H ds ∧ ∀ p us es H', post es → Le c.z c.H0 H' → c.H0 p = none → H' p = some (.lst us) → IsAll K (cut (p :: c.B) H') us es → D.rt (.ref p) H'
def DSsR (X : Cx) (c : Fx) (ds : List Sl) (st : List Stmt) (post : List D → Prop) : Prop := PSs X st (tR X.K c ds post)
section
variable {X : Cx} {c : Fx} {ds : List Sl} {st : Stmt} {r : List Stmt} {post : List D → Prop} {e : Expr} {pos : Pos}
theorem dsR_cons {N1 : List Sl → Prop} (h1 : DS X c ds st ⟨N1, fun _ => False, fun _ => False, fun _ => False⟩) (h2 : ∀ ds', N1 ds' → DSsR X c ds' r post) : DSsR X c ds (st :: r) post := by
  have g2 : PSs X r fun D σ H => ∃ ds', N1 ds' ∧ tR X.K c ds' post D σ H := ⟨fun pins s σ H D I ⟨ds', n, h⟩ => (h2 ds' n).run pins s σ H D I h⟩
  exact ⟨fun pins s σ H D I ⟨M, ow, E, q⟩ => (pss_cons h1 g2).run pins s σ H D I ⟨M, ow, E, fun M' ow' σ' H' ds' n E' k => ⟨ds', n, M', ow', E', q⟩, fun _ _ _ z => z.elim, fun _ _ _ _ _ z => z.elim, fun _ _ _ _ _ z => z.elim⟩⟩
theorem dsR_to {ds' : List Sl} (h1 : DS X c ds st ⟨(· = ds'), fun _ => False, fun _ => False, fun _ => False⟩) (h2 : DSsR X c ds' r post) : DSsR X c ds (st :: r) post := dsR_cons h1 fun _ e => by subst e; exact h2
theorem dsR_ret (he : DN X c ds e fun s => ∃ es, post es ∧ s = .lst es) : DSsR X c ds [.Return (some e) pos] post :=
  ⟨fun pins s σ H D I ⟨M, ow, E, q⟩ => (pss_one (L2.ps_ret he)).run pins s σ H D I ⟨M, ow, E, fun p o sl H' ⟨es, pe, e1⟩ l h0 ho no sk => by
    subst e1
    obtain ⟨_, _, n, us, hl, iu⟩ := sk
    exact q p us es H' pe (E.ok.le.tr l) n hl (iu.up (cut_less fun a m => by
      rcases List.mem_cons.mp m with rfl | m
      · exact List.mem_cons_self
      · exact List.mem_cons_of_mem _ (E.ok.bM a m)))⟩⟩
end
section
variable {P : Program} {w : World} {K : PySem.W.Frag} {mg : Str → Option Value} {base : Heap} {x qual : Str} {params : Arguments} {body : List Stmt} {scope : Scope} {dvs : List V} {kws : List (Str × V)} {f : Addr} {fd : FuncData}
variable {N ps : List Str} {k : Nat} {pre : List D → Prop} {post : List D → List D → Prop}
theorem fn_N (F : FunD K x qual params body scope dvs kws f fd) (S : FnScope N ps scope) (hl : ∀ as, pre as → as.length = ps.length)
    (hb : ∀ (c : Fx) (as : List D) (cdv : Value) (A : Around) (outer : List PySem.Env) (s : Shared) (E : XK), Room k (A.deeper (envOfC qual scope s.heap.objs.size f cdv)) → pre as →
      DSsR (cxOf (L2.CX P w) P w K mg base N qual scope f cdv A outer s c.H0 E).nox c (startD N as) body (post as)) :
    FnOk P w K mg base (L2.CX P w) (k + 1) f fd ps (spN K pre post) := by
  refine F.ok S (fun vs H Q E ⟨c, as, _, _, hp, ia, _⟩ => by rw [ia.len, hl as hp]) fun cdv A outer s H vs Q E hr h => ?_
  obtain ⟨c, as, rfl, hz, hp, ia, q⟩ := h
  exact ⟨_, PSs.nox (hb c as cdv A outer s E hr hp), c.B, _, env_start ia, fun p us es H' pe l n hl iu => q p us es H' pe l n hl iu⟩
end
section
variable {X : Cx} {c : Fx} {ds : List Sl} {e : Expr} {es : List Expr} {pos p : Pos} {x : Str} {j k i : Nat} {as : List D} {pre : List D → Prop} {post : List D → List D → Prop} {st : Stmt} {po : Po}
theorem dn_callN (C : Dt.Cl X.prog X.w X.K X.mg X.base k x (spN X.K pre post) []) (hr : Room j X.A) (hk : k ≤ j) (hg : Gl X x) (ha : DL X c ds (e :: es) as) (hp : pre as)
    (hdb : (x == ("__debug__" : Str)) = false := by decide) (he : starEach (e :: es) X.env = (false, eval e X.env) :: starEach es X.env := by rfl) (hpl : (backTo pos (starEach es X.env)).any (·.1) = false := by rfl) :
    DN X c ds (.Call (.Name x p) (e :: es) [] pos) fun s => ∃ rs, post as rs ∧ s = .lst rs := by
  obtain ⟨f, fd, ps, dd, F, hm, kp, b, d⟩ := C.ex
  cases d
  exact dn_of (L2.pe_call (E := EF) F (hr.mono hk) hg hm kp b .nil passF ha hdb he hpl) fun M ow σ H E Q q => ⟨M, ow, E, fun vs as' H1 pa l1 i1 => by
    subst pa
    show spN X.K pre post (vs ++ []) H1 Q EF
    rw [List.append_nil]
    refine ⟨(E.up l1).ok.fx ⟨[], []⟩ (fun a m => no_mem m) zok0, _, rfl, rfl, hp, i1, fun p us rs H' pr l hp hl iu => ?_⟩
    have l2 : Le c.z H1 H' := l.up (fun a m => by cases m) (.inl rfl) zok0
    have h0 : H p = none := by
      cases e : H p with
      | none => rfl
      | some o =>
        by_cases z : p ∈ c.z
        · exact absurd hp ((l1.zok E.ok.zok).num z)
        · rw [l1.keep p o z e] at hp
          cases hp
    exact q p _ (.lst rs) H' ⟨rs, pr, rfl⟩ (l1.tr l2) h0 hl (fun xs z => by cases z) ⟨rfl, List.mem_cons_self, E.ok.none0 h0, us, hl, iu⟩⟩
/-- an own list of three ints becomes a die, for the length of one statement -/
theorem ds_asDie {a b d : Int} (h : ds[i]? = some (.lst [.int a, .int b, .int d])) (hs : ∀ p c', c'.Di p → c'.z.tb = c.z.tb → DS X c' ((ds.map noOwn).set i (.val (.adr p))) st po) : DS X c ds st po := by
  have g : PS X st fun D σ H => ∃ p c', (c'.Di p ∧ c'.z.tb = c.z.tb) ∧ tDS X.K c' ((ds.map noOwn).set i (.val (.adr p))) po D σ H := ⟨fun pins s σ H D I ⟨p, c', ⟨h1, h2⟩, h⟩ => (hs p c' h1 h2).run pins s σ H D I h⟩
  refine ds_of g fun M ow σ H E D q1 q2 q3 q4 => ?_
  obtain ⟨e1, m, n, vs, hp, ia⟩ := E.at_ i _ h
  have hv : vs = [.int a, .int b, .int d] := by
    cases ia with
    | cons i1 t =>
      cases t with
      | cons i2 t =>
        cases t with
        | cons i3 t =>
          cases t
          rw [i1.int_inv, i2.int_inv, i3.int_inv]
  subst hv
  have li : i < ds.length := (List.getElem?_eq_some_iff.mp h).1
  have mz : ∀ q, q ∈ (⟨ow i :: c.z.dl, c.z.tb⟩ : Zt) → q = ow i ∨ q ∈ c.z := fun q z => by
    rcases z with z | z
    · rcases List.mem_cons.mp z with z | z
      · exact .inl z
      · exact .inr (.inl z)
    · exact .inr (.inr z)
  let c' : Fx := ⟨⟨ow i :: c.z.dl, c.z.tb⟩, M, H, fun q z => by
    rcases mz q z with rfl | z
    · exact m
    · exact E.ok.zM q z, E.ok.kn, ⟨fun q z => by
      rcases List.mem_cons.mp z with rfl | z
      · exact ⟨_, _, _, hp⟩
      · exact E.ok.zok.dice q z, E.ok.zok.tab⟩⟩
  have le : ∀ H', Le c'.z H H' → Le c.z c.H0 H' := fun H' l => by
    have l0 := E.ok.le
    refine ⟨fun q o z e => l.keep q o (fun y => ?_) (l0.keep q o z e), fun q z y => l.dice q (List.mem_cons_of_mem _ z) (l0.dice q z y), fun q z y => l.tab q z (l0.tab q z y)⟩
    rcases mz q y with rfl | y
    · rw [n] at e
      cases e
    · exact z y
  have nn : ∀ q, H q = none → c.H0 q = none := fun q => E.ok.none0
  have out : ∀ {M' : List Addr} {ow' : Nat → Addr} {σ' : L2.St} {H' : Hp} {ds' : List Sl}, Env X.K c' M' ow' σ' H' ds' → Env X.K c M' ow' σ' H' ds' := fun {M' ow' σ' H' ds'} E' => by
    refine ⟨⟨le H' E'.ok.le, fun q z => E'.ok.bM q (E.ok.bM q z), E'.ok.kn⟩, E'.len, fun l s e => ?_, E'.ap⟩
    have z := E'.at_ l s e
    cases s with
    | no => trivial
    | val d => exact z
    | lst es => exact ⟨z.1, z.2.1, nn _ z.2.2.1, z.2.2.2⟩
    | dic ks es => exact ⟨z.1, z.2.1, nn _ z.2.2.1, z.2.2.2⟩
    | obj x C ns es => exact ⟨z.1, z.2.1, nn _ z.2.2.1, z.2.2.2⟩
    | lck ks es => exact z
  refine ⟨ow i, c', ⟨List.mem_cons_self, rfl⟩, M, ow, ⟨⟨.rfl', fun _ z => z, E.ok.kn⟩, ?_, fun l s e => ?_, fun l1 l2 s t e1 e2 w1 w2 _ => ?_⟩, fun M' ow' σ' H' ds' nx E' k => q1 M' ow' σ' H' ds' nx (out E') k, fun v d H' p l i2 => q2 v d H' p (le H' l) (i2.up (cut_less fun q z => E.ok.bM q z)), fun M' ow' σ' H' ds' nx E' k => q3 M' ow' σ' H' ds' nx (out E') k, fun M' ow' σ' H' ds' nx E' k => q4 M' ow' σ' H' ds' nx (out E') k⟩
  · rw [E.len, List.length_set, List.length_map]
  · by_cases z : l = i
    · subst z
      rw [List.getElem?_set_self (by rw [List.length_map]; exact li)] at e
      cases e
      exact ⟨_, e1, .adr⟩
    · rw [List.getElem?_set_ne (Ne.symm z), List.getElem?_map, Option.map_eq_some_iff] at e
      obtain ⟨t0, e, rfl⟩ := e
      have y := E.at_ l t0 e
      cases t0 with
      | no => trivial
      | val d => exact y
      | lst es => trivial
      | dic ks es => trivial
      | obj x C ns es => trivial
      | lck ks es => exact y
  · exfalso
    have no : ∀ (l : Nat) (s : Sl), ((ds.map noOwn).set i (.val (.adr (ow i))))[l]? = some s → s.own = false := fun l s e => by
      by_cases z : l = i
      · subst z
        rw [List.getElem?_set_self (by rw [List.length_map]; exact li)] at e
        cases e
        rfl
      · rw [List.getElem?_set_ne (Ne.symm z), List.getElem?_map, Option.map_eq_some_iff] at e
        obtain ⟨t0, e, rfl⟩ := e
        exact noOwn_own t0
    rw [no l1 s e1] at w1
    cases w1
end
end Dt

set_option Elab.async false
set_option linter.all false
set_option maxRecDepth 100000
set_option maxHeartbeats 4000000
namespace Dt
open PySem PyProof.Rows L2
section
variable {X : Cx} {c : Fx} {ds : List Sl} {ea eb : Expr} {pos : Pos}
/-- a + b, as a new list -/
theorem dn_cat {xs ys : List D} (hz : xs.length + ys.length ≤ sizeLine) (ha : DV X c ds ea (.lst xs)) (hb : DV X c ds eb (.lst ys)) : DNV X c ds (.BinOp ea .Add eb pos) (.lst (xs ++ ys)) :=
  dn_of (pe_op op_cat ha hb) fun M ow σ H E Q q => ⟨M, ow, E, fun v a H1 pa l1 i1 => ⟨M, ow, E.up l1, fun u b H2 pb l2 i2 => by
    subst pa pb
    obtain ⟨p, us, rfl, hp, ia⟩ := (i1.up ((E.up l1).ok.cut l2)).lst_inv
    obtain ⟨p2, vs, rfl, hp2, ia2⟩ := i2.lst_inv
    refine ⟨p, p2, us, vs, rfl, rfl, (cut_at hp).1, (cut_at hp2).1, by rw [ia.len, ia2.len]; exact hz, fun l hl => ?_⟩
    obtain ⟨h1, h2, h3, h4, h5⟩ := dn_new E (l1.tr l2) hl (ia.app ia2)
    exact q _ _ _ _ rfl h1 h2 h3 h4 h5⟩⟩
end
end Dt

set_option Elab.async false
set_option linter.all false
set_option maxRecDepth 100000
set_option maxHeartbeats 4000000
/-! what is told of the heap at the end of the program's head -/
namespace HkY
open PySem PySem.Spec PyProof.Rows L2
abbrev Gf : Type := Option (Str × Str × Arguments × FuncBody × Scope × Addr × Addr)
/-- the maker of an error class with its cell left out -/
def gfn (K : PySem.W.Frag) (f : Addr) : Gf := match K.lookup f with
  | some ⟨_, _, .func d, _⟩ => some (d.name, d.qualname, d.params, d.body, d.scope, d.globals, d.builtins)
  | _ => none
def gval : Gf := some ("__init__", "GoneError.__init__", GX.gArgs, .stmts GX.gBody, GX.gScope, mainGlobals, builtinsNs)
abbrev Al : Type := (He.AlD × He.AlD) × (Gf × Bool)
structure Says (fa : List He.Fa) (fn : List He.DefD) (fp : List He5.DefA) (gf : PySem.W.Frag → Addr) (tf : List He.Defn) (ex : PySem.W.Frag → Bool) (h : Heap) (K : PySem.W.Frag) : Prop where
  d : He.SaysD fa fn K
  p : He5.SaysA [] fp K
  g : gfn K (gf K) = gval
  more : ex K = true
  hd : ∀ p ∈ tf, PySem.W.codeHdIn K (He.cT K p).1 (He.cT K p).2 = true
  out : ∀ p ∈ tf, K.lookup (He.cT K p).2 = none
  mt : ∀ p ∈ tf, h.get? (He.cT K p).2 = some { cls := .none, data := .fields #[] }
def frY (g : Addr → Option Obj) (n : Nat) : PySem.W.Frag := He.frT g (He5.asA g n)
def obsY (n : Nat) (fa : List He.Fa) (fn : List He.DefD) (fp : List He5.DefA) (gf : PySem.W.Frag → Addr) (tf : List He.Defn) (ex : PySem.W.Frag → Bool) (g : Addr → Option Obj) : Al :=
  ((He.obsD fa fn (frY g n), He5.obsA [] fp (frY g n)), (gfn (frY g n) (gf (frY g n)), ex (frY g n) && He.tabsB g tf (frY g n)))
def valY (fn : List He.DefD) (fp : List He5.DefA) : Al := ((He.valD fn, He5.valA fp), (gval, true))
variable {n : Nat} {fa : List He.Fa} {fn : List He.DefD} {fp : List He5.DefA} {gf : PySem.W.Frag → Addr} {tf : List He.Defn} {ex : PySem.W.Frag → Bool}
theorem says_of {h : Heap} (e : obsY n fa fn fp gf tf ex h.get? = valY fn fp) : Says fa fn fp gf tf ex h (frY h.get? n) := by
  have e1 : He.obsD fa fn (frY h.get? n) = He.valD fn := congrArg (fun z : Al => z.1.1) e
  have e2 : He5.obsA [] fp (frY h.get? n) = He5.valA fp := congrArg (fun z : Al => z.1.2) e
  have e3 : gfn (frY h.get? n) (gf (frY h.get? n)) = gval := congrArg (fun z : Al => z.2.1) e
  have e4 : (ex (frY h.get? n) && He.tabsB h.get? tf (frY h.get? n)) = true := congrArg (fun z : Al => z.2.2) e
  obtain ⟨b1, b2⟩ := Bool.and_eq_true_iff.mp e4
  have each : ∀ p ∈ tf, PySem.W.codeHdIn (frY h.get? n) (He.cT (frY h.get? n) p).1 (He.cT (frY h.get? n) p).2 = true ∧ ∃ o, h.get? (He.cT (frY h.get? n) p).2 = some o ∧ He.emptyTab o = true := fun p hp => by
    have z := List.all_eq_true.mp b2 p hp
    obtain ⟨b3, b4⟩ := Bool.and_eq_true_iff.mp z
    refine ⟨b3, ?_⟩
    cases q : h.get? (He.cT (frY h.get? n) p).2 with
    | none => rw [q] at b4; cases b4
    | some o => rw [q] at b4; exact ⟨o, rfl, b4⟩
  exact { d := e1, p := e2, g := e3, more := b1, hd := fun p hp => (each p hp).1, out := fun p hp => (each p hp).2.elim fun o z => He.frT_none z.1 z.2, mt := fun p hp => (each p hp).2.elim fun o z => by rw [z.1, He.emptyTab_eq z.2] }
def hookY (n : Nat) (fa : List He.Fa) (fn : List He.DefD) (fp : List He5.DefA) (gf : PySem.W.Frag → Addr) (tf : List He.Defn) (ex : PySem.W.Frag → Bool) : PySem.W.Hook where
  α := Al
  obs := fun s => obsY n fa fn fp gf tf ex s.heap.get?
  val := fun _ => valY fn fp
  says := fun _ h => ∃ K : PySem.W.Frag, K.In h ∧ Says fa fn fp gf tf ex h K
  of := fun _ _ e => ⟨_, He.frT_in, says_of e⟩
  keeps := fun _ _ _ ⟨K, i, c⟩ k => ⟨K, PySem.W.Frag.In.keeps i k, { d := c.d, p := c.p, g := c.g, more := c.more, hd := c.hd, out := c.out, mt := fun p hp => k _ _ (c.mt p hp) }⟩
theorem obsY_eq {g : Addr → Option Obj} {s : Shared} (h : ∀ a, g a = s.heap.get? a) : obsY n fa fn fp gf tf ex g = (hookY n fa fn fp gf tf ex).obs s := by
  have e : g = s.heap.get? := funext h
  subst e
  rfl
/-! ### facts, each as a Bool -/
def eqV (a b : Option (Option Value)) : Bool := decide (a = b)
theorem eqV_ok {a b : Option (Option Value)} (h : eqV a b = true) : a = b := of_decide_eq_true h
def allB (l : List Bool) : Bool := l.all id
theorem allB_at {l : List Bool} (h : allB l = true) {i : Nat} {b : Bool} (e : l[i]? = some b) : b = true := List.all_eq_true.mp h b (List.mem_of_getElem? e)
theorem all_of {α : Type} {l : List α} {p : α → Bool} (h : l.all p = true) : ∀ a ∈ l, p a = true := List.all_eq_true.mp h
/-- an error class whose maker is GoneError's -/
def gexC (K : PySem.W.Frag) (C : Addr) : Bool := match K.lookup C with
  | some ⟨.type "type", _, .cls cd, sl⟩ => (match cd.mro, sl.toList with
    | .ref C' :: bm, [_, _, _, _, some (.builtin m), _] => decide (C' = C) && (decide (m = "ValueError.__new__") && (!cd.hasDel && (cd.hasDict && PySem.HandSPX.refsVE bm)))
    | _, _ => false)
  | _ => false
def gexF (P : Program) (K : PySem.W.Frag) (f D : Addr) : Bool := match K.lookup f with
  | some ⟨_, _, .func d, _⟩ => (match d.closure, d.code, d.defaults, d.kwdefaults with
    | [(x, cc)], .ref cda, .none, .none => decide (x = "__class__") && (PySem.W.codeIn K (.ref cda) "GoneError.__init__" && ((match K.lookup cda with
        | some ⟨_, _, .fields vs, _⟩ => (match (vs[2]? : Option Value) with
          | some (.str file _) => (P.main.file : Str) == file
          | _ => false)
        | _ => false) && (match K.lookup cc with
        | some ⟨_, _, .cell (some (.ref D')), _⟩ => decide (D' = D)
        | _ => false)))
    | _, _, _, _ => false)
  | _ => false
def gexL (P : Program) (K : PySem.W.Frag) (C D f : Addr) : List Bool := [gexC K C, PySem.W.keepIn K (.ref C), eqV (PySem.W.findIn K (.ref C) "__init__") (some (some (.ref f))), decide (PySem.W.typeIn K (.ref f) = some (.type "function")), decide (PySem.W.subIn K (.ref C) (.type "BaseException") = some true), decide (PySem.W.subIn K (.ref C) (.type "ValueError") = some true), decide (PySem.W.typeIn K (.ref C) = some (.type "type")),
  decide (PySem.W.mroIn K C (.ref D) = some true), (PySem.W.clsIn K D).isSome, eqV (PySem.W.ks_superIn K C D "__init__") (some (some (.builtin "ValueError.__init__"))), eqV (PySem.W.nsIn K cStatics "thirdparty.any") (some none), eqV (PySem.W.nsIn K mainGlobals "super") (some none), !(P.main.scope.names.lookup ("super" : Str)).isSome, gexF P K f D]
theorem gexC_ok {K : PySem.W.Frag} {C : Addr} (h : gexC K C = true) : ∃ nm q N bs bm sn sub ab col dd k0 k1 k2 k3 k5, K.lookup C = some (excClassObj nm q C N bs bm true sn sub ab col dd k0 k1 k2 k3 k5 "ValueError.__new__") ∧ PySem.HandSPX.refsVE bm = true := by
  unfold gexC at h
  split at h
  · rename_i dd cd sl ho
    split at h
    · rename_i C' bm k0 k1 k2 k3 m k5 hm hs
      simp only [Bool.and_eq_true, decide_eq_true_eq, Bool.not_eq_true'] at h
      obtain ⟨rfl, rfl, h3, h4, h5⟩ := h
      obtain ⟨nm, bs, mro, ns, qn, hd, sn, sub, ab, col, del⟩ := cd
      dsimp only at hm h3 h4
      subst hm h3 h4
      have hsl : sl = #[k0, k1, k2, k3, some (.builtin "ValueError.__new__"), k5] := by
        obtain ⟨l⟩ := sl
        simp only at hs
        rw [hs]
      subst hsl
      exact ⟨nm, qn, ns, bs, bm, sn, sub, ab, col, dd, k0, k1, k2, k3, k5, ho, h5⟩
    · cases h
  · cases h
theorem gex_ok {P : Program} {K : PySem.W.Frag} {C D f : Addr} (h : allB (gexL P K C D f) = true) (g : gfn K f = gval) : GX.GExc P K C D f where
  cls := gexC_ok (allB_at h (i := 0) rfl)
  kC := allB_at h (i := 1) rfl
  ini := eqV_ok (allB_at h (i := 2) rfl)
  tf := of_decide_eq_true (allB_at h (i := 3) rfl)
  bex := of_decide_eq_true (allB_at h (i := 4) rfl)
  val := of_decide_eq_true (allB_at h (i := 5) rfl)
  tyC := of_decide_eq_true (allB_at h (i := 6) rfl)
  up := of_decide_eq_true (allB_at h (i := 7) rfl)
  clsD := allB_at h (i := 8) rfl
  nxt := eqV_ok (allB_at h (i := 9) rfl)
  any := eqV_ok (allB_at h (i := 10) rfl)
  sup := eqV_ok (allB_at h (i := 11) rfl)
  top := by
    have z : (!(P.main.scope.names.lookup ("super" : Str)).isSome) = true := allB_at h (i := 12) rfl
    simpa using z
  fn := by
    have z : gexF P K f D = true := allB_at h (i := 13) rfl
    unfold gfn at g
    unfold gexF at z
    split at z
    · rename_i oc od d osl ho
      rw [ho] at g
      have g : (some (d.name, d.qualname, d.params, d.body, d.scope, d.globals, d.builtins) : Gf) = gval := g
      unfold gval at g
      simp only [Option.some.injEq, Prod.mk.injEq] at g
      obtain ⟨g1, g2, g3, g4, g5, g6, g7⟩ := g
      split at z
      · rename_i x cc cda hc hcd hdf hkd
        simp only [Bool.and_eq_true, decide_eq_true_eq] at z
        obtain ⟨rfl, z2, z3, z4⟩ := z
        obtain ⟨n1, n2, n3, n4, n5, n6, n7, n8, n9, n10, n11, n12, n13, n14, n15⟩ := d
        dsimp only at g1 g2 g3 g4 g5 g6 g7 hc hcd hdf hkd
        subst g1 g2 g3 g4 g5 g6 g7 hc hcd hdf hkd
        refine ⟨oc, od, n10, n11, n14, n12, osl, cda, cc, ho, z2, ?_, ?_⟩
        · split at z3
          · rename_i ccl cdd vs ccs hq
            split at z3
            · rename_i file tk hv
              exact ⟨ccl, cdd, vs, ccs, file, tk, hq, hv, z3⟩
            · cases z3
          · cases z3
        · split at z4
          · rename_i cl cld D' csl hq
            have e := of_decide_eq_true z4
            subst e
            exact ⟨cl, cld, csl, hq⟩
          · cases z4
      · cases z
    · cases z
/-- what is asked of an error class for isinstance -/
def excL (K : PySem.W.Frag) (C : Addr) : List Bool := [eqV (PySem.W.findIn K (.ref C) "__getattribute__") (some (some (.builtin "BaseException.__getattribute__"))), eqV (PySem.W.findIn K (.ref C) "__getattr__") (some none), decide (PySem.W.subIn K (.ref C) (.type "BaseException") = some true), PySem.W.hasDictIn K C, eqV (PySem.W.findIn K (.ref C) "__class__") (some (some (.builtin "object.__class__"))),
  eqV (PySem.W.specialIn K (.builtin "object.__class__") "__get__") (some (some (.builtin "getset_descriptor.__get__"))), decide (PySem.W.takesIn K (.builtin "object.__class__") = some true), decide (PySem.W.mroIn K C (.type "object") = some true)]
theorem exc_ok {K : PySem.W.Frag} {C : Addr} (h : allB (excL K C) = true) : ExcC K C :=
  ⟨eqV_ok (allB_at h (i := 0) rfl), eqV_ok (allB_at h (i := 1) rfl), of_decide_eq_true (allB_at h (i := 2) rfl), allB_at h (i := 3) rfl, eqV_ok (allB_at h (i := 4) rfl), eqV_ok (allB_at h (i := 5) rfl), of_decide_eq_true (allB_at h (i := 6) rfl), of_decide_eq_true (allB_at h (i := 7) rfl)⟩
/-- a property of a class -/
def prpL (K : PySem.W.Frag) (C : Addr) (f : Str) : List Bool := [eqV (PySem.W.findIn K (.ref C) f) (some (some (.ref (He.ma K C f)))), eqV (PySem.W.specialIn K (.ref (He.ma K C f)) "__get__") (some (some (.builtin "property.__get__"))), decide (PySem.W.takesIn K (.ref (He.ma K C f)) = some true), (match PySem.W.recIn K (He.ma K C f) "property" with
  | some (.ref _ :: _) => true
  | _ => false)]
theorem prp_ok {K : PySem.W.Frag} {C : Addr} {f : Str} (h : allB (prpL K C f) = true) : PropOf K C f (He.ma K C f) (He5.wf K C "property" f) := by
  refine ⟨eqV_ok (allB_at h (i := 0) rfl), eqV_ok (allB_at h (i := 1) rfl), of_decide_eq_true (allB_at h (i := 2) rfl), ?_⟩
  have z : (match PySem.W.recIn K (He.ma K C f) "property" with
    | some (.ref _ :: _) => true
    | _ => false) = true := allB_at h (i := 3) rfl
  unfold He5.wf
  split at z
  · rename_i g r e
    exact ⟨r, by rw [e]⟩
  · cases z
end HkY

set_option Elab.async false
set_option linter.all false
set_option maxRecDepth 100000
set_option maxHeartbeats 4000000
/-! the end, where the law's def is called with no repr under way -/
namespace WkG
open PySem PySem.Spec PyProof.Rows L2 LamX
section
variable {P : Program} {w : World} {K : PySem.W.Frag} {mg mb : Str → Option Value} {CX : CXT} {k : Nat} {fL aL : Addr} {tbs : List (Addr × Addr)} {fd : FuncData} {x : Str} {sp : Sp} {t1 : Shared} {us : List Value} {is : List Int}
/-- what is tracked at the law's call: the tables, the script if K does not hold it -/
def startH (aL : Addr) (u : Option HO) (tbs : List (Addr × Addr)) : Hp := fun b => if b = aL then u else if b ∈ tbs.map (·.2) then some (.tbl #[]) else none
theorem startH_a {u : Option HO} : startH aL u tbs aL = u := if_pos rfl
theorem startH_t {u : Option HO} {b : Addr} (n : b ≠ aL) (m : b ∈ tbs.map (·.2)) : startH aL u tbs b = some (.tbl #[]) := (if_neg n).trans (if_pos m)
theorem startH_o {u : Option HO} {b : Addr} (n : b ≠ aL) (m : b ∉ tbs.map (·.2)) : startH aL u tbs b = none := (if_neg n).trans (if_neg m)
theorem startH_c {u : Option HO} {b : Addr} {o : HO} (e : startH aL u tbs b = some o) : (b = aL ∧ u = some o) ∨ (b ≠ aL ∧ b ∈ tbs.map (·.2) ∧ o = .tbl #[]) := by
  by_cases n : b = aL
  · subst n
    rw [startH_a] at e
    exact .inl ⟨rfl, e⟩
  · by_cases m : b ∈ tbs.map (·.2)
    · rw [startH_t n m] at e
      cases e
      exact .inr ⟨n, m, rfl⟩
    · rw [startH_o n m] at e
      cases e
theorem callG (KX : K.In t1.heap) (hm : t1.heap.Ns mainGlobals mg) (hb : t1.heap.Ns builtinsNs mb) (hbb : ∀ x : Str, x ≠ "__name__" → mb x = bootBuiltins x) (hlim : t1.heap.NoLimit) (hg : t1.gens = #[])
    (hT : ∀ p ∈ tbs, t1.heap.get? p.2 = some { cls := .none, data := .fields #[] }) (nT : ∀ p ∈ tbs, K.lookup p.2 = none) (cd : ∀ p ∈ tbs, PySem.W.CodeHd t1.heap p.1 p.2)
    (hbm : ∃ (bm : Addr) (ob : Obj), mg "__builtins__" = some (.ref bm) ∧ bm ≠ builtinsNs ∧ t1.heap.get? bm = some ob ∧ ob.cls = .type "module" ∧ ob.dict = some builtinsNs ∧ ob.data = .plain)
    (ha : t1.heap.get? aL = some { cls := .type "list", data := .seq us.toArray }) (hi : IntsAre us is) (hl : is.length ≤ sizeLine) (hr : Room k callerA)
    (F : ∀ base : Heap, K.In base → base.Ns mainGlobals mg → (∀ p ∈ tbs, TabB base mg p.1 p.2) → L2.FnG P w K mg base CX k fL fd [x] sp) (hbind : ∀ (s : Shared) (u : Value), BindsTo s fd ⟨[u], []⟩ [(x, u)])
    (hsp : ∀ H : Hp, (∀ p ∈ tbs, H p.2 = some (.tbl #[])) → SqL K H aL (is.map V.int) → sp [.ref aL] H (fun v _ => v = .bl true) fun _ _ _ => False) (hCX : ∀ H e s', CX [] H t1 (fun _ _ _ => False) e s' → False) :
    codeAny (model P w) callerA (.call (.ref fL) ⟨[.ref aL], []⟩) (fun r s' => r = .ok (.ret (.bool true)) ∧ OldK t1.heap s'.heap ∧ s'.os = t1.os ∧ AllBare s'.gens) t1 := by
  have rel := vals_ints hi
  have tabAt : ∀ b, b ∈ tbs.map (·.2) → t1.heap.get? b = some { cls := .none, data := .fields #[] } := fun b m => by
    obtain ⟨q, mq, rfl⟩ := List.mem_map.mp m
    exact hT q mq
  have tabK : ∀ b, b ∈ tbs.map (·.2) → K.lookup b = none := fun b m => by
    obtain ⟨q, mq, rfl⟩ := List.mem_map.mp m
    exact nT q mq
  have apart : ∀ b, b ∈ tbs.map (·.2) → b ≠ aL := fun b m z => by
    subst z
    have q := (tabAt _ m).symm.trans ha
    cases q
  -- the script's own entry
  obtain ⟨u, hu, hS, hK⟩ : ∃ u : Option HO, (∀ o, u = some o → o = .frz { cls := .type "list", data := .seq us.toArray } (.lst (is.map V.int))) ∧ SqL K (startH aL u tbs) aL (is.map V.int) ∧ (u ≠ none → K.lookup aL = none) := by
    cases q : K.lookup aL with
    | some o =>
      have e := (KX aL o q).symm.trans ha
      cases e
      exact ⟨none, (fun o z => by cases z), .inr ⟨_, us.toArray, _, q, rfl, rfl, rfl, by rw [List.size_toArray, hi.length]; exact hl, by simpa using rel⟩, fun z => (z rfl).elim⟩
    | none => exact ⟨some (.frz { cls := .type "list", data := .seq us.toArray } (.lst (is.map V.int))), (fun o z => by cases z; rfl), .inl (.inr ⟨_, startH_a⟩), fun _ => rfl⟩
  let H := startH aL u tbs
  have hH : ∀ p ∈ tbs, H p.2 = some (.tbl #[]) := fun p mp => startH_t (apart _ (List.mem_map.mpr ⟨p, mp, rfl⟩)) (List.mem_map.mpr ⟨p, mp, rfl⟩)
  have hok : HOk P w H t1.heap := fun b o e => by
    rcases startH_c e with ⟨rfl, e1⟩ | ⟨n, m, rfl⟩
    · have e2 := hu o e1
      subst e2
      exact ⟨ha, by rw [List.length_map]; exact hl, us, _, rel, ha⟩
    · exact tabAt b m
  -- whatever else stands in the heap is not tracked
  have free : ∀ {b : Addr} {o : Obj}, t1.heap.get? b = some o → (∀ v n, o.data ≠ .seq v n) → o.data ≠ .fields #[] → H b = none := fun {b o} e d1 d2 => by
    cases q : H b with
    | none => rfl
    | some y =>
      rcases startH_c q with ⟨rfl, _⟩ | ⟨_, m, _⟩
      · have z := e.symm.trans ha
        cases z
        exact (d1 _ _ rfl).elim
      · have z := e.symm.trans (tabAt b m)
        cases z
        exact (d2 rfl).elim
  have freeD : ∀ {b : Addr} {o : Obj} {es : Array DictEntry} {ep : Nat}, t1.heap.get? b = some o → o.data = .dict es ep → H b = none := fun {b o es ep} e d => free e (fun v n z => by rw [d] at z; cases z) fun z => by rw [d] at z; cases z
  have toB : ∀ {b : Addr} {o : Obj}, t1.heap.get? b = some o → H b = none → (hidT t1.heap H).get? b = some o := fun e n => hidT_get e n
  have nsB : ∀ {b : Addr} {m : Str → Option Value}, t1.heap.Ns b m → (hidT t1.heap H).Ns b m := fun ⟨o, es, ep, e, d, r⟩ => ⟨o, es, ep, toB e (freeD e d), d, r⟩
  have KB : K.In (hidT t1.heap H) := fun b o e => toB (KX b o e) (by
    cases q : H b with
    | none => rfl
    | some y =>
      rcases startH_c q with ⟨rfl, e1⟩ | ⟨_, m, _⟩
      · rw [hK (by rw [e1]; simp)] at e
        cases e
      · rw [tabK b m] at e
        cases e)
  have md : L2.Mod K mg (hidT t1.heap H) := ⟨KB, nsB hm, ⟨mb, nsB hb, hbb⟩, hlim.elim fun mc h => ⟨mc, nsB h.1, h.2⟩⟩
  have tb : ∀ p ∈ tbs, TabB (hidT t1.heap H) mg p.1 p.2 := fun p mp => by
    refine ⟨?_, ?_, fun z => ?_⟩
    · obtain ⟨o, vs, file, tf, flags, tg, inF, text, tt, e1, r1, r2, r3, rest⟩ := cd p mp
      refine ⟨o, vs, file, tf, flags, tg, inF, text, tt, toB e1 (free e1 (fun v n z => ?_) fun z => ?_), r1, r2, r3, rest⟩
      · rw [r2] at z
        cases z
      · rw [r2] at z
        cases z
        simp at r3
    · obtain ⟨bm, ob, b1, b2, b3, b4, b5, b6⟩ := hbm
      refine ⟨bm, ob, b1, b2, fun q => ?_, fun q => ?_, toB b3 (free b3 (fun v n z => by rw [b6] at z; cases z) fun z => by rw [b6] at z; cases z), b4, b5, b6⟩
      · obtain ⟨o, es, ep, e, d, _⟩ := hm
        rw [q, e] at b3
        cases b3
        rw [d] at b6
        cases b6
      · rw [q, hT p mp] at b3
        cases b3
        cases b6
    · obtain ⟨o, es, ep, e, d, _⟩ := hm
      rw [z, hT p mp] at e
      cases e
      cases d
  have e0 : Env0 P w K mg (hidT t1.heap H) callerA [] t1 H := ⟨rfl, md, fun b o e => of_hidT e, Nat.le_of_eq (hidT_size _ _), trivial, fun b m => (List.not_mem_nil m).elim, hok, .of_eq hg⟩
  refine codeAny_mono ((F _ KB (nsB hm) tb).run callerA [] t1 H ⟨[.ref aL], []⟩ [.ref aL] [.ref aL] _ _ hr rfl e0 (hbind t1 (.ref aL)) (.cons rfl .nil) (hsp H hH hS)) fun r s' post => ?_
  cases r with
  | error e => exact (hCX H e s' post).elim
  | ok fl =>
    cases fl with
    | ret v =>
      obtain ⟨y, H2, os, bare, un, hok2, ry, hy⟩ := post
      have hy : y = .bl true := hy
      subst hy
      obtain rfl : v = Value.bool true := ry
      have same : ∀ b o, b ∉ tbs.map (·.2) → t1.heap.get? b = some o → s'.heap.get? b = some o := fun b o nb e => by
        cases q : H b with
        | none => exact un.keep b o e q (by intro z; exact (List.not_mem_nil z).elim) (by simp)
        | some o2 =>
          rcases startH_c q with ⟨rfl, e1⟩ | ⟨_, m, _⟩
          · have e2 := hu o2 e1
            subst e2
            have z := e.symm.trans ha
            cases z
            exact (hok2 _ _ (un.frzs _ _ _ q)).1
          · exact (nb m).elim
      have more : ∀ p ∈ tbs, ∃ vs : Array Value, s'.heap.get? p.2 = some { cls := .none, data := .fields vs } := fun p mp => (un.tbls p.2 #[] (hH p mp)).elim fun vs z => ⟨_, hok2 p.2 _ z⟩
      refine ⟨rfl, ⟨fun b o e => ?_, fun b o e => ?_⟩, os, bare⟩
      · by_cases m : b ∈ tbs.map (·.2)
        · obtain ⟨q, mq, rfl⟩ := List.mem_map.mp m
          obtain ⟨vs, hv⟩ := more q mq
          have z := e.symm.trans (hT q mq)
          cases z
          exact .inr (.inl ⟨((cd q mq).tab (hT q mq)).isCodeTable, rfl, #[], vs, rfl, by rw [Array.empty_append]; exact hv⟩)
        · exact .inl (same b o m e)
      · by_cases m : b ∈ tbs.map (·.2)
        · obtain ⟨q, mq, rfl⟩ := List.mem_map.mp m
          obtain ⟨vs, hv⟩ := more q mq
          exact ⟨_, hv⟩
        · exact ⟨o, same b o m e⟩
    | next => exact post.elim
    | brk => exact post.elim
    | cont => exact post.elim
end
/-- what is known of the law's promise at the head's end -/
def AtG (l : PySem.W.OpenLaw) (w : World) (K : PySem.W.Frag) (CX : CXT) (k n : Nat) (x : Str) (mg : Str → Option Value) (fL : Addr) (h : Heap) : Prop :=
  ∃ (fd : FuncData) (tbs : List (Addr × Addr)) (sp : Sp), ((∀ p ∈ tbs, h.get? p.2 = some { cls := .none, data := .fields #[] }) ∧ (∀ p ∈ tbs, K.lookup p.2 = none) ∧ ∀ p ∈ tbs, PySem.W.CodeHd h p.1 p.2) ∧ (∀ (s : Shared) (u : Value), BindsTo s fd ⟨[u], []⟩ [(x, u)]) ∧
    (∀ (H : Hp) (a : Addr) (is : List Int), is.length ≤ n → (∀ p ∈ tbs, H p.2 = some (.tbl #[])) → SqL K H a (is.map V.int) → sp [.ref a] H (fun v _ => v = .bl true) fun _ _ _ => False) ∧ ∀ base : Heap, K.In base → base.Ns mainGlobals mg → (∀ p ∈ tbs, TabB base mg p.1 p.2) → L2.FnG l.prog w K mg base CX k fL fd [x] sp
theorem walkG {l : PySem.W.OpenLaw} {n k : Nat} {q : Program} {loose : List Str} {XP : (Str → Option Value) → Heap → Prop} {YP : World → Heap → Prop} {d : DefRec} {CX : World → CXT} {x : Str} (hn : l.most = some n) (hn2 : n ≤ sizeLine) (hdf : d.params.defaults = []) (hr : Room k callerA)
    (F : ∀ (w : World) (mg : Str → Option Value) (fL : Addr) (h : Heap), YP w h → h.Ns mainGlobals mg → mg d.name = some (.ref fL) → ∃ K : PySem.W.Frag, K.In h ∧ AtG l w K (CX w) k n x mg fL h) (hCX : ∀ (w : World) (H : Hp) (s : Shared) (e : Value) (s' : Shared), CX w [] H s (fun _ _ _ => False) e s' → False) :
    PySem.W.WalkO q loose XP YP l.row.toRowW d [] (fun f vs => PySem.call f vs) := by
  refine Att.attach_callB hn hdf fun w s0 t1 mg mb fL o pm cd doc a us is G Y ho hd hcd hmg hobj hints hlen hbits hg => ?_
  obtain ⟨K, KX, fd, tbs, sp, ⟨hT, nT, hC⟩, hb, hsp, hF⟩ := F w mg fL _ Y G.T.g hmg
  exact callG KX G.T.g G.T.b G.T.builtins G.T.nolimit hg hT nT hC G.T.bmain hobj hints (Nat.le_trans hlen hn2) hr hF hb (fun H hH hS => hsp H a is hlen hH hS) fun H e s' => hCX w H t1 e s'
end WkG

set_option Elab.async false
set_option linter.all false
set_option maxRecDepth 100000
namespace K31
open PySem L2
def top (i : Nat) : Stmt := PySem.Challenge.pw_gonewithin_k31_tallies_made_and_combined.main.body.getD i (.Pass ⟨0, 0, 0, 0⟩)
abbrev s_GoneError_init : Stmt := inClass (top 1) 0
abbrev s_is_number : Stmt := top 7
abbrev s_is_integer : Stmt := top 8
abbrev s_fits_tally : Stmt := top 12
abbrev s_fit_tally : Stmt := top 13
abbrev s_Counts_init : Stmt := inClass (top 14) 0
abbrev s_counts_in : Stmt := top 15
abbrev s_answer_text : Stmt := top 16
abbrev s_combined : Stmt := top 17
abbrev s_Tally_init : Stmt := inClass (top 18) 0
abbrev s_Tally_total : Stmt := inClass (top 18) 1
abbrev s_Tally_listed : Stmt := inClass (top 18) 2
abbrev s_Tally_within : Stmt := inClass (top 18) 3
abbrev s_Tally_getitem : Stmt := inClass (top 18) 4
abbrev s_Tally_iter : Stmt := inClass (top 18) 5
abbrev s_Tally_len : Stmt := inClass (top 18) 6
abbrev s_Tally_bool : Stmt := inClass (top 18) 7
abbrev s_Tally_contains : Stmt := inClass (top 18) 8
abbrev s_Tally_eq : Stmt := inClass (top 18) 9
abbrev s_Tally_add : Stmt := inClass (top 18) 10
abbrev s_Tally_sub : Stmt := inClass (top 18) 11
abbrev s_Tally_mul : Stmt := inClass (top 18) 12
abbrev s_Tally_rmul : Stmt := inClass (top 18) 13
abbrev s_Tally_str : Stmt := inClass (top 18) 14
abbrev s_require_alike : Stmt := top 19
abbrev s__law_dice : Stmt := top 21
abbrev s__law_roll : Stmt := top 22
abbrev s__law_pick : Stmt := top 23
abbrev s__law_mixed : Stmt := top 24
abbrev s__law_pool : Stmt := top 25
abbrev s__law_number : Stmt := top 26
abbrev s__law_pairs : Stmt := top 27
abbrev s__law_text : Stmt := top 28
abbrev s__law_refused : Stmt := top 29
abbrev s__law_bad : Stmt := top 30
abbrev s__law_strange : Stmt := top 31
abbrev s__law_right : Stmt := top 32
abbrev s__law_counts : Stmt := top 33
abbrev s__law_added : Stmt := top 34
abbrev s__law_times : Stmt := top 35
abbrev s__law_shows : Stmt := top 36
abbrev s__law_within : Stmt := top 37
abbrev s__law_refused_too : Stmt := top 38
abbrev s__law_less_right : Stmt := top 39
abbrev s__law_others_right : Stmt := top 40
abbrev s__law_right_too : Stmt := top 41
abbrev s__law_one : Stmt := top 42
abbrev s__law_other : Stmt := top 43
abbrev s_law : Stmt := top 44
def d_is_number : He.DefD := ⟨("is_number", none), "is_number", "is_number", defArgs s_is_number, defBody s_is_number, defScope s_is_number, [], []⟩
def d_is_integer : He.DefD := ⟨("is_integer", none), "is_integer", "is_integer", defArgs s_is_integer, defBody s_is_integer, defScope s_is_integer, [], []⟩
def d_fits_tally : He.DefD := ⟨("fits_tally", none), "fits_tally", "fits_tally", defArgs s_fits_tally, defBody s_fits_tally, defScope s_fits_tally, [], []⟩
def d_fit_tally : He.DefD := ⟨("fit_tally", none), "fit_tally", "fit_tally", defArgs s_fit_tally, defBody s_fit_tally, defScope s_fit_tally, [], []⟩
def d_Counts_init : He.DefD := ⟨("Counts", some "__init__"), "__init__", "Counts.__init__", defArgs s_Counts_init, defBody s_Counts_init, defScope s_Counts_init, [], []⟩
def d_counts_in : He.DefD := ⟨("counts_in", none), "counts_in", "counts_in", defArgs s_counts_in, defBody s_counts_in, defScope s_counts_in, [], []⟩
def d_answer_text : He.DefD := ⟨("answer_text", none), "answer_text", "answer_text", defArgs s_answer_text, defBody s_answer_text, defScope s_answer_text, [], []⟩
def d_combined : He.DefD := ⟨("combined", none), "combined", "combined", defArgs s_combined, defBody s_combined, defScope s_combined, [], []⟩
def d_Tally_init : He.DefD := ⟨("Tally", some "__init__"), "__init__", "Tally.__init__", defArgs s_Tally_init, defBody s_Tally_init, defScope s_Tally_init, [.non], []⟩
def d_Tally_within : He.DefD := ⟨("Tally", some "within"), "within", "Tally.within", defArgs s_Tally_within, defBody s_Tally_within, defScope s_Tally_within, [], []⟩
def d_Tally_getitem : He.DefD := ⟨("Tally", some "__getitem__"), "__getitem__", "Tally.__getitem__", defArgs s_Tally_getitem, defBody s_Tally_getitem, defScope s_Tally_getitem, [], []⟩
def d_Tally_iter : He.DefD := ⟨("Tally", some "__iter__"), "__iter__", "Tally.__iter__", defArgs s_Tally_iter, defBody s_Tally_iter, defScope s_Tally_iter, [], []⟩
def d_Tally_len : He.DefD := ⟨("Tally", some "__len__"), "__len__", "Tally.__len__", defArgs s_Tally_len, defBody s_Tally_len, defScope s_Tally_len, [], []⟩
def d_Tally_bool : He.DefD := ⟨("Tally", some "__bool__"), "__bool__", "Tally.__bool__", defArgs s_Tally_bool, defBody s_Tally_bool, defScope s_Tally_bool, [], []⟩
def d_Tally_contains : He.DefD := ⟨("Tally", some "__contains__"), "__contains__", "Tally.__contains__", defArgs s_Tally_contains, defBody s_Tally_contains, defScope s_Tally_contains, [], []⟩
def d_Tally_eq : He.DefD := ⟨("Tally", some "__eq__"), "__eq__", "Tally.__eq__", defArgs s_Tally_eq, defBody s_Tally_eq, defScope s_Tally_eq, [], []⟩
def d_Tally_add : He.DefD := ⟨("Tally", some "__add__"), "__add__", "Tally.__add__", defArgs s_Tally_add, defBody s_Tally_add, defScope s_Tally_add, [], []⟩
def d_Tally_sub : He.DefD := ⟨("Tally", some "__sub__"), "__sub__", "Tally.__sub__", defArgs s_Tally_sub, defBody s_Tally_sub, defScope s_Tally_sub, [], []⟩
def d_Tally_mul : He.DefD := ⟨("Tally", some "__mul__"), "__mul__", "Tally.__mul__", defArgs s_Tally_mul, defBody s_Tally_mul, defScope s_Tally_mul, [], []⟩
def d_Tally_rmul : He.DefD := ⟨("Tally", some "__rmul__"), "__rmul__", "Tally.__rmul__", defArgs s_Tally_rmul, defBody s_Tally_rmul, defScope s_Tally_rmul, [], []⟩
def d_Tally_str : He.DefD := ⟨("Tally", some "__str__"), "__str__", "Tally.__str__", defArgs s_Tally_str, defBody s_Tally_str, defScope s_Tally_str, [], []⟩
def d_require_alike : He.DefD := ⟨("require_alike", none), "require_alike", "require_alike", defArgs s_require_alike, defBody s_require_alike, defScope s_require_alike, [], []⟩
def d__law_dice : He.DefD := ⟨("_law_dice", none), "_law_dice", "_law_dice", defArgs s__law_dice, defBody s__law_dice, defScope s__law_dice, [], []⟩
def d__law_roll : He.DefD := ⟨("_law_roll", none), "_law_roll", "_law_roll", defArgs s__law_roll, defBody s__law_roll, defScope s__law_roll, [], []⟩
def d__law_pick : He.DefD := ⟨("_law_pick", none), "_law_pick", "_law_pick", defArgs s__law_pick, defBody s__law_pick, defScope s__law_pick, [], []⟩
def d__law_mixed : He.DefD := ⟨("_law_mixed", none), "_law_mixed", "_law_mixed", defArgs s__law_mixed, defBody s__law_mixed, defScope s__law_mixed, [], []⟩
def d__law_pool : He.DefD := ⟨("_law_pool", none), "_law_pool", "_law_pool", defArgs s__law_pool, defBody s__law_pool, defScope s__law_pool, [], []⟩
def d__law_number : He.DefD := ⟨("_law_number", none), "_law_number", "_law_number", defArgs s__law_number, defBody s__law_number, defScope s__law_number, [], []⟩
def d__law_pairs : He.DefD := ⟨("_law_pairs", none), "_law_pairs", "_law_pairs", defArgs s__law_pairs, defBody s__law_pairs, defScope s__law_pairs, [], []⟩
def d__law_text : He.DefD := ⟨("_law_text", none), "_law_text", "_law_text", defArgs s__law_text, defBody s__law_text, defScope s__law_text, [], []⟩
def d__law_refused : He.DefD := ⟨("_law_refused", none), "_law_refused", "_law_refused", defArgs s__law_refused, defBody s__law_refused, defScope s__law_refused, [], []⟩
def d__law_bad : He.DefD := ⟨("_law_bad", none), "_law_bad", "_law_bad", defArgs s__law_bad, defBody s__law_bad, defScope s__law_bad, [], []⟩
def d__law_strange : He.DefD := ⟨("_law_strange", none), "_law_strange", "_law_strange", defArgs s__law_strange, defBody s__law_strange, defScope s__law_strange, [], []⟩
def d__law_right : He.DefD := ⟨("_law_right", none), "_law_right", "_law_right", defArgs s__law_right, defBody s__law_right, defScope s__law_right, [], []⟩
def d__law_counts : He.DefD := ⟨("_law_counts", none), "_law_counts", "_law_counts", defArgs s__law_counts, defBody s__law_counts, defScope s__law_counts, [], []⟩
def d__law_added : He.DefD := ⟨("_law_added", none), "_law_added", "_law_added", defArgs s__law_added, defBody s__law_added, defScope s__law_added, [], []⟩
def d__law_times : He.DefD := ⟨("_law_times", none), "_law_times", "_law_times", defArgs s__law_times, defBody s__law_times, defScope s__law_times, [], []⟩
def d__law_shows : He.DefD := ⟨("_law_shows", none), "_law_shows", "_law_shows", defArgs s__law_shows, defBody s__law_shows, defScope s__law_shows, [], []⟩
def d__law_within : He.DefD := ⟨("_law_within", none), "_law_within", "_law_within", defArgs s__law_within, defBody s__law_within, defScope s__law_within, [], []⟩
def d__law_refused_too : He.DefD := ⟨("_law_refused_too", none), "_law_refused_too", "_law_refused_too", defArgs s__law_refused_too, defBody s__law_refused_too, defScope s__law_refused_too, [], []⟩
def d__law_less_right : He.DefD := ⟨("_law_less_right", none), "_law_less_right", "_law_less_right", defArgs s__law_less_right, defBody s__law_less_right, defScope s__law_less_right, [], []⟩
def d__law_others_right : He.DefD := ⟨("_law_others_right", none), "_law_others_right", "_law_others_right", defArgs s__law_others_right, defBody s__law_others_right, defScope s__law_others_right, [], []⟩
def d__law_right_too : He.DefD := ⟨("_law_right_too", none), "_law_right_too", "_law_right_too", defArgs s__law_right_too, defBody s__law_right_too, defScope s__law_right_too, [], []⟩
def d__law_one : He.DefD := ⟨("_law_one", none), "_law_one", "_law_one", defArgs s__law_one, defBody s__law_one, defScope s__law_one, [], []⟩
def d__law_other : He.DefD := ⟨("_law_other", none), "_law_other", "_law_other", defArgs s__law_other, defBody s__law_other, defScope s__law_other, [], []⟩
def d_law : He.DefD := ⟨("law", none), "law", "law", defArgs s_law, defBody s_law, defScope s_law, [], []⟩
def d_Tally_total : He.DefD := ⟨("Tally", some "total"), "total", "Tally.total", defArgs s_Tally_total, defBody s_Tally_total, defScope s_Tally_total, [], []⟩
def d_Tally_listed : He.DefD := ⟨("Tally", some "listed"), "listed", "Tally.listed", defArgs s_Tally_listed, defBody s_Tally_listed, defScope s_Tally_listed, [], []⟩
def fn : List He.DefD := [d_is_number, d_is_integer, d_fits_tally, d_fit_tally, d_Counts_init, d_counts_in, d_answer_text, d_combined, d_Tally_init, d_Tally_within, d_Tally_getitem, d_Tally_iter, d_Tally_len, d_Tally_bool, d_Tally_contains, d_Tally_eq, d_Tally_add, d_Tally_sub, d_Tally_mul, d_Tally_rmul, d_Tally_str, d_require_alike, d__law_dice, d__law_roll] ++ [d__law_pick, d__law_mixed, d__law_pool, d__law_number, d__law_pairs, d__law_text, d__law_refused, d__law_bad, d__law_strange, d__law_right, d__law_counts, d__law_added, d__law_times, d__law_shows, d__law_within, d__law_refused_too, d__law_less_right, d__law_others_right, d__law_right_too, d__law_one, d__law_other, d_law]
end K31

set_option Elab.async false
set_option linter.all false
set_option maxRecDepth 100000
set_option maxHeartbeats 4000000
namespace K31
open PySem PyProof.Rows L2 Dt
abbrev FunOf (K : PySem.W.Frag) (d : He.DefD) (f : Addr) (fd : FuncData) : Prop := FunD K d.name d.qual d.params d.body d.scope (d.dvs K) (d.kws K) f fd
/-- what the module's names stand for -/
structure Bi (mg : Str → Option Value) : Prop where
  ValueError : mg "ValueError" = none
  abs : mg "abs" = none
  all : mg "all" = none
  any : mg "any" = none
  bool : mg "bool" = none
  dict : mg "dict" = none
  enumerate : mg "enumerate" = none
  int : mg "int" = none
  isinstance : mg "isinstance" = none
  iter : mg "iter" = none
  len : mg "len" = none
  list : mg "list" = none
  max : mg "max" = none
  min : mg "min" = none
  range : mg "range" = none
  repr : mg "repr" = none
  set : mg "set" = none
  sorted : mg "sorted" = none
  str : mg "str" = none
  sum : mg "sum" = none
  tuple : mg "tuple" = none
  LEAST : ∃ t, mg "LEAST" = some (.int (1 - 10 ^ 20) t)
  GREATEST : ∃ t, mg "GREATEST" = some (.int (10 ^ 20 - 1) t)
  MOST_TERMS : ∃ t, mg "MOST_TERMS" = some (.int (4) t)
  BEYOND : ∃ t, mg "BEYOND" = some (.int (10 ^ 40) t)
theorem nt {b : Bool} (h : (!b) = true) : b = false := by cases b <;> simp_all
theorem nf {b : Bool} (h : (!b) = false) : b = true := by cases b <;> simp_all
def num : D → Bool
  | .int _ => true
  | _ => false
def int20 : D → Bool
  | .int i => decide (1 - 10 ^ 20 ≤ i) && decide (i ≤ 10 ^ 20 - 1)
  | _ => false
/-- the promises -/
def fst (as : List D) : D := as.headD .non
section
variable {P : Program} {w : World} {K : PySem.W.Frag} {mg : Str → Option Value} {base : Heap} {k : Nat} {f : Addr} {fd : FuncData} {L : List Addr}
def one (p : D → Prop) (as : List D) : Prop := ∃ d, as = [d] ∧ p d
abbrev p_is_number (K : PySem.W.Frag) (L : List Addr) : Sp := spF K (one fun d => kc L d = true) fun as => .bl (num (fst as))
theorem t_is_number (B : Bi mg) (kl : KL K L) (F : FunOf K d_is_number f fd) : FnOk P w K mg base (L2.CX P w) (k + 1) f fd ["value"] (p_is_number K L) :=
  fn_d (N := ["value"]) F (C8.fnScope_by rfl) (fun as ⟨d, e, _⟩ => by subst e; rfl) fun c as cdv A outer s E hr ⟨d, e, kn⟩ hz => by
    subst e
    refine dss_one (ds_ret (DV.cast (dv_and (dv_isA rfl B.isinstance rfl B.int (dv_v 0) kl kn) fun h => dv_one (dv_not (dv_isA rfl B.isinstance rfl B.bool (dv_v 0) kl kn))) ?_))
    cases d <;> rfl
abbrev p_is_integer (K : PySem.W.Frag) (L : List Addr) : Sp := spF K (one fun d => kc L d = true) fun as => .bl (int20 (fst as))
theorem t_is_integer (B : Bi mg) (kl : KL K L) (C1 : Cl P w K mg base k "is_number" (p_is_number K L) []) (F : FunOf K d_is_integer f fd) : FnOk P w K mg base (L2.CX P w) (k + 1) f fd ["value"] (p_is_integer K L) :=
  fn_d (N := ["value"]) F (C8.fnScope_by rfl) (fun as ⟨d, e, _⟩ => by subst e; rfl) fun c as cdv A outer s E hr ⟨d, e, kn⟩ hz => by
    subst e
    refine dss_one (ds_ret (DV.cast (dv_and (x := num d) (y := int20 d) ?_ fun h => ?_) ?_))
    · exact dv_callF C1 hr (Nat.le_refl _) rfl (dl_cons (dv_v 0) da_nil) ⟨d, rfl, kn⟩ rfl
    · cases d with
      | int i => exact dv_one (dv_chain (de_gint rfl B.LEAST) (dv_v 0) (de_gint rfl B.GREATEST) o_le (fun _ => o_le))
      | _ => cases h
    · cases d <;> rfl
/-- an answer of a tally -/
def ansD : D → Bool
  | .tup xs => decide (xs.length ≤ 4) && xs.all int20
  | _ => false
/-- .. and the parts of a tuple too -/
structure KnT (L : List Addr) (d : D) : Prop where
  kn : kc L d = true
  pt : ∀ xs, d = .tup xs → xs.length ≤ 1000 ∧ ∀ x ∈ xs, kc L x = true
abbrev p_fits_tally (K : PySem.W.Frag) (L : List Addr) : Sp := spF K (one (KnT L)) fun as => .bl (ansD (fst as))
theorem t_fits_tally (B : Bi mg) (kl : KL K L) (C1 : Cl P w K mg base k "is_integer" (p_is_integer K L) []) (F : FunOf K d_fits_tally f fd) : FnOk P w K mg base (L2.CX P w) (k + 1) f fd ["value"] (p_fits_tally K L) :=
  fn_d (N := ["value", "one"]) F (C8.fnScope_by rfl) (fun as ⟨d, e, _⟩ => by subst e; rfl) fun c as cdv A outer s E hr ⟨d, e, kn⟩ hz => by
    subst e
    refine dss_one (ds_ret (DV.cast (dv_and (x := isA "tuple" d) (y := ansD d) ?_ fun h => ?_) ?_))
    · exact dv_isA rfl B.isinstance rfl B.tuple (dv_v 0) kl kn.kn
    · cases d with
      | tup xs =>
        obtain ⟨hl, hx⟩ := kn.pt xs rfl
        refine dv_and (x := decide (xs.length ≤ 4)) (y := xs.all int20) ?_ fun h => dv_one ?_
        · exact dv_cmp (dv_callB rfl B.len rfl (dl_cons (dv_v 0) da_nil) c_lenT) (de_gint rfl B.MOST_TERMS) (o_le.imp fun d e => by rw [e]; simp [Int.ofNat_le]; omega) rfl
        · refine dv_callB rfl B.all rfl (dl_cons (dv_map1 (i := 1) (r := fun d => .bl (int20 d)) rfl (of_decide_eq_true rfl) rfl (di_tup (DV.to (dv_v 0) ⟨xs, rfl, rfl⟩)) rfl rfl (fun d m s H C cl fp => ?_) (small_line hl)) da_nil) ?_
          · exact dv_callF C1 (hr : Room k _) (Nat.le_refl _) rfl (dl_cons (dv_v 1) da_nil) ⟨d, rfl, hx d m⟩ rfl
          · exact c_allM rfl
      | _ => cases h
    · cases d <;> rfl
/-- a number of a tally -/
def numOk : D → Bool
  | .int i => decide (0 ≤ i) && decide (i < 10 ^ 40)
  | _ => false
/-- a dict of which a tally can be made -/
def fitD : D → Bool
  | .dic ks es => (ks.all fun k => ansD (kD k)) && es.all numOk && decide (diffs (ks.map fun k => (k.length : Int)) ≤ 1)
  | _ => false
def keysOk : D → Bool
  | .dic ks _ => ks.all fun k => ansD (kD k)
  | _ => false
structure KnF (L : List Addr) (d : D) : Prop where
  kn : kc L d = true
  mx : ∀ ks, d = .mix ks → ks.length ≤ 1000 ∧ (∀ k ∈ ks, KnT L k) ∧ ∃ k ∈ ks, ansD k = false
  pt : ∀ ks es, d = .dic ks es → ks.length ≤ 1000 ∧ ks.length = es.length ∧ ks.Nodup ∧ (∀ k ∈ ks, k.length ≤ 1000) ∧ ∀ x ∈ es, kc L x = true
theorem kn_key {L : List Addr} {k : L2.Key} : kc L (keyD k) = true := by cases k <;> rfl
theorem knT_key {L : List Addr} {k : List L2.Key} (h : k.length ≤ 1000) : KnT L (kD k) := ⟨rfl, fun xs e => by
  cases e
  exact ⟨by simpa using h, fun x m => by
    obtain ⟨q, _, rfl⟩ := List.mem_map.mp m
    exact kn_key⟩⟩
theorem lookD_mem : ∀ {ks : List (List L2.Key)} {es : List D}, ks.length = es.length → ∀ k ∈ ks, ∃ d, lookD ks es k = some d ∧ d ∈ es
  | [], [], _, _, h => by cases h
  | k0 :: ks, e :: es, hl, k, h => by
    unfold lookD
    by_cases z : k0 = k
    · exact ⟨e, if_pos z, List.mem_cons_self⟩
    · rw [if_neg z]
      obtain ⟨d, h1, h2⟩ := lookD_mem (Nat.succ.inj hl) k ((List.mem_cons.mp h).resolve_left fun y => z y.symm)
      exact ⟨d, h1, List.mem_cons_of_mem _ h2⟩
theorem lookD_all {p : D → Bool} : ∀ {ks : List (List L2.Key)} {es : List D}, ks.length = es.length → ks.Nodup → (ks.all fun k => p ((lookD ks es k).getD .non)) = es.all p
  | [], [], _, _ => rfl
  | k0 :: ks, e :: es, hl, hn => by
    obtain ⟨n1, n2⟩ := List.nodup_cons.mp hn
    rw [List.all_cons, List.all_cons, ← lookD_all (p := p) (Nat.succ.inj hl) n2]
    have h0 : lookD (k0 :: ks) (e :: es) k0 = some e := if_pos rfl
    rw [h0]
    congr 1
    rw [Bool.eq_iff_iff, List.all_eq_true, List.all_eq_true]
    have h1 : ∀ k ∈ ks, lookD (k0 :: ks) (e :: es) k = lookD ks es k := fun k m => if_neg fun (z : k0 = k) => n1 (z ▸ m)
    exact ⟨fun a k m => by rw [← h1 k m]; exact a k m, fun a k m => by rw [h1 k m]; exact a k m⟩
abbrev p_fit_tally (K : PySem.W.Frag) (L : List Addr) : Sp := spF K (one (KnF L)) fun as => .bl (fitD (fst as))
theorem t_fit_tally (B : Bi mg) (kl : KL K L) (C1 : Cl P w K mg base k "is_number" (p_is_number K L) []) (C2 : Cl P w K mg base k "fits_tally" (p_fits_tally K L) []) (F : FunOf K d_fit_tally f fd) : FnOk P w K mg base (L2.CX P w) (k + 1) f fd ["value"] (p_fit_tally K L) :=
  fn_d (N := ["value", "answer"]) F (C8.fnScope_by rfl) (fun as ⟨d, e, _⟩ => by subst e; rfl) fun c as cdv A outer s E hr ⟨d, e, kn⟩ hz => by
    subst e
    refine dss_guard (b := !(keysOk d)) (DB.cast (db_w (dw_or (x := !(isA "dict" d)) (y := !(keysOk d)) ?_ fun hd => dw_or1 (db_not ?_))) ?_) (fun h => ?_) fun h => ?_
    · exact db_not (db_val (dv_isA rfl B.isinstance rfl B.dict (dv_v 0) kl kn.kn))
    · cases d with
      | mix ks =>
        obtain ⟨h1, h2, q0, m0, h3⟩ := kn.mx ks rfl
        refine db_val (DV.cast (dv_callB rfl B.all rfl (dl_cons (dv_mapA (i := 1) (as := ks) (kf := fun d => d) (fun _ _ h => h) (r := fun k => .bl (ansD k)) rfl (of_decide_eq_true rfl) rfl (DI.imp (di_mix (dv_v 0)) fun es e => by rw [e, List.map_id']) rfl rfl (fun q m s H C cl fp => ?_) (small_line h1)) da_nil) (c_allM rfl)) (congrArg D.bl ?_))
        · exact dv_callF C2 (hr : Room k _) (Nat.le_refl _) rfl (dl_cons (dv_v 1) da_nil) ⟨_, rfl, h2 q m⟩ rfl
        · show ks.all ansD = false
          rw [Bool.eq_false_iff]
          intro z
          rw [List.all_eq_true.mp z q0 m0] at h3
          cases h3
      | dic ks es =>
        obtain ⟨h1, h2, h3, h4, h5⟩ := kn.pt ks es rfl
        refine db_val (dv_callB rfl B.all rfl (dl_cons (de_lock (i := 0) rfl fun c' _ => dv_mapA (i := 1) kD_inj (r := fun k => .bl (ansD (kD k))) rfl (of_decide_eq_true rfl) rfl (di_K 0) rfl rfl (fun q m s H C cl fp => ?_) (small_line h1)) da_nil) (c_allM rfl))
        exact dv_callF C2 (hr : Room k _) (Nat.le_refl _) rfl (dl_cons (dv_v 1) da_nil) ⟨_, rfl, knT_key (h4 q m)⟩ rfl
      | _ => cases hd
    · cases d <;> rfl
    · refine ds_retV de_bl ?_
      cases d with
      | dic ks es =>
        show D.bl false = D.bl (fitD (.dic ks es))
        have h : (!(ks.all fun k => ansD (kD k))) = true := h
        have e0 : fitD (.dic ks es) = ((ks.all fun k => ansD (kD k)) && es.all numOk && decide (diffs (ks.map fun k => (k.length : Int)) ≤ 1)) := rfl
        rw [e0, nt h]
        rfl
      | _ => rfl
    cases d with
    | dic ks es =>
      have h : (!(ks.all fun k => ansD (kD k))) = false := h
      obtain ⟨h1, h2, h3, h4, h5⟩ := kn.pt ks es rfl
      have e0 : fitD (.dic ks es) = ((ks.all fun k => ansD (kD k)) && (es.all numOk && decide (diffs (ks.map fun k => (k.length : Int)) ≤ 1))) := Bool.and_assoc _ _ _
      rw [nf h, Bool.true_and] at e0
      refine dss_guard (b := !(es.all numOk)) (db_not (db_val ?_)) (fun h => ds_retV de_bl ?_) fun h => dss_one (ds_ret ?_)
      · refine dv_callB rfl B.all rfl (dl_cons (de_lock (i := 0) rfl fun c' _ => dv_mapA (i := 1) kD_inj (r := fun k => .bl (numOk ((lookD ks es k).getD .non))) rfl (of_decide_eq_true rfl) rfl (di_K 0) rfl rfl (fun q m s H C cl fp => ?_) (small_line h1)) da_nil) ((c_allM rfl).imp fun d e => by rw [e, lookD_all h2 h3])
        obtain ⟨d, e1, e2⟩ := lookD_mem h2 q m
        refine DV.cast (dv_and (x := num d) (y := numOk d) ?_ fun h => ?_) ?_
        · exact dv_callF C1 (hr : Room k _) (Nat.le_refl _) rfl (dl_cons (dv_dget (rm hr 1) (dv_L 0) (dv_v 1) e1) da_nil) ⟨d, rfl, h5 d e2⟩ rfl
        · cases d with
          | int i => exact dv_one (dv_chain de_int (dv_dget (rm hr 1) (dv_L 0) (dv_v 1) e1) (de_gint rfl B.BEYOND) o_le (fun _ => o_lt))
          | _ => cases h
        · rw [e1]
          cases d <;> rfl
      · show D.bl false = D.bl (fitD (.dic ks es))
        rw [e0, nt h]
        rfl
      · refine dv_cmp (dv_lenSet (ns := ks.map fun k => (k.length : Int)) rfl B.len rfl B.set rfl (de_lock (i := 0) rfl fun c' _ => DV.cast (dv_mapA (i := 1) kD_inj (r := fun k => .int k.length) rfl (of_decide_eq_true rfl) rfl (di_K 0) rfl rfl (fun q m s H C cl fp => ?_) (small_line h1)) ?_) ?_) de_int (o_le.imp fun d e => ?_) rfl
        · exact dv_callB rfl B.len rfl (dl_cons (dv_v 1) da_nil) (c_lenT.imp fun d e => by rw [e, List.length_map])
        · unfold D.ints
          rw [List.map_map]
          rfl
        · rw [List.length_map]; omega
        · show d = D.bl (fitD (.dic ks es))
          rw [e0, nf h, Bool.true_and, e]
          exact congrArg D.bl (decide_eq_decide.mpr (by omega))
    | _ => cases h
end
end K31

set_option Elab.async false
set_option linter.all false
set_option maxRecDepth 100000
set_option maxHeartbeats 4000000
namespace K31
open PySem PyProof.Rows L2 Dt
/-- the program's own classes: Tally, Counts, InvalidTally, InvalidOperation -/
structure Ow (P : Program) (K : PySem.W.Frag) (mg : Str → Option Value) (CT CC CI CO : Addr) : Prop where
  Tally : mg "Tally" = some (.ref CT)
  Counts : mg "Counts" = some (.ref CC)
  InvalidTally : mg "InvalidTally" = some (.ref CI)
  InvalidOperation : mg "InvalidOperation" = some (.ref CO)
  kl : KL K [CT, CC]
  ne : CT ≠ CC
  gI : ∃ D f, PySem.GX.GExc P K CI D f
  gO : ∃ D f, PySem.GX.GExc P K CO D f
  clT : Cls K CT
  clC : Cls K CC
  na1 : NoAttr K CT "own_answers"
  na2 : NoAttr K CT "own_numbers"
  na3 : NoAttr K CC "own_told"
section
variable {P : Program} {w : World} {K : PySem.W.Frag} {mg : Str → Option Value} {base : Heap} {k : Nat} {f : Addr} {fd : FuncData} {CT CC CI CO : Addr}
def cntD (C : Addr) (d : D) : D := .obj C ["own_told"] [d]
abbrev p_Counts (K : PySem.W.Frag) (CC : Addr) : Sp := spI K CC (fun as => ∃ d, as = [d]) (fun as r => ∃ d, as = [d] ∧ r = cntD CC d) noX
theorem t_Counts (O : Ow P K mg CT CC CI CO) (F : FunOf K d_Counts_init f fd) : FnOk P w K mg base (L2.CX P w) (k + 1) f fd ["self", "told"] (p_Counts K CC) :=
  fn_i (N := ["self", "told"]) F (C8.fnScope_by rfl) (fun as ⟨d, e⟩ => by subst e; rfl) fun x0 c as cdv A outer s H E hr ⟨d, e⟩ hz hE => by
    subst e
    exact dss_one (ds_fldNew (i := 0) rfl (.inl rfl) rfl (dv_v 1) O.clC O.na3 (by decide) (by decide) fun d' z => ⟨["own_told"], [d'], rfl, d, rfl, by subst z; rfl⟩)
def cntOk (CC : Addr) (d : D) : Bool := d.isN || isO CC d || fitD d
def cntF : D → D
  | .non => .dic [] []
  | .obj _ _ [e] => e
  | d => d
structure KnC (CT CC : Addr) (d : D) : Prop where
  ft : KnF [CT, CC] d
  ob : isO CC d = true → ∃ e, d = cntD CC e
abbrev p_counts_in (K : PySem.W.Frag) (CT CC CI : Addr) : Sp := spR K (one (KnC CT CC)) (fun as => cntOk CC (fst as)) (fun as => cntF (fst as)) CI
theorem t_counts_in (B : Bi mg) (O : Ow P K mg CT CC CI CO) (C1 : Dt.Cl P w K mg base (k + 1) "fit_tally" (p_fit_tally K [CT, CC]) []) (F : FunOf K d_counts_in f fd) : FnOk P w K mg base (L2.CX P w) (k + 2) f fd ["counts"] (p_counts_in K CT CC CI) :=
  fn_dX (N := ["counts"]) F (C8.fnScope_by rfl) (fun as ⟨d, e, _⟩ => by subst e; rfl) fun c as cdv A outer s E hr ⟨d, e, kn⟩ hz hE => by
    subst e
    have tk : TkE (cxOf (L2.CX P w) P w K mg base ["counts"] d_counts_in.qual d_counts_in.scope f cdv A outer s c.H0 E) E := L2.takes_of rfl rfl rfl rfl
    obtain ⟨D0, f0, gI⟩ := O.gI
    refine dss_guard (b := d.isN) (db_cmp (dv_v 0) de_non o_isN rfl) (fun h => ?_) fun h => ?_
    · cases d with
      | non => exact ds_retV dv_dnil ⟨rfl, rfl⟩
      | _ => cases h
    refine dss_guard (b := isO CC d) (db_val (dv_isO rfl B.isinstance rfl O.Counts (dv_v 0) O.kl (by simp) kn.ft.kn)) (fun h2 => ?_) fun h2 => ?_
    · obtain ⟨e, rfl⟩ := kn.ob h2
      refine ds_retV (dv_fld (j := 0) (dv_v 0) rfl O.clC O.na3 (fun vs hl => ?_) rfl) ⟨by show cntOk CC _ = true; unfold cntOk; rw [show isO CC (fst [cntD CC e]) = true from h2]; simp, rfl⟩
      match vs, hl with
      | [v], _ => rfl
    refine dss_guard (b := !(fitD d)) (db_not (db_val (dv_callF C1 (hr : Room (k + 1) _) (Nat.le_refl _) rfl (dl_cons (dv_v 0) da_nil) ⟨d, rfl, kn.ft⟩ rfl))) (fun h3 => ?_) fun h3 => ?_
    · refine dss_raise rfl tk gI O.InvalidTally (hr : Room (k + 1) _) rfl fun H' l => hE _ _ ⟨?_, rfl⟩ l
      show cntOk CC d = false
      unfold cntOk
      rw [h, h2, nt h3]
      rfl
    · refine ds_retV (dv_v 0) ⟨?_, ?_⟩
      · show cntOk CC d = true
        unfold cntOk
        rw [nf h3]
        simp
      · cases d with
        | dic ks es => rfl
        | _ => cases (nf h3)
/-! answers: tuples of ints -/
abbrev Ans := List Int
def kI (a : Ans) : List L2.Key := a.map .inl
def ansT (a : Ans) : D := .tup (a.map .int)
theorem kD_kI (a : Ans) : kD (kI a) = ansT a := by
  unfold kD kI ansT
  rw [List.map_map]
  rfl
theorem kI_inj : ∀ a b, kI a = kI b → a = b := map_inj fun a b h => by injection h
theorem ansT_inj : ∀ a b, ansT a = ansT b → a = b := fun a b h => map_inj int_inj a b (by injection h)
def iS (i : Int) : Str := toString i
/-- ints whose text is short -/
def shI (i : Int) : Prop := i.natAbs.log2 < 1920 ∧ (iS i).length ≤ 600
structure shA (a : Ans) : Prop where
  len : a.length ≤ 10
  it : ∀ i ∈ a, shI i
def inS (a : Ans) : Str := Txt.join ", " (a.map iS)
def txtA (a : Ans) : Str := joinS Str.empty ["(", inS a, ")"]
theorem sum_le {α : Type} {f : α → Nat} {n : Nat} : ∀ {l : List α}, (∀ x ∈ l, f x ≤ n) → (l.map f).sum ≤ l.length * n
  | [], _ => by simp
  | x :: l, h => by
    rw [List.map_cons, List.sum_cons, List.length_cons, Nat.succ_mul]
    have h1 := h x List.mem_cons_self
    have h2 := sum_le (l := l) fun y m => h y (List.mem_cons_of_mem _ m)
    omega
theorem t_answer_text (B : Bi mg) (F : FunOf K d_answer_text f fd) (a : Ans) (sh : shA a) (hz : (txtA a).length ≤ sizeLine) (hz2 : (inS a).length ≤ sizeLine) : FnOk P w K mg base (L2.CX P w) (k + 1) f fd ["answer"] (spV K [ansT a] (.str (txtA a))) :=
  fn_d (N := ["answer", "integer"]) F (C8.fnScope_by rfl) (fun as e => by subst e; rfl) fun c as cdv A outer s E hr e hz' => by
    subst e
    refine ds_retV (dv_joined (dj_cons de_str (dj_cons (dv_fmtS (dv_join (ys := a.map iS) ?_ ?_) hz2) (dj_cons de_str dj_nil))) hz) rfl
    · refine DV.cast (dv_mapA (as := a) (i := 1) int_inj (r := fun i => .str (iS i)) rfl (of_decide_eq_true rfl) rfl (di_tup (DV.to (dv_v 0) ⟨_, rfl, rfl⟩)) rfl rfl (fun i m s H C cl fp => ?_) (small_line (by have := sh.len; omega))) (by rw [List.map_map]; rfl)
      exact dv_callTy rfl B.str rfl (dl_cons (dv_v 1) da_nil) (c_strI (sh.it i m).1)
    · have h1 : ((a.map iS).map (·.length)).sum ≤ (a.map iS).length * 600 := sum_le fun x m => by
        obtain ⟨i, hi, rfl⟩ := List.mem_map.mp m
        exact (sh.it i hi).2
      have h2 : (", " : Str).length = 2 := by decide
      rw [h2]
      rw [List.length_map] at h1 ⊢
      have := sh.len
      omega
/-! tallies -/
abbrev Tm := List (Ans × Int)
def dicN (m : Tm) : D := .dic (m.map fun p => kI p.1) (D.ints (m.map (·.2)))
def ansL (m : Tm) : List D := m.map fun p => ansT p.1
def talD (C : Addr) (m : Tm) : D := .obj C ["own_answers", "own_numbers"] [.tup (ansL m), dicN m]
def numAt (m : Tm) (a : Ans) : Int := (m.lookup a).getD 0
theorem look_dicN (a : Ans) : ∀ m : Tm, lookD (m.map fun p => kI p.1) (D.ints (m.map (·.2))) (kI a) = (m.lookup a).map .int
  | [] => rfl
  | (b, n) :: m => by
    show (if kI b = kI a then some (.int n) else lookD (m.map fun p => kI p.1) (D.ints (m.map (·.2))) (kI a)) = _
    rw [look_dicN a m, List.lookup_cons]
    by_cases z : b = a
    · subst z
      simp
    · rw [if_neg fun y => z (kI_inj _ _ y)]
      have : (a == b) = false := by simpa using fun y : a = b => z y.symm
      rw [this]
/-- another operand: a tally, or none -/
inductive Oth where
  | tal (m : Tm)
  | no (d : D)
def Oth.d (CT : Addr) : Oth → D
  | .tal m => talD CT m
  | .no d => d
def Oth.good (CT CC : Addr) : Oth → Prop
  | .tal m => m.length ≤ 1000
  | .no d => kc [CT, CC] d = true ∧ isO CT d = false
def lens (m : Tm) : List Int := m.map fun p => (p.1.length : Int)
def okAl (m : Tm) : Oth → Bool
  | .tal m' => decide (diffs (lens m ++ lens m') ≤ 1)
  | .no _ => false
theorem fld0 {X : Cx} {c : Fx} {ds : List Sl} {e : Expr} {m : Tm} {pos : Pos} (O : Ow X.prog X.K mg CT CC CI CO) (he : DV X c ds e (talD CT m)) (hb : attributeBase e "own_answers" X.env (eval e X.env) = eval e X.env := by rfl) : DV X c ds (.Attribute e "own_answers" pos) (.tup (ansL m)) :=
  dv_fld (j := 0) he hb O.clT O.na1 (fun vs hl => match vs, hl with | [_, _], _ => rfl) rfl
theorem fld1 {X : Cx} {c : Fx} {ds : List Sl} {e : Expr} {m : Tm} {pos : Pos} (O : Ow X.prog X.K mg CT CC CI CO) (he : DV X c ds e (talD CT m)) (hb : attributeBase e "own_numbers" X.env (eval e X.env) = eval e X.env := by rfl) : DV X c ds (.Attribute e "own_numbers" pos) (dicN m) :=
  dv_fld (j := 1) he hb O.clT O.na2 (fun vs hl => match vs, hl with | [_, _], _ => rfl) rfl
theorem t_require_alike (B : Bi mg) (O : Ow P K mg CT CC CI CO) (F : FunOf K d_require_alike f fd) (m : Tm) (o : Oth) (hm : m.length ≤ 1000) (ho : o.good CT CC) : FnOk P w K mg base (L2.CX P w) (k + 2) f fd ["one", "other"] (spO K [talD CT m, o.d CT] (okAl m o) .non CO) :=
  fn_dX (N := ["one", "other", "answer"]) F (C8.fnScope_by rfl) (fun as e => by subst e; rfl) fun c as cdv A outer s E hr e hz hE => by
    subst e
    have tk : TkE (cxOf (L2.CX P w) P w K mg base ["one", "other", "answer"] d_require_alike.qual d_require_alike.scope f cdv A outer s c.H0 E) E := L2.takes_of rfl rfl rfl rfl
    obtain ⟨D0, f0, gO⟩ := O.gO
    have kco : kc [CT, CC] (o.d CT) = true := by
      cases o with
      | tal m' => exact decide_eq_true (by simp)
      | no d => exact ho.1
    refine dss_guard (b := !(isO CT (o.d CT))) (db_not (db_val (dv_isO rfl B.isinstance rfl O.Tally (dv_v 1) O.kl (by simp) kco))) (fun h => ?_) fun h => ?_
    · refine dss_raise rfl tk gO O.InvalidOperation (hr : Room (k + 1) _) rfl fun H' l => hE _ _ ⟨?_, rfl⟩ l
      cases o with
      | tal m' => exact absurd h (by show ¬ ((!decide (CT = CT)) = true); simp)
      | no d => rfl
    cases o with
    | no d =>
      have := ho.2
      have h : (!(isO CT d)) = false := h
      rw [this] at h
      cases h
    | tal m' =>
      have hm' : m'.length ≤ 1000 := ho
      refine dss_guard (b := !(okAl m (.tal m'))) (db_cmp (dv_lenSet (ns := lens m ++ lens m') rfl B.len rfl B.set rfl ?_ ?_) de_int (o_gt.imp fun d e => ?_) rfl) (fun h => ?_) fun h => dss_nil ⟨nf h, rfl⟩
      · refine DV.cast (dv_mapA (as := (m ++ m').map (·.1)) (kf := ansT) (i := 2) ansT_inj (r := fun a => .int a.length) rfl (of_decide_eq_true rfl) rfl (di_tup (DE.imp (dv_bin (fld0 O (dv_v 0)) (fld0 O (dv_v 1)) (o_catT (xs := ansL m) (ys := ansL m') ?_)) fun d e => ⟨_, e, ?_⟩)) rfl rfl (fun a ha s H C cl fp => ?_) (by rw [sizeLine_eq, List.length_map, List.length_append]; omega)) ?_
        · unfold ansL
          rw [sizeLine_eq, List.length_map, List.length_map]
          omega
        · unfold ansL
          rw [List.map_map, List.map_append]
          rfl
        · exact dv_callB rfl B.len rfl (dl_cons (dv_v 2) da_nil) (c_lenT.imp fun d e => by rw [e, List.length_map])
        · unfold D.ints lens
          rw [List.map_map, List.map_append, List.map_append, List.map_map, List.map_map]
          rfl
      · unfold lens
        rw [List.length_append, List.length_map, List.length_map]
        omega
      · rw [e]
        show D.bl _ = D.bl (!decide _)
        rw [← decide_not]
        exact congrArg D.bl (decide_eq_decide.mpr (by omega))
      · exact dss_raise rfl tk gO O.InvalidOperation (hr : Room (k + 1) _) rfl fun H' l => hE _ _ ⟨nt h, rfl⟩ l
/-! sorted answers -/
def pyA (a : Ans) : PyData := .tuple (a.map .int)
theorem pyAll_ints : ∀ a : Ans, D.pyAll (a.map .int) = some (a.map PyData.int)
  | [] => rfl
  | i :: a => by
    rw [List.map_cons, List.map_cons]
    unfold D.pyAll
    rw [pyAll_ints a]
    rfl
theorem py_ansT (a : Ans) : (ansT a).py = some (pyA a) := by
  unfold ansT D.py
  rw [pyAll_ints a]
  rfl
def sortA (as : List Ans) : List Ans := as.mergeSort (PySem.W.dataLe false pyA)
theorem alike_ints : ∀ a b : List Int, PySem.W.alikeAll (a.map PyData.int) (b.map PyData.int) = true
  | [], _ => by unfold PySem.W.alikeAll; rfl
  | _ :: _, [] => by rw [List.map_cons, List.map_nil]; unfold PySem.W.alikeAll; rfl
  | _ :: a, _ :: b => by
    rw [List.map_cons, List.map_cons]
    unfold PySem.W.alikeAll
    rw [alike_ints a b]
    rfl
theorem depth_all : ∀ a : List Int, PyData.depthAll (a.map PyData.int) ≤ 1
  | [] => by unfold PyData.depthAll; decide
  | i :: a => by
    rw [List.map_cons]
    unfold PyData.depthAll
    have := depth_all a
    have e : (PyData.int i).depth ≤ 1 := by unfold PyData.depth; decide
    omega
theorem depth_ints (a : List Int) : (pyA a).depth ≤ 60 := by
  unfold pyA PyData.depth
  have := depth_all a
  omega
theorem c_sortA {X : Cx} {c : Fx} {as : List Ans} (hu : X.A.units + 64 < cLine) (h : as.length ≤ 1 ∨ ∀ a ∈ as, a ≠ []) : CallD X (.builtin "sorted") c [.lst (as.map ansT)] (· = .lst ((sortA as).map ansT)) := by
  rcases h with h | h
  · have e : sortA as = as := by
      match as, h with
      | [], _ => exact List.mergeSort_nil
      | [a], _ => exact List.mergeSort_singleton a
    rw [e]
    exact c_sort1 (by rw [List.length_map]; exact h)
  · have e1 : as.map ansT = (as.map fun a => (ansT a, pyA a)).map (·.1) := by rw [List.map_map]; rfl
    have e2 : (as.map fun a => (ansT a, pyA a)).map (·.2) = as.map pyA := by rw [List.map_map]; rfl
    rw [e1]
    refine (c_sort hu (fun p m => ?_) ?_ ?_ fun p m => ?_).imp fun d z => ?_
    · obtain ⟨a, _, rfl⟩ := List.mem_map.mp m
      exact py_ansT a
    · rw [e2]
      exact PySem.W.AllAlike.of fun a b => by
        unfold pyA PySem.W.alike
        exact alike_ints a b
    · rw [e2]
      refine .inl fun d m => ?_
      obtain ⟨a, ha, rfl⟩ := List.mem_map.mp m
      have := h a ha
      cases a with
      | nil => exact (this rfl).elim
      | cons i r => exact ⟨_, _, rfl⟩
    · obtain ⟨a, _, rfl⟩ := List.mem_map.mp m
      exact depth_ints a
    · rw [z]
      unfold sortDs sortA
      have e := List.map_mergeSort (r := PySem.W.dataLe false pyA) (s := PySem.W.dataLe false fun x : D × PyData => x.2) (f := fun a => (ansT a, pyA a)) (l := as) (fun a _ b _ => rfl)
      rw [← e, List.map_map]
      rfl
/-! a tally made -/
def posA (m : Tm) : List Ans := (m.map (·.1)).filter fun a => decide (0 < numAt m a)
def tallyOf (m : Tm) : Tm := (sortA (posA m)).map fun a => (a, numAt m a)
structure Tw (m : Tm) : Prop where
  nd : (m.map (·.1)).Nodup
  len : m.length ≤ 1000
  one : m.length ≤ 1 ∨ ∀ a ∈ posA m, a ≠ []
theorem look_mem {m : Tm} {a : Ans} (h : a ∈ m.map (·.1)) : m.lookup a = some (numAt m a) := by
  unfold numAt
  induction m with
  | nil => cases h
  | cons p m ih =>
    rw [List.lookup_cons]
    by_cases z : a = p.1
    · have : (a == p.1) = true := by simpa using z
      rw [this]
      rfl
    · have e : (a == p.1) = false := by simpa using z
      rw [e]
      rw [List.map_cons, List.mem_cons] at h
      exact ih (h.resolve_left z)
theorem posA_len (m : Tm) : (posA m).length ≤ m.length := by
  unfold posA
  exact Nat.le_trans (List.length_filter_le _ _) (by rw [List.length_map]; exact Nat.le_refl _)
theorem sortA_perm (as : List Ans) : (sortA as).Perm as := List.mergeSort_perm _ _
theorem posA_nd {m : Tm} (h : Tw m) : (sortA (posA m)).Nodup := (sortA_perm _).nodup_iff.mpr (h.nd.filter _)
theorem sortA_mem {m : Tm} {a : Ans} (h : a ∈ sortA (posA m)) : a ∈ m.map (·.1) := (List.mem_filter.mp ((sortA_perm _).mem_iff.mp h)).1
abbrev p_Tally (K : PySem.W.Frag) (CT CI : Addr) (d : D) (ok : Bool) (m : Tm) : Sp := spI K CT (· = [d]) (fun _ r => ok = true ∧ r = talD CT (tallyOf m)) (fun _ cls => ok = false ∧ cls = .ref CI)
theorem t_Tally (B : Bi mg) (O : Ow P K mg CT CC CI CO) (C1 : Dt.Cl P w K mg base (k + 2) "counts_in" (p_counts_in K CT CC CI) []) (F : FunOf K d_Tally_init f fd) (d : D) (m : Tm) (kn : KnC CT CC d) (hm : cntOk CC d = true → cntF d = dicN m ∧ Tw m) : FnOk P w K mg base (L2.CX P w) (k + 3) f fd ["self", "counts"] (p_Tally K CT CI d (cntOk CC d) m) :=
  fn_i (N := ["self", "counts", "told", "answer"]) F (C8.fnScope_by rfl) (fun as e => by subst e; rfl) fun x0 c as cdv A outer s H E hr e hz hE => by
    subst e
    have tk : TkE (cxOf (L2.CX P w) P w K mg base ["self", "counts", "told", "answer"] d_Tally_init.qual d_Tally_init.scope f cdv A outer s H E) E := L2.takes_of rfl rfl rfl rfl
    have hN : ["self", "counts", "told", "answer"].Nodup := by decide
    refine dss_cons (N := fun ds => cntOk CC d = true ∧ ds = [.obj x0 CT [] [], .val d, .val (dicN m), .no]) (ds_set (i := 2) (of_decide_eq_true rfl) rfl (.inr rfl) (de_callX C1 (hr : Room (k + 2) _) (Nat.le_refl _) rfl tk.pass (dl_cons (dv_v 1) da_nil) ⟨d, rfl, kn⟩ rfl fun H' hk l => hE _ _ ⟨hk, rfl⟩ l) fun r hr => ⟨hr.1, ?_⟩) ?_
    · obtain ⟨h1, rfl⟩ := hr
      show _ = [Sl.obj x0 CT [] [], .val d, .val (dicN m), .no]
      rw [← (hm h1).1]
      rfl
    rintro ds ⟨hk, rfl⟩
    obtain ⟨e1, tw⟩ := hm hk
    refine dss_to (ds' := [.obj x0 CT ["own_answers"] [.tup ((sortA (posA m)).map ansT)], .val d, .val (dicN m), .no]) (ds_fldNew (i := 0) rfl (.inl rfl) rfl (P := (· = .tup ((sortA (posA m)).map ansT))) ?_ O.clT O.na1 (by decide) (by decide) fun d' z => by subst z; rfl) (dss_one (ds_fldNew (i := 0) rfl (.inl rfl) rfl (P := (· = dicN (tallyOf m))) ?_ O.clT O.na2 (by decide) (by decide) fun d' z => ⟨_, _, rfl, hk, by subst z; unfold talD ansL tallyOf; rw [List.map_map]; rfl⟩))
    · refine dv_callTy rfl B.tuple rfl (dl_cons (dv_callB rfl B.sorted rfl (dl_cons (de_lock (i := 2) rfl fun c' _ => dv_filterA (i := 3) (as := m.map (·.1)) (kf := ansT) (t := fun a => decide (0 < numAt m a)) (r := ansT) ansT_inj rfl (of_decide_eq_true rfl) rfl ((di_K 2).imp fun es e => ?_) rfl rfl (fun a ha s H C cl fp => ?_) (fun a ha ht s H C cl fp => ?_) ?_) da_nil) (c_sortA (rm hr 64) ?_)) da_nil) c_tupL
      · rw [e, List.map_map, List.map_map]
        exact List.map_congr_left fun p _ => kD_kI p.1
      · refine db_cmp (dv_dget (rm hr 1) (dv_L 2) (DV.cast (dv_v 3) (kD_kI a).symm) (d := .int (numAt m a)) ?_) de_int (o_gt.imp fun d e => e) rfl
        rw [look_dicN, look_mem ha]
        rfl
      · exact dv_v 3
      · have := tw.len
        rw [sizeLine_eq, List.length_map]
        omega
      · rcases tw.one with h | h
        · exact .inl (Nat.le_trans (posA_len m) h)
        · exact .inr h
    · refine DV.cast (dv_dcA (i := 3) (as := sortA (posA m)) (kf0 := ansT) (kf := kI) (vf := fun a => .int (numAt m a)) ansT_inj (rm hr 0) rfl (of_decide_eq_true rfl) rfl (di_tup (DV.to (dv_fldOwn (i := 0) (j := 0) rfl (.inl rfl) rfl rfl O.clT O.na1 (fun vs hl => match vs, hl with | [_], _ => rfl) rfl) ⟨_, rfl, rfl⟩)) rfl rfl (fun a ha s H C cl fp => ?_) (fun a ha s H C cl fp => ?_) ?_ ?_) ?_
      · exact DV.cast (dv_v 3) (kD_kI a).symm
      · refine dv_dget (rm hr 1) (dv_v 2) (DV.cast (dv_v 3) (kD_kI a).symm) ?_
        rw [look_dicN, look_mem (sortA_mem ha)]
        rfl
      · exact (posA_nd tw).map _ fun a b h z => h (kI_inj _ _ z)
      · rw [sizeLine_eq, (sortA_perm _).length_eq]
        have := tw.len
        have := posA_len m
        omega
      · unfold dicN tallyOf D.ints
        rw [List.map_map, List.map_map, List.map_map]
        rfl
end
end K31

set_option Elab.async false
set_option linter.all false
set_option maxRecDepth 100000
set_option maxHeartbeats 4000000
namespace K31
open PySem PyProof.Rows L2 Dt
section
variable {P : Program} {w : World} {K : PySem.W.Frag} {mg : Str → Option Value} {base : Heap} {k : Nat} {f : Addr} {fd : FuncData} {CT CC CI CO : Addr}
/-! two tallies combined -/
def combA (m m' : Tm) : List Ans := nubA [] (m.map (·.1) ++ m'.map (·.1))
def combM (m m' : Tm) (sg : Int) : Tm := (combA m m').map fun a => (a, numAt m a + sg * numAt m' a)
theorem getD_dicN (m : Tm) (a : Ans) : (lookD (m.map fun p => kI p.1) (D.ints (m.map (·.2))) (kI a)).getD (.int 0) = .int (numAt m a) := by
  rw [look_dicN]
  unfold numAt
  cases m.lookup a <;> rfl
theorem t_combined (B : Bi mg) (O : Ow P K mg CT CC CI CO) (F : FunOf K d_combined f fd) (m m' : Tm) (sg : Int) (hm : m.length + m'.length ≤ 1000) (hs : ∀ a, CMulW sg (numAt m' a)) : FnOk P w K mg base (L2.CX P w) (k + 1) f fd ["one", "other", "sign"] (spV K [talD CT m, talD CT m', .int sg] (dicN (combM m m' sg))) :=
  fn_d (N := ["one", "other", "sign", "answers", "answer"]) F (C8.fnScope_by rfl) (fun as e => by subst e; rfl) fun c as cdv A outer s E hr e hz => by
    subst e
    refine dss_to (ds' := [.val (talD CT m), .val (talD CT m'), .val (.int sg), .val (.tup (ansL m ++ ansL m')), .no]) (ds_set (i := 3) (of_decide_eq_true rfl) rfl (.inl rfl) (P := (· = .tup (ansL m ++ ansL m'))) ?_ fun d e => by subst e; rfl) (ds_retV (d := dicN (combM m m' sg)) ?_ rfl)
    · refine DV.cast (dv_tup (da_starT (fld0 O (dv_v 0)) (da_starT (fld0 O (dv_v 1)) da_nil)) ?_) (by rw [List.append_nil])
      unfold ansL
      rw [List.append_nil, List.length_append, List.length_map, List.length_map]
      exact hm
    · refine DV.cast (dv_dcN (i := 4) (as := m.map (·.1) ++ m'.map (·.1)) (kf0 := ansT) (kf := kI) (vf := fun a => .int (numAt m a + sg * numAt m' a)) ansT_inj kI_inj (rm hr 0) rfl (of_decide_eq_true rfl) rfl (di_tup (DV.to (dv_v 3) ⟨_, rfl, ?_⟩)) rfl rfl (fun a ha s H C cl fp => ?_) (fun a ha s H C cl fp => ?_) ?_) ?_
      · unfold ansL
        rw [List.map_append, List.map_map, List.map_map]
        rfl
      · exact DV.cast (dv_v 4) (kD_kI a).symm
      · refine dv_bin (DV.cast (dv_dget2 (rm hr 1) (fld1 O (dv_v 0)) (DV.cast (dv_v 4) (kD_kI a).symm) de_int ⟨rfl, rfl, rfl, rfl⟩) (getD_dicN m a)) (dv_bin (dv_v 2) (DV.cast (dv_dget2 (rm hr 1) (fld1 O (dv_v 1)) (DV.cast (dv_v 4) (kD_kI a).symm) de_int ⟨rfl, rfl, rfl, rfl⟩) (getD_dicN m' a)) (o_mul (hs a))) o_add
      · rw [sizeLine_eq, List.length_append, List.length_map, List.length_map]
        omega
      · unfold dicN combM combA D.ints
        rw [List.map_map, List.map_map, List.map_map]
        rfl
/-! a tally read -/
theorem int20_inv {d : D} (h : int20 d = true) : ∃ i, d = .int i := by
  cases d with
  | int i => exact ⟨i, rfl⟩
  | _ => cases h
theorem ints_of : ∀ {xs : List D}, xs.all int20 = true → ∃ a : Ans, xs = a.map .int
  | [], _ => ⟨[], rfl⟩
  | x :: xs, h => by
    rw [List.all_cons, Bool.and_eq_true] at h
    obtain ⟨i, rfl⟩ := int20_inv h.1
    obtain ⟨a, rfl⟩ := ints_of h.2
    exact ⟨i :: a, rfl⟩
theorem ansD_inv {d : D} (h : ansD d = true) : ∃ a, d = ansT a := by
  cases d with
  | tup xs =>
    have h : (decide (xs.length ≤ 4) && xs.all int20) = true := h
    rw [Bool.and_eq_true] at h
    obtain ⟨a, rfl⟩ := ints_of h.2
    exact ⟨a, rfl⟩
  | _ => cases h
/-- the number of a value -/
noncomputable def valAt (m : Tm) (d : D) : Int := if ansD d = true then via ansT (numAt m) 0 d else 0
noncomputable def inAt (m : Tm) (d : D) : Bool := ansD d && via ansT (fun a => (m.lookup a).isSome) false d
theorem valAt_at (m : Tm) {a : Ans} (h : ansD (ansT a) = true) : valAt m (ansT a) = numAt m a := by
  unfold valAt
  rw [if_pos h, via_at ansT_inj]
theorem t_getitem (B : Bi mg) (O : Ow P K mg CT CC CI CO) (C1 : Dt.Cl P w K mg base k "fits_tally" (p_fits_tally K [CT, CC]) []) (F : FunOf K d_Tally_getitem f fd) (m : Tm) (d : D) (kn : KnT [CT, CC] d) : FnOk P w K mg base (L2.CX P w) (k + 1) f fd ["self", "answer"] (spV K [talD CT m, d] (.int (valAt m d))) :=
  fn_d (N := ["self", "answer"]) F (C8.fnScope_by rfl) (fun as e => by subst e; rfl) fun c as cdv A outer s E hr e hz => by
    subst e
    refine ds_retV (d := .int (valAt m d)) (de_ifExp (Pt := (· = ansD d)) (db_val (dv_callF C1 (hr : Room k _) (Nat.le_refl _) rfl (dl_cons (dv_v 1) da_nil) ⟨d, rfl, kn⟩ rfl)) (fun h => ?_) fun h => ?_) rfl
    · obtain ⟨a, rfl⟩ := ansD_inv h.symm
      rw [valAt_at m h.symm]
      exact DV.cast (dv_dget2 (rm hr 1) (fld1 O (dv_v 0)) (DV.cast (dv_v 1) (kD_kI a).symm) de_int ⟨rfl, rfl, rfl, rfl⟩) (getD_dicN m a)
    · unfold valAt
      rw [← h]
      exact de_int
theorem t_contains (B : Bi mg) (O : Ow P K mg CT CC CI CO) (C1 : Dt.Cl P w K mg base k "fits_tally" (p_fits_tally K [CT, CC]) []) (F : FunOf K d_Tally_contains f fd) (m : Tm) (d : D) (kn : KnT [CT, CC] d) : FnOk P w K mg base (L2.CX P w) (k + 1) f fd ["self", "value"] (spV K [talD CT m, d] (.bl (inAt m d))) :=
  fn_d (N := ["self", "value"]) F (C8.fnScope_by rfl) (fun as e => by subst e; rfl) fun c as cdv A outer s E hr e hz => by
    subst e
    refine ds_retV (d := .bl (inAt m d)) (dv_and (x := ansD d) (dv_callF C1 (hr : Room k _) (Nat.le_refl _) rfl (dl_cons (dv_v 1) da_nil) ⟨d, rfl, kn⟩ rfl) fun h => ?_) rfl
    obtain ⟨a, rfl⟩ := ansD_inv h
    refine dv_one (DV.cast (dv_din (rm hr 1) (DV.cast (dv_v 1) (kD_kI a).symm) (fld1 O (dv_v 0))) ?_)
    rw [look_dicN, via_at ansT_inj]
    cases m.lookup a <;> rfl
theorem t_len (B : Bi mg) (O : Ow P K mg CT CC CI CO) (F : FunOf K d_Tally_len f fd) (m : Tm) : FnOk P w K mg base (L2.CX P w) (k + 1) f fd ["self"] (spV K [talD CT m] (.int m.length)) :=
  fn_d (N := ["self"]) F (C8.fnScope_by rfl) (fun as e => by subst e; rfl) fun c as cdv A outer s E hr e hz => by
    subst e
    exact ds_retV (dv_callB rfl B.len rfl (dl_cons (fld0 O (dv_v 0)) da_nil) (c_lenT.imp fun d e => by rw [e]; unfold ansL; rw [List.length_map])) rfl
theorem t_bool (B : Bi mg) (O : Ow P K mg CT CC CI CO) (F : FunOf K d_Tally_bool f fd) (m : Tm) : FnOk P w K mg base (L2.CX P w) (k + 1) f fd ["self"] (spV K [talD CT m] (.bl (!m.isEmpty))) :=
  fn_d (N := ["self"]) F (C8.fnScope_by rfl) (fun as e => by subst e; rfl) fun c as cdv A outer s E hr e hz => by
    subst e
    exact ds_retV (dv_callTy rfl B.bool rfl (dl_cons (fld0 O (dv_v 0)) da_nil) (c_boolT.imp fun d e => by rw [e]; unfold ansL; cases m <;> rfl)) rfl
/-! tallies made of reckoned numbers -/
section
variable {X : Cx} {c : Fx} {ds : List Sl} {ea : Expr} {d : D} {pos p : Pos} {j : Nat} {m : Tm} {E : XK}
theorem dv_counts (MC : Mkr X.prog X.w X.K X.mg X.base k "Counts" CC (p_Counts X.K CC) []) (hr : Room j X.A) (hk : k + 1 ≤ j) (hg : Gl X "Counts") (ha : DV X c ds ea d)
    (he : starEach [ea] X.env = (false, eval ea X.env) :: starEach [] X.env := by rfl) (hpl : (backTo pos (starEach [] X.env)).any (·.1) = false := by rfl) : DV X c ds (.Call (.Name "Counts" p) [ea] [] pos) (cntD CC d) :=
  de_make (das := []) (E := EF) MC (fun _ => .nil) hr hk hg passF (dl_cons ha da_nil he) (fun as e => by subst e; exact ⟨d, rfl⟩) (fun as r e q => by
    subst e
    obtain ⟨d', e1, e2⟩ := q
    cases e1
    exact e2) (fun _ _ _ _ z => z.elim) (by decide) he hpl
theorem dv_tally {b : Bool} (MT : Mkr X.prog X.w X.K X.mg X.base k "Tally" CT (p_Tally X.K CT CI d b m) []) (hb : b = true) (hr : Room j X.A) (hk : k + 1 ≤ j) (hg : Gl X "Tally") (ha : DV X c ds ea d)
    (he : starEach [ea] X.env = (false, eval ea X.env) :: starEach [] X.env := by rfl) (hpl : (backTo pos (starEach [] X.env)).any (·.1) = false := by rfl) : DV X c ds (.Call (.Name "Tally" p) [ea] [] pos) (talD CT (tallyOf m)) :=
  de_make (das := []) (E := EF) MT (fun _ => .nil) hr hk hg passF (dl_cons ha da_nil he) (fun as e => by subst e; rfl) (fun as r e q => q.2) (fun _ _ _ _ z => by rw [hb] at z; cases z.1) (by decide) he hpl
theorem de_tally {b : Bool} (MT : Mkr X.prog X.w X.K X.mg X.base k "Tally" CT (p_Tally X.K CT CI d b m) []) (hr : Room j X.A) (hk : k + 1 ≤ j) (hg : Gl X "Tally") (hx : Passes (L2.CX X.prog X.w) X E) (ha : DV X c ds ea d) (hE : ∀ H', b = false → Le c.z c.H0 H' → E (.ref CI) none H')
    (he : starEach [ea] X.env = (false, eval ea X.env) :: starEach [] X.env := by rfl) (hpl : (backTo pos (starEach [] X.env)).any (·.1) = false := by rfl) : DE X c ds (.Call (.Name "Tally" p) [ea] [] pos) (fun r => b = true ∧ r = talD CT (tallyOf m)) :=
  de_make (das := []) MT (fun _ => .nil) hr hk hg hx (dl_cons ha da_nil he) (fun as e => by subst e; rfl) (fun as r e q => q) (fun _ cls H' _ z l => by obtain ⟨z1, rfl⟩ := z; exact hE H' z1 l) (by decide) he hpl
end
/-- the makers, by what is told -/
structure Mk2 (P : Program) (w : World) (K : PySem.W.Frag) (mg : Str → Option Value) (base : Heap) (k : Nat) (CT CC CI : Addr) : Prop where
  C : Mkr P w K mg base k "Counts" CC (p_Counts K CC) []
  T : ∀ d m, KnC CT CC d → (cntOk CC d = true → cntF d = dicN m ∧ Tw m) → Mkr P w K mg base k "Tally" CT (p_Tally K CT CI d (cntOk CC d) m) []
theorem knC_cnt {d : D} : KnC CT CC (cntD CC d) := ⟨⟨decide_eq_true (by simp), fun _ e => (by cases e), fun _ _ e => (by cases e)⟩, fun _ => ⟨d, rfl⟩⟩
theorem cntOk_cnt {d : D} : cntOk CC (cntD CC d) = true := by
  unfold cntOk
  have : isO CC (cntD CC d) = true := decide_eq_true rfl
  rw [this]
  simp
theorem Mk2.tc (M : Mk2 P w K mg base k CT CC CI) {m : Tm} (h : Tw m) : Mkr P w K mg base k "Tally" CT (p_Tally K CT CI (cntD CC (dicN m)) (cntOk CC (cntD CC (dicN m))) m) [] := M.T _ m knC_cnt fun _ => ⟨rfl, h⟩
theorem t_add (B : Bi mg) (O : Ow P K mg CT CC CI CO) (M : Mk2 P w K mg base k CT CC CI) (C1 : ∀ m o, m.length ≤ 1000 → o.good CT CC → Dt.Cl P w K mg base (k + 1) "require_alike" (spO K [talD CT m, o.d CT] (okAl m o) .non CO) [])
    (C2 : ∀ m m' sg, m.length + m'.length ≤ 1000 → (∀ a, CMulW sg (numAt m' a)) → Dt.Cl P w K mg base k "combined" (spV K [talD CT m, talD CT m', .int sg] (dicN (combM m m' sg))) []) (F : FunOf K d_Tally_add f fd) (m : Tm) (o : Oth) (ho : o.good CT CC) (hm : m.length ≤ 1000)
    (hg : ∀ m', o = .tal m' → okAl m o = true → m.length + m'.length ≤ 1000 ∧ (∀ a, CMulW 1 (numAt m' a)) ∧ Tw (combM m m' 1)) : FnOk P w K mg base (L2.CX P w) (k + 2) f fd ["self", "other"] (spO K [talD CT m, o.d CT] (okAl m o) (match o with | .tal m' => talD CT (tallyOf (combM m m' 1)) | .no _ => .non) CO) :=
  fn_dX (N := ["self", "other"]) F (C8.fnScope_by rfl) (fun as e => by subst e; rfl) fun c as cdv A outer s E hr e hz hE => by
    subst e
    have tk : TkE (cxOf (L2.CX P w) P w K mg base ["self", "other"] d_Tally_add.qual d_Tally_add.scope f cdv A outer s c.H0 E) E := L2.takes_of rfl rfl rfl rfl
    refine dss_cons (N := fun ds => okAl m o = true ∧ ds = [.val (talD CT m), .val (o.d CT)]) (ds_expr (de_callO (C1 m o hm ho) (hr : Room (k + 1) _) (Nat.le_refl _) rfl tk.pass (dl_cons (dv_v 0) (dl_cons (dv_v 1) da_nil)) fun H' hk l => hE _ _ ⟨hk, rfl⟩ l) fun d h => ⟨h.1, rfl⟩) ?_
    rintro ds ⟨hk, rfl⟩
    cases o with
    | no d => cases hk
    | tal m' =>
      obtain ⟨h1, h2, h3⟩ := hg m' rfl hk
      refine ds_retV (d := talD CT (tallyOf (combM m m' 1))) (dv_tally (M.tc h3) cntOk_cnt (hr : Room (k + 1) _) (Nat.le_refl _) rfl (dv_counts M.C (hr : Room (k + 1) _) (Nat.le_refl _) rfl ?_)) ⟨hk, rfl⟩
      exact dv_callV (C2 m m' 1 h1 h2) (hr : Room (k + 1) _) (Nat.le_succ _) rfl (dl_cons (dv_v 0) (dl_cons (dv_v 1) (dl_cons de_int da_nil)))
/-- a number below 0 -/
def negM (m : Tm) : Bool := (m.map (·.1)).any fun a => decide (numAt m a < 0)
def okSub (m : Tm) : Oth → Bool
  | .tal m' => okAl m (.tal m') && !(negM (combM m m' (-1)))
  | .no _ => false
theorem t_sub (B : Bi mg) (O : Ow P K mg CT CC CI CO) (M : Mk2 P w K mg base k CT CC CI) (C1 : ∀ m o, m.length ≤ 1000 → o.good CT CC → Dt.Cl P w K mg base (k + 1) "require_alike" (spO K [talD CT m, o.d CT] (okAl m o) .non CO) [])
    (C2 : ∀ m m' sg, m.length + m'.length ≤ 1000 → (∀ a, CMulW sg (numAt m' a)) → Dt.Cl P w K mg base k "combined" (spV K [talD CT m, talD CT m', .int sg] (dicN (combM m m' sg))) []) (F : FunOf K d_Tally_sub f fd) (m : Tm) (o : Oth) (ho : o.good CT CC) (hm : m.length ≤ 1000)
    (hg : ∀ m', o = .tal m' → okAl m o = true → m.length + m'.length ≤ 1000 ∧ (∀ a, CMulW (-1) (numAt m' a)) ∧ (combA m m').length ≤ 1000 ∧ (negM (combM m m' (-1)) = false → Tw (combM m m' (-1)))) : FnOk P w K mg base (L2.CX P w) (k + 2) f fd ["self", "other"] (spO K [talD CT m, o.d CT] (okSub m o) (match o with | .tal m' => talD CT (tallyOf (combM m m' (-1))) | .no _ => .non) CO) :=
  fn_dX (N := ["self", "other", "told", "answer"]) F (C8.fnScope_by rfl) (fun as e => by subst e; rfl) fun c as cdv A outer s E hr e hz hE => by
    subst e
    have tk : TkE (cxOf (L2.CX P w) P w K mg base ["self", "other", "told", "answer"] d_Tally_sub.qual d_Tally_sub.scope f cdv A outer s c.H0 E) E := L2.takes_of rfl rfl rfl rfl
    obtain ⟨D0, f0, gO⟩ := O.gO
    refine dss_cons (N := fun ds => okAl m o = true ∧ ds = [.val (talD CT m), .val (o.d CT), .no, .no]) (ds_expr (de_callO (C1 m o hm ho) (hr : Room (k + 1) _) (Nat.le_refl _) rfl tk.pass (dl_cons (dv_v 0) (dl_cons (dv_v 1) da_nil)) fun H' hk l => hE _ _ ⟨?_, rfl⟩ l) fun d h => ⟨h.1, rfl⟩) ?_
    · cases o with
      | no d => rfl
      | tal m' => show (okAl m (.tal m') && !(negM (combM m m' (-1)))) = false; rw [hk]; rfl
    rintro ds ⟨hk, rfl⟩
    cases o with
    | no d => cases hk
    | tal m' =>
      obtain ⟨h1, h2, h4, h3⟩ := hg m' rfl hk
      refine dss_to (ds' := [.val (talD CT m), .val (talD CT m'), .val (dicN (combM m m' (-1))), .no]) (ds_set (i := 2) (of_decide_eq_true rfl) rfl (.inr rfl) (P := (· = dicN (combM m m' (-1)))) ?_ fun d e => by subst e; rfl) (dss_guard (b := negM (combM m m' (-1))) (db_val ?_) (fun h => ?_) fun h => ?_)
      · exact dv_callV (C2 m m' (-1) h1 h2) (hr : Room (k + 1) _) (Nat.le_succ _) rfl (dl_cons (dv_v 0) (dl_cons (dv_v 1) (dl_cons (dv_un de_int u_neg) da_nil)))
      · refine dv_callB rfl B.any rfl (dl_cons (de_lock (i := 2) rfl fun c' _ => dv_mapA (i := 3) (as := (combM m m' (-1)).map (·.1)) (kf := ansT) ansT_inj (r := fun a => .bl (decide (numAt (combM m m' (-1)) a < 0))) rfl (of_decide_eq_true rfl) rfl ((di_K 2).imp fun es e => ?_) rfl rfl (fun a ha s H C cl fp => ?_) ?_) da_nil) (c_anyM rfl)
        · rw [e, List.map_map, List.map_map]
          exact List.map_congr_left fun p _ => kD_kI p.1
        · refine dv_cmp (dv_dget (rm hr 1) (dv_L 2) (DV.cast (dv_v 3) (kD_kI a).symm) (d := .int (numAt (combM m m' (-1)) a)) ?_) de_int o_lt rfl
          rw [look_dicN, look_mem ha]
          rfl
        · unfold combM
          rw [sizeLine_eq, List.length_map, List.length_map]
          omega
      · refine dss_raise rfl tk gO O.InvalidOperation (hr : Room (k + 1) _) rfl fun H' l => hE _ _ ⟨?_, rfl⟩ l
        show (okAl m (.tal m') && !(negM (combM m m' (-1)))) = false
        rw [h]
        simp
      · refine ds_retV (d := talD CT (tallyOf (combM m m' (-1)))) (dv_tally (M.tc (h3 h)) cntOk_cnt (hr : Room (k + 1) _) (Nat.le_refl _) rfl (dv_counts M.C (hr : Room (k + 1) _) (Nat.le_refl _) rfl (dv_v 2))) ⟨?_, rfl⟩
        show (okAl m (.tal m') && !(negM (combM m m' (-1)))) = true
        rw [hk, h]
        rfl
theorem numAt_mem : ∀ {m : Tm} {p : Ans × Int}, (m.map (·.1)).Nodup → p ∈ m → numAt m p.1 = p.2
  | q :: m, p, hn, hp => by
    rw [List.map_cons, List.nodup_cons] at hn
    unfold numAt
    rw [List.lookup_cons]
    rcases List.mem_cons.mp hp with rfl | hp
    · simp
    · have e : (p.1 == q.1) = false := by
        have : p.1 ≠ q.1 := fun z => hn.1 (z ▸ List.mem_map.mpr ⟨p, hp, rfl⟩)
        simpa using this
      rw [e]
      exact numAt_mem hn.2 hp
/-- a factor -/
def okMul : D → Bool
  | .int n => decide (0 ≤ n)
  | _ => false
def facD : D → Int
  | .int n => n
  | _ => 0
def mulM (m : Tm) (n : Int) : Tm := m.map fun p => (p.1, p.2 * n)
theorem t_mul (B : Bi mg) (O : Ow P K mg CT CC CI CO) (M : Mk2 P w K mg base k CT CC CI) (C1 : Dt.Cl P w K mg base (k + 1) "is_number" (p_is_number K [CT, CC]) []) (F : FunOf K d_Tally_mul f fd) (m : Tm) (d : D) (hd : kc [CT, CC] d = true) (hm : m.length ≤ 1000) (hn : (m.map (·.1)).Nodup)
    (hg : okMul d = true → (∀ a, CMulW (numAt m a) (facD d)) ∧ Tw (mulM m (facD d))) : FnOk P w K mg base (L2.CX P w) (k + 2) f fd ["self", "many"] (spO K [talD CT m, d] (okMul d) (talD CT (tallyOf (mulM m (facD d)))) CO) :=
  fn_dX (N := ["self", "many", "answer"]) F (C8.fnScope_by rfl) (fun as e => by subst e; rfl) fun c as cdv A outer s E hr e hz hE => by
    subst e
    have tk : TkE (cxOf (L2.CX P w) P w K mg base ["self", "many", "answer"] d_Tally_mul.qual d_Tally_mul.scope f cdv A outer s c.H0 E) E := L2.takes_of rfl rfl rfl rfl
    obtain ⟨D0, f0, gO⟩ := O.gO
    refine dss_guard (b := !(okMul d)) (DB.cast (db_w (dw_or (x := !(num d)) (y := !(okMul d)) (db_not (db_val (dv_callF C1 (hr : Room (k + 1) _) (Nat.le_refl _) rfl (dl_cons (dv_v 1) da_nil) ⟨d, rfl, hd⟩ rfl))) fun h => dw_or1 ?_)) ?_) (fun h => dss_raise rfl tk gO O.InvalidOperation (hr : Room (k + 1) _) rfl fun H' l => hE _ _ ⟨nt h, rfl⟩ l) fun h => ?_
    · cases d with
      | int n => exact db_cmp (dv_v 1) de_int (o_lt.imp fun d e => by rw [e]; show D.bl _ = D.bl (!decide _); rw [← decide_not]; exact congrArg D.bl (decide_eq_decide.mpr (by omega))) rfl
      | _ => cases h
    · cases d <;> first | rfl | simp [num]
    · obtain ⟨h1, h2⟩ := hg (nf h)
      cases d with
      | int n =>
        refine ds_retV (d := talD CT (tallyOf (mulM m n))) (dv_tally (M.tc h2) cntOk_cnt (hr : Room (k + 1) _) (Nat.le_refl _) rfl (dv_counts M.C (hr : Room (k + 1) _) (Nat.le_refl _) rfl ?_)) ⟨nf h, rfl⟩
        refine DV.cast (dv_dcA (i := 2) (as := m.map (·.1)) (kf0 := ansT) (kf := kI) (vf := fun a => .int (numAt m a * n)) ansT_inj (rm hr 0) rfl (of_decide_eq_true rfl) rfl (di_tup (DV.to (fld0 O (dv_v 0)) ⟨_, rfl, ?_⟩)) rfl rfl (fun a ha s H C cl fp => ?_) (fun a ha s H C cl fp => ?_) ?_ ?_) ?_
        · unfold ansL
          rw [List.map_map]
          rfl
        · exact DV.cast (dv_v 2) (kD_kI a).symm
        · refine dv_bin (dv_dget (rm hr 1) (fld1 O (dv_v 0)) (DV.cast (dv_v 2) (kD_kI a).symm) (d := .int (numAt m a)) ?_) (dv_v 1) (o_mul (h1 a))
          rw [look_dicN, look_mem ha]
          rfl
        · exact hn.map _ fun a b h z => h (kI_inj _ _ z)
        · rw [sizeLine_eq, List.length_map]
          omega
        · unfold dicN mulM D.ints
          rw [List.map_map, List.map_map, List.map_map, List.map_map, List.map_map]
          refine congrArg (D.dic _) (List.map_congr_left fun p hp => ?_)
          show D.int (numAt m p.1 * n) = D.int (p.2 * n)
          rw [numAt_mem hn hp]
      | _ => cases (nf h)
end
end K31

set_option Elab.async false
set_option linter.all false
set_option maxRecDepth 100000
set_option maxHeartbeats 4000000
namespace K31
open PySem PyProof.Rows L2 Dt
section
variable {P : Program} {w : World} {K : PySem.W.Frag} {mg : Str → Option Value} {base : Heap} {k : Nat} {f : Addr} {fd : FuncData} {CT CC CI CO : Addr}
/-- the same numbers -/
def eqM (m m' : Tm) : Bool := sameT ((m.map fun p => kI p.1).zip ((m.map (·.2)).map V.int)) ((m'.map fun p => kI p.1).zip ((m'.map (·.2)).map V.int))
def okEq (m : Tm) : Oth → Bool
  | .tal m' => eqM m m'
  | .no _ => false
theorem t_eq (B : Bi mg) (O : Ow P K mg CT CC CI CO) (F : FunOf K d_Tally_eq f fd) (m : Tm) (o : Oth) (ho : o.good CT CC) : FnOk P w K mg base (L2.CX P w) (k + 1) f fd ["self", "other"] (spV K [talD CT m, o.d CT] (.bl (okEq m o))) :=
  fn_d (N := ["self", "other"]) F (C8.fnScope_by rfl) (fun as e => by subst e; rfl) fun c as cdv A outer s E hr e hz => by
    subst e
    have kco : kc [CT, CC] (o.d CT) = true := by
      cases o with
      | tal m' => exact decide_eq_true (by simp)
      | no d => exact ho.1
    refine ds_retV (d := .bl (okEq m o)) (DV.cast (dv_and (x := isO CT (o.d CT)) (y := okEq m o) (dv_isO rfl B.isinstance rfl O.Tally (dv_v 1) O.kl (by simp) kco) fun h => ?_) ?_) rfl
    · cases o with
      | no d =>
        have := ho.2
        have h : isO CT d = true := h
        rw [this] at h
        cases h
      | tal m' => exact dv_one (dv_cmp (fld1 O (dv_v 0)) (fld1 O (dv_v 1)) (o_eqDic (rm hr 1)) rfl)
    · cases o with
      | no d =>
        rw [show isO CT ((Oth.no d).d CT) = false from ho.2]
        rfl
      | tal m' =>
        rw [show isO CT ((Oth.tal m').d CT) = true from decide_eq_true rfl]
        rfl
theorem t_listed (B : Bi mg) (O : Ow P K mg CT CC CI CO) (F : FunOf K d_Tally_listed f fd) (m : Tm) : FnOk P w K mg base (L2.CX P w) (k + 1) f fd ["self"] (spV K [talD CT m] (.tup (ansL m))) :=
  fn_d (N := ["self"]) F (C8.fnScope_by rfl) (fun as e => by subst e; rfl) fun c as cdv A outer s E hr e hz => by
    subst e
    exact ds_retV (fld0 O (dv_v 0)) rfl
theorem t_total (B : Bi mg) (O : Ow P K mg CT CC CI CO) (F : FunOf K d_Tally_total f fd) (m : Tm) (hm : m.length ≤ 1000) : FnOk P w K mg base (L2.CX P w) (k + 1) f fd ["self"] (spV K [talD CT m] (.int ((m.map (·.1)).map (numAt m)).sum)) :=
  fn_d (N := ["self", "answer"]) F (C8.fnScope_by rfl) (fun as e => by subst e; rfl) fun c as cdv A outer s E hr e hz => by
    subst e
    refine ds_retV (dv_callB rfl B.sum rfl (dl_cons (DV.cast (dv_mapA (i := 1) (as := m.map (·.1)) (kf := ansT) ansT_inj (r := fun a => .int (numAt m a)) rfl (of_decide_eq_true rfl) rfl (di_tup (DV.to (fld0 O (dv_v 0)) ⟨_, rfl, ?_⟩)) rfl rfl (fun a ha s H C cl fp => ?_) ?_) ?_) da_nil) (c_sum rfl)) rfl
    · unfold ansL
      rw [List.map_map]
      rfl
    · refine dv_dget (rm hr 1) (fld1 O (dv_v 0)) (DV.cast (dv_v 1) (kD_kI a).symm) ?_
      rw [look_dicN, look_mem ha]
      rfl
    · rw [sizeLine_eq, List.length_map]
      omega
    · simp only [D.ints, List.map_map]
      rfl
/-! the text -/
def lineS (m : Tm) (a : Ans) : Str := joinS Str.empty [txtA a, " * ", iS (numAt m a)]
def strM (m : Tm) : Str := if m.isEmpty = true then "none" else Txt.join ", " ((m.map (·.1)).map (lineS m))
structure shM (m : Tm) : Prop where
  len : m.length ≤ 100
  it : ∀ a ∈ m.map (·.1), shA a ∧ (txtA a).length ≤ 10000 ∧ (inS a).length ≤ 10000 ∧ shI (numAt m a) ∧ (lineS m a).length ≤ 20000
theorem t_str (B : Bi mg) (O : Ow P K mg CT CC CI CO) (C1 : ∀ a, shA a → (txtA a).length ≤ sizeLine → (inS a).length ≤ sizeLine → Dt.Cl P w K mg base k "answer_text" (spV K [ansT a] (.str (txtA a))) []) (F : FunOf K d_Tally_str f fd) (m : Tm) (sh : shM m) : FnOk P w K mg base (L2.CX P w) (k + 1) f fd ["self"] (spV K [talD CT m] (.str (strM m))) :=
  fn_d (N := ["self", "answer"]) F (C8.fnScope_by rfl) (fun as e => by subst e; rfl) fun c as cdv A outer s E hr e hz => by
    subst e
    refine dss_guard (b := m.isEmpty) (db_cmp (fld0 O (dv_v 0)) (dv_tup da_nil (by decide)) ?_ rfl) (fun h => ds_retV de_str ?_) fun h => ds_retV (d := .str (strM m)) (DV.cast (dv_join (ys := (m.map (·.1)).map (lineS m)) (DV.cast (dv_mapA (i := 1) (as := m.map (·.1)) (kf := ansT) ansT_inj (r := fun a => .str (lineS m a)) rfl (of_decide_eq_true rfl) rfl (di_tup (DV.to (fld0 O (dv_v 0)) ⟨_, rfl, ?_⟩)) rfl rfl (fun a ha s H C cl fp => ?_) ?_) ?_) ?_) ?_) rfl
    · refine (o_eqD (rm hr 64) (py_tup (kf := fun p : Ans × Int => ansT p.1) (pf := fun p => pyA p.1) fun p _ => py_ansT p.1) (show (D.tup []).py = some (.tuple []) from rfl) ((shN_tup (n := 2) fun x hx => ?_).shaped (by decide)) (by decide)).imp fun d e => ?_
      · obtain ⟨p, _, rfl⟩ := List.mem_map.mp hx
        exact shN_tup fun y hy => by
          obtain ⟨i, _, rfl⟩ := List.mem_map.mp hy
          exact shN_int
      · rw [e]
        cases m with
        | nil => rfl
        | cons p m => rfl
    · unfold strM
      rw [if_pos h]
    · unfold ansL
      rw [List.map_map]
      rfl
    · obtain ⟨h1, h2, h3, h4, h5⟩ := sh.it a ha
      refine dv_joined (dj_cons (dv_fmtS (dv_callV (C1 a h1 (by rw [sizeLine_eq]; omega) (by rw [sizeLine_eq]; omega)) (hr : Room k _) (Nat.le_refl _) rfl (dl_cons (dv_v 1) da_nil)) (by rw [sizeLine_eq]; omega)) (dj_cons de_str (dj_cons (dv_fmtI (dv_dget (rm hr 1) (fld1 O (dv_v 0)) (DV.cast (dv_v 1) (kD_kI a).symm) (d := .int (numAt m a)) ?_) h4.1) dj_nil))) (by rw [sizeLine_eq]; show (lineS m a).length ≤ _; omega)
      rw [look_dicN, look_mem ha]
      rfl
    · rw [sizeLine_eq, List.length_map]
      have := sh.len
      omega
    · simp only [List.map_map]
      rfl
    · have h1 : (((m.map (·.1)).map (lineS m)).map (·.length)).sum ≤ ((m.map (·.1)).map (lineS m)).length * 20000 := sum_le fun x hx => by
        obtain ⟨a, ha, rfl⟩ := List.mem_map.mp hx
        exact (sh.it a ha).2.2.2.2
      have h2 : (", " : Str).length = 2 := by decide
      rw [h2]
      rw [List.length_map, List.length_map] at h1 ⊢
      have := sh.len
      omega
    · unfold strM
      rw [h]
      rfl
end
end K31

set_option Elab.async false
set_option linter.all false
set_option maxRecDepth 100000
set_option maxHeartbeats 4000000
namespace K31
open PySem PyProof.Rows L2 Dt
section
variable {P : Program} {w : World} {K : PySem.W.Frag} {mg : Str → Option Value} {base : Heap} {k : Nat} {f : Addr} {fd : FuncData} {CT CC CI CO : Addr}
def leM (m m' : Tm) : Bool := (m.map (·.1)).all fun a => decide (numAt m a ≤ numAt m' a)
/-- the answers are answers -/
def ansM (m : Tm) : Prop := ∀ a ∈ m.map (·.1), ansD (ansT a) = true
theorem knT_ans {L : List Addr} {a : Ans} (h : ansD (ansT a) = true) : KnT L (ansT a) := ⟨rfl, fun xs e => by
  have h : (decide ((a.map D.int).length ≤ 4) && (a.map D.int).all int20) = true := h
  rw [Bool.and_eq_true, decide_eq_true_eq] at h
  have e : a.map D.int = xs := by injection e
  rw [← e]
  exact ⟨by omega, fun x m => by
    obtain ⟨i, _, rfl⟩ := List.mem_map.mp m
    rfl⟩⟩
theorem t_within (B : Bi mg) (O : Ow P K mg CT CC CI CO) (C1 : ∀ m o, m.length ≤ 1000 → o.good CT CC → Dt.Cl P w K mg base k "require_alike" (spO K [talD CT m, o.d CT] (okAl m o) .non CO) [])
    (G : ∀ m d, KnT [CT, CC] d → Mtd P w K mg base k CT "__getitem__" (spV K [talD CT m, d] (.int (valAt m d)))) (gi : ∀ g, Meth K CT "__getitem__" g → PySem.W.fnIn K g = true) (F : FunOf K d_Tally_within f fd) (m : Tm) (o : Oth) (ho : o.good CT CC) (hm : m.length ≤ 1000) (ha : ansM m) :
    FnOk P w K mg base (L2.CX P w) (k + 2) f fd ["self", "other"] (spO K [talD CT m, o.d CT] (okAl m o) (match o with | .tal m' => .bl (leM m m') | .no _ => .non) CO) :=
  fn_dX (N := ["self", "other", "answer"]) F (C8.fnScope_by rfl) (fun as e => by subst e; rfl) fun c as cdv A outer s E hr e hz hE => by
    subst e
    have tk : TkE (cxOf (L2.CX P w) P w K mg base ["self", "other", "answer"] d_Tally_within.qual d_Tally_within.scope f cdv A outer s c.H0 E) E := L2.takes_of rfl rfl rfl rfl
    refine dss_cons (N := fun ds => okAl m o = true ∧ ds = [.val (talD CT m), .val (o.d CT), .no]) (ds_expr (de_callO (C1 m o hm ho) (hr : Room (k + 1) _) (Nat.le_succ _) rfl tk.pass (dl_cons (dv_v 0) (dl_cons (dv_v 1) da_nil)) fun H' hk l => hE _ _ ⟨hk, rfl⟩ l) fun d h => ⟨h.1, rfl⟩) ?_
    rintro ds ⟨hk, rfl⟩
    cases o with
    | no d => cases hk
    | tal m' =>
      refine ds_retV (d := .bl (leM m m')) (dv_callB rfl B.all rfl (dl_cons (dv_mapA (i := 2) (as := m.map (·.1)) (kf := ansT) ansT_inj (r := fun a => .bl (decide (numAt m a ≤ numAt m' a))) rfl (of_decide_eq_true rfl) rfl (di_tup (DV.to (fld0 O (dv_v 0)) ⟨_, rfl, ?_⟩)) rfl rfl (fun a h s H C cl fp => ?_) ?_) da_nil) (c_allM rfl)) ⟨hk, rfl⟩
      · unfold ansL
        rw [List.map_map]
        rfl
      · refine dv_cmp (dv_dget (rm hr 1) (fld1 O (dv_v 0)) (DV.cast (dv_v 2) (kD_kI a).symm) (d := .int (numAt m a)) ?_) (DE.imp (de_ixOwn (E := EF) (G m' (ansT a) (knT_ans (ha a h))) gi (hr : Room (k + 1) _) passF (dv_v 1) (dv_v 2) rfl (fun d e => e) fun _ _ z => z.elim) fun d e => e.trans (congrArg D.int (valAt_at m' (ha a h)))) o_le rfl
        rw [look_dicN, look_mem h]
        rfl
      · rw [sizeLine_eq, List.length_map]
        omega
theorem t_rmul (B : Bi mg) (O : Ow P K mg CT CC CI CO) (M : ∀ m d, kc [CT, CC] d = true → m.length ≤ 1000 → (m.map (·.1)).Nodup → (okMul d = true → (∀ a, CMulW (numAt m a) (facD d)) ∧ Tw (mulM m (facD d))) → Mtd P w K mg base k CT "__mul__" (spO K [talD CT m, d] (okMul d) (talD CT (tallyOf (mulM m (facD d)))) CO))
    (hc : PySem.W.selfFirst K CT = true) (ot : ∀ n ∈ ["NoneType", "bool", "int"], otherTy K CT "mul" n = true) {rc : Option Value} (hr' : PySem.W.findIn K (.ref CT) (dunderR "mul") = some rc) (hrc : rc = none ∨ ∃ g : Addr, rc = some (.ref g)) (F : FunOf K d_Tally_rmul f fd) (m : Tm) (d : D) (hd : d = .non ∨ (∃ z, d = .bl z) ∨ ∃ i, d = .int i) (hm : m.length ≤ 1000) (hn : (m.map (·.1)).Nodup)
    (hg : okMul d = true → (∀ a, CMulW (numAt m a) (facD d)) ∧ Tw (mulM m (facD d))) : FnOk P w K mg base (L2.CX P w) (k + 1) f fd ["self", "many"] (spO K [talD CT m, d] (okMul d) (talD CT (tallyOf (mulM m (facD d)))) CO) :=
  fn_dX (N := ["self", "many"]) F (C8.fnScope_by rfl) (fun as e => by subst e; rfl) fun c as cdv A outer s E hr e hz hE => by
    subst e
    have tk : TkE (cxOf (L2.CX P w) P w K mg base ["self", "many"] d_Tally_rmul.qual d_Tally_rmul.scope f cdv A outer s c.H0 E) E := L2.takes_of rfl rfl rfl rfl
    have hk : kc [CT, CC] d = true := by rcases hd with rfl | ⟨z, rfl⟩ | ⟨z, rfl⟩ <;> rfl
    have hcl : ∃ n ∈ ["NoneType", "bool", "int"], d.cl = some (.type n) := by
      rcases hd with rfl | ⟨z, rfl⟩ | ⟨z, rfl⟩
      · exact ⟨_, by simp, rfl⟩
      · exact ⟨_, by simp, rfl⟩
      · exact ⟨_, by simp, rfl⟩
    obtain ⟨n, hn', hcl⟩ := hcl
    refine dss_one (ds_ret (dv_bin (dv_v 0) (dv_v 1) ?_))
    exact o_binOther (op := .Mult) (E := E) O.kl hk hcl (ot n hn') hc hr' hrc (M m d hk hm hn hg) hr tk.pass rfl (fun r q => q) fun cls H' q l => hE _ _ q l
end
end K31

set_option Elab.async false
set_option linter.all false
set_option maxRecDepth 100000
set_option maxHeartbeats 4000000
namespace K31
open PySem PyProof.Rows L2 Dt
section
variable {P : Program} {w : World} {K : PySem.W.Frag} {mg : Str → Option Value} {base : Heap} {k : Nat} {f : Addr} {fd : FuncData}
theorem log2_le {n k : Nat} (h : n < 2 ^ k) : n.log2 ≤ k := by
  by_cases z : n = 0
  · subst z
    exact Nat.zero_le _
  · exact Nat.le_of_lt ((Nat.log2_lt z).mpr h)
theorem mulW_of {i j : Int} {a b : Nat} (h1 : i.natAbs < 2 ^ a) (h2 : j.natAbs < 2 ^ b) (h : a + b < 1000000) : CMulW i j := by
  unfold CMulW
  have := log2_le h1
  have := log2_le h2
  omega
/-- three ints of a die -/
def dieOk (d : D) : Prop := ∃ a b t : Int, d = .lst [.int a, .int b, .int t] ∧ 0 ≤ a ∧ a < 10 ^ 649 ∧ 0 ≤ b ∧ b < 2305843009213693921 ∧ t = 0
def cellOf (ns : List Int) (i : Nat) : Int := (ns[i]?).getD (41 * (i : Int) + 9)
theorem t_law_dice (B : Bi mg) (F : FunOf K d__law_dice f fd) (ns : List Int) (i : Nat) (hi : i < 1000) : FnOk P w K mg base (L2.CX P w) (k + 1) f fd ["script", "spot"] (spD K false (· = [.scr ns, .int (i : Int)]) (fun _ r => dieOk r) noX) :=
  fn_d (N := ["script", "spot", "cell", "great", "blend"]) F (C8.fnScope_by rfl) (fun as e => by subst e; rfl) fun c as cdv A outer s E hr e hz => by
    subst e
    let x := cellOf ns i
    let g : Int := (if x < 0 then -x else x) % ((10 ^ 59) ^ 11)
    refine dss_to (ds' := [.val (.scr ns), .val (.int (i : Int)), .val (.int x), .no, .no]) (ds_set (i := 2) (of_decide_eq_true rfl) rfl (.inl rfl) (P := (· = .int x)) ?_ fun d e => by subst e; rfl) ?_
    · refine de_ifExp (Pt := (· = decide ((i : Int) < ns.length))) (db_cmp (dv_v 1) (dv_callB rfl B.len rfl (dl_cons (dv_v 0) da_nil) c_lenR) o_lt rfl) (fun h => ?_) fun h => ?_
      · have h := of_decide_eq_true h.symm
        have hl : i < ns.length := by omega
        have e : ns[i]? = some x := by
          show ns[i]? = some ((ns[i]?).getD (41 * (i : Int) + 9))
          rw [List.getElem?_eq_getElem hl]
          rfl
        exact dv_ix (dv_v 0) (dv_v 1) (x_scr e) (fun _ _ => rfl)
      · have h := of_decide_eq_false h.symm
        have e : x = 41 * (i : Int) + 9 := by
          show (ns[i]?).getD (41 * (i : Int) + 9) = _
          rw [List.getElem?_eq_none (by omega)]
          rfl
        rw [e]
        exact dv_bin (dv_bin de_int (dv_v 1) (o_mul (mulW_of (a := 6) (b := 10) (by decide) (by omega) (by decide)))) de_int o_add
    · refine dss_to (ds' := [.val (.scr ns), .val (.int (i : Int)), .val (.int x), .val (.int g), .no]) (ds_set (i := 3) (of_decide_eq_true rfl) rfl (.inl rfl) (P := (· = .int g)) ?_ fun d e => by subst e; rfl) ?_
      · refine dv_bin (dv_callTy rfl B.int rfl (dl_cons (dv_callB rfl B.abs rfl (dl_cons (dv_v 2) da_nil) c_abs) da_nil) c_intI) (dv_bin (dv_bin de_int de_int (o_pow ?_)) de_int (o_powW ?_)) (o_mod ?_)
        · exact ⟨by decide, by decide, by decide⟩
        · exact ⟨by decide, by decide +kernel⟩
        · decide +kernel
      · have g0 : 0 ≤ g := Int.emod_nonneg _ (by decide +kernel)
        have g1 : g < 10 ^ 649 := by
          have h := Int.emod_lt_of_pos (if x < 0 then -x else x) (show (0 : Int) < (10 ^ 59) ^ 11 by decide +kernel)
          have e : ((10 : Int) ^ 59) ^ 11 = 10 ^ 649 := by decide +kernel
          exact e ▸ h
        have g2 : g.natAbs < 2 ^ 2160 := by
          have : (10 : Int) ^ 649 < 2 ^ 2160 := by decide +kernel
          have h : (g.natAbs : Int) < ((2 ^ 2160 : Nat) : Int) := by
            rw [Int.natAbs_of_nonneg g0]
            exact Int.lt_trans g1 (by decide +kernel)
          exact Int.ofNat_lt.mp h
        let b : Int := g * 3202034522624059733 + 83 * (i : Int) + 19 * (if decide (x < 0) = true then 1 else 0) + 5
        refine dss_to (ds' := [.val (.scr ns), .val (.int (i : Int)), .val (.int x), .val (.int g), .val (.int b)]) (ds_set (i := 4) (of_decide_eq_true rfl) rfl (.inl rfl) (P := (· = .int b)) ?_ fun d e => by subst e; rfl) ?_
        · refine dv_bin (dv_bin (dv_bin (dv_bin (dv_v 3) de_int (o_mul ?_)) (dv_bin de_int (dv_v 1) (o_mul ?_)) o_add) (dv_bin de_int (dv_callTy rfl B.int rfl (dl_cons (dv_cmp (dv_v 2) de_int o_lt rfl) da_nil) c_intB) (o_mul ?_)) o_add) de_int o_add
          · exact mulW_of (a := 2160) (b := 62) g2 (by decide) (by decide)
          · exact mulW_of (a := 7) (b := 10) (by decide) (by omega) (by decide)
          · exact mulW_of (a := 5) (b := 1) (by decide) (by split <;> decide) (by decide)
        · refine ds_retV (dv_lst (dl_cons (dv_callB rfl B.max rfl (dl_cons de_int (dl_cons (dv_bin (dv_v 3) (dv_bin de_int de_int (o_pow ?_)) o_sub) da_nil)) (c_max2 rfl)) (dl_cons (dv_bin (dv_callTy rfl B.int rfl (dl_cons (dv_v 4) da_nil) c_intI) de_int (o_mod ?_)) (dl_cons de_int da_nil))) ?_) ?_
          · exact ⟨by decide, by decide, by decide⟩
          · decide
          · show 3 ≤ 1000
            decide
          · refine ⟨_, _, 0, rfl, ?_, ?_, Int.emod_nonneg _ (by decide), Int.emod_lt_of_pos _ (by decide), rfl⟩
            · split <;> omega
            · split
              · exact Int.lt_of_le_of_lt (by have : (0 : Int) ≤ 10 ^ (18 : Int).toNat := by decide
                                             omega) g1
              · decide +kernel
/-- a drawn number -/
def rollOk (n : Int) (d : D) : Prop := ∃ i, d = .int i ∧ 0 ≤ i ∧ i < n
abbrev p_roll (K : PySem.W.Frag) (n : Int) : Sp := spD K true (fun as => ∃ a, as = [.adr a, .int n]) (fun _ r => rollOk n r) noX
theorem o_roll {X : Cx} {c : Fx} {i n : Int} (hn : 0 < n) : OpD X (binaryOp .Mod) c (.int i) (.int n) (rollOk n) := (o_mod hn).imp fun d e => ⟨_, e, Int.emod_nonneg _ (by omega), Int.emod_lt_of_pos _ hn⟩
theorem t_law_roll (B : Bi mg) (F : FunOf K d__law_roll f fd) (n : Int) (hn : 0 < n) (hz' : n.natAbs.log2 < 9000) : FnOk P w K mg base (L2.CX P w) (k + 1) f fd ["dice", "upto"] (p_roll K n) :=
  fn_d (N := ["dice", "upto", "found", "one", "two"]) F (C8.fnScope_by rfl) (fun as ⟨a, e⟩ => by subst e; rfl) fun c as cdv A outer s E hr ⟨a, e⟩ hz => by
    subst e
    have hc : c.Di a := hz a (List.mem_singleton.mpr rfl)
    refine dss_cons (N := fun ds => ds = [.val (.adr a), .val (.int n), .no, .no, .no]) (ds_if (Pt := fun _ => True) (dt_cmp (de_die 0 (j := 0) hc (by decide)) (Pb := (· = .int 0)) de_int (fun x y e1 e2 => by obtain ⟨i, e1⟩ := e1; subst e1 e2; exact o_gt.imp fun d e => ⟨_, e, trivial⟩) rfl) (fun _ => ?_) fun _ => dss_nil rfl) ?_
    · refine dss_cons (N := fun ds => ∃ j, rollOk n (.int j) ∧ ds = [.val (.adr a), .val (.int n), .val (.int j), .no, .no]) (ds_set (i := 2) (of_decide_eq_true rfl) rfl (.inl rfl) (P := rollOk n) ?_ fun d ⟨j, e, h⟩ => ⟨j, ⟨j, rfl, h⟩, by subst e; rfl⟩) ?_
      · exact de_opI (Q := (· = .int n)) (de_intI rfl B.int (de_die 0 (j := 0) hc (by decide))) (dv_v 1) (fun i j _ e => by cases e; exact o_roll hn) (fun d h => h) (fun d h => ⟨n, h⟩)
      · rintro ds ⟨j, hj, rfl⟩
        refine dss_to (ds' := [.val (.adr a), .val (.int n), .val (.int j), .no, .no]) (ds_die (i := 0) (j := 0) hc (by decide) rfl (.inl rfl) rfl ?_ rfl) (ds_retV (dv_v 2) hj)
        exact de_opI (Q := (· = .int n)) (de_die 0 (j := 0) hc (by decide)) (dv_v 1) (fun i j _ e => by cases e; exact (o_div ⟨hn, hz'⟩).imp fun d e => ⟨_, e⟩) (fun d h => h) (fun d h => ⟨n, h⟩)
    · rintro ds rfl
      have id1 : ∀ d, anI d → anI d := fun d h => h
      have eqI : ∀ (z : Int) (d : D), d = .int z → anI d := fun z d h => ⟨z, h⟩
      refine dss_to (ds' := [.val (.adr a), .val (.int n), .no, .no, .no]) (ds_die (i := 0) (j := 2) hc (by decide) rfl (.inl rfl) rfl ?_ rfl) ?_
      · exact de_opI (Q := (· = .int 1)) (de_die 0 (j := 2) hc (by decide)) de_int (fun i j _ e => by cases e; exact o_add.imp fun d e => ⟨_, e⟩) id1 (eqI 1)
      refine dss_cons (N := fun ds => ∃ j, rollOk 67280421310679 (.int j) ∧ ds = [.val (.adr a), .val (.int n), .no, .val (.int j), .no]) (ds_set (i := 3) (of_decide_eq_true rfl) rfl (.inl rfl) (P := rollOk 67280421310679) ?_ fun d ⟨j, e, h⟩ => ⟨j, ⟨j, rfl, h⟩, by subst e; rfl⟩) ?_
      · refine de_opI (Q := (· = .int 67280421310679)) (de_intI rfl B.int (de_opI (P := anI) (Q := anI) (de_die 0 (j := 1) hc (by decide)) (de_opI (P := (· = .int 961748941)) (Q := anI) de_int (de_die 0 (j := 2) hc (by decide)) (fun i j e _ => by cases e; exact (o_mulS (.inl (by decide))).imp fun d e => ⟨_, e⟩) (eqI _) id1) (fun i j _ _ => o_add.imp fun d e => ⟨_, e⟩) id1 id1)) de_int (fun i j _ e => by cases e; exact o_roll (by decide)) id1 (eqI _)
      · rintro ds ⟨j, ⟨j', ej, j0, j1⟩, rfl⟩
        cases ej
        have jb : j.natAbs < 2 ^ 46 := by omega
        refine dss_cons (N := fun ds => ∃ t, ds = [.val (.adr a), .val (.int n), .no, .val (.int j), .val (.int t)]) (ds_set (i := 4) (of_decide_eq_true rfl) rfl (.inl rfl) (P := anI) ?_ fun d ⟨t, e⟩ => ⟨t, by subst e; rfl⟩) ?_
        · refine de_opI (P := anI) (Q := anI) (de_opI (P := anI) (Q := (· = .int j)) (de_opI (P := anI) (Q := (· = .int 576460752303423389)) (de_intI rfl B.int (de_opI (P := (· = .int j)) (Q := (· = .int j)) (dv_v 3) (dv_v 3) (fun x y e1 e2 => by cases e1; cases e2; exact (o_mulS (.inl (by omega))).imp fun d e => ⟨_, e⟩) (eqI _) (eqI _))) de_int (fun x y _ e => by cases e; exact (o_mod (by decide)).imp fun d e => ⟨_, e⟩) id1 (eqI _)) (dv_v 3) (fun x y _ e => by cases e; exact (o_mulS (.inr (by omega))).imp fun d e => ⟨_, e⟩) id1 (eqI _)) (de_opI (P := (· = .int 7919)) (Q := anI) de_int (de_die 0 (j := 2) hc (by decide)) (fun x y e _ => by cases e; exact (o_mulS (.inl (by decide))).imp fun d e => ⟨_, e⟩) (eqI _) id1) (fun x y _ _ => o_add.imp fun d e => ⟨_, e⟩) id1 id1
        · rintro ds ⟨t, rfl⟩
          refine dss_one (ds_ret (de_opI (P := anI) (Q := (· = .int n)) (de_intI rfl B.int (de_opI (P := anI) (Q := (· = .int 128)) (de_opI (P := anI) (Q := (· = .int 2199023255579)) (de_intI rfl B.int (de_opI (P := (· = .int t)) (Q := anI) (dv_v 4) (de_die 0 (j := 1) hc (by decide)) (fun x y _ _ => o_add.imp fun d e => ⟨_, e⟩) (eqI _) id1)) de_int (fun x y _ e => by cases e; exact (o_mod (by decide)).imp fun d e => ⟨_, e⟩) id1 (eqI _)) de_int (fun x y _ e => by cases e; exact (o_div ⟨by decide, by decide⟩).imp fun d e => ⟨_, e⟩) id1 (eqI _))) (dv_v 1) (fun x y _ e => by cases e; exact o_roll hn) id1 (eqI _)))
abbrev p_pick (K : PySem.W.Frag) (xs : List D) : Sp := spD K true (fun as => ∃ a, as = [.adr a, .lst xs]) (fun _ r => r ∈ xs) noX
theorem t_law_pick (B : Bi mg) (C1 : ∀ n, 0 < n → n < 2 ^ 100 → Dt.Cl P w K mg base k "_law_roll" (p_roll K n) []) (F : FunOf K d__law_pick f fd) (xs : List D) (hx : xs ≠ []) (hl : xs.length ≤ 1000) : FnOk P w K mg base (L2.CX P w) (k + 1) f fd ["dice", "items"] (p_pick K xs) :=
  fn_d (N := ["dice", "items"]) F (C8.fnScope_by rfl) (fun as ⟨a, e⟩ => by subst e; rfl) fun c as cdv A outer s E hr ⟨a, e⟩ hz => by
    subst e
    have hc : c.Di a := hz a (List.mem_singleton.mpr rfl)
    have h0 : 0 < xs.length := List.length_pos_iff.mpr hx
    refine dss_one (ds_ret (de_ix (Pa := (· = .lst xs)) (Pb := rollOk xs.length) (dv_v 1) ?_ (fun x y e1 ⟨i, e2, h1, h2⟩ => by subst e1 e2; exact x_listN h1 h2) (fun _ _ => rfl)))
    exact dv_callZ hc (C1 xs.length (by omega) (by omega)) (hr : Room k _) (Nat.le_refl _) rfl (dl_cons (dv_v 0) (dl_cons (dv_callB rfl B.len rfl (dl_cons (dv_v 1) da_nil) c_lenL) da_nil)) ⟨a, rfl⟩ fun d h => h
abbrev p_number (K : PySem.W.Frag) : Sp := spD K true (fun as => ∃ a, as = [.adr a]) (fun _ r => rollOk (10 ^ 40) r) noX
theorem rollOk.anI {n : Int} {d : D} (h : rollOk n d) : anI d := let ⟨i, e, _⟩ := h; ⟨i, e⟩
theorem t_law_number (B : Bi mg) (C1 : ∀ n, 0 < n → n < 2 ^ 100 → Dt.Cl P w K mg base k "_law_roll" (p_roll K n) []) (F : FunOf K d__law_number f fd) : FnOk P w K mg base (L2.CX P w) (k + 1) f fd ["dice"] (p_number K) :=
  fn_d (N := ["dice", "way"]) F (C8.fnScope_by rfl) (fun as ⟨a, e⟩ => by subst e; rfl) fun c as cdv A outer s E hr ⟨a, e⟩ hz => by
    subst e
    have hc : c.Di a := hz a (List.mem_singleton.mpr rfl)
    refine dss_cons (N := fun ds => ∃ j, ds = [.val (.adr a), .val (.int j)]) (ds_set (i := 1) (of_decide_eq_true rfl) rfl (.inl rfl) (P := rollOk 5) ?_ fun d ⟨j, e, h⟩ => ⟨j, by subst e; rfl⟩) ?_
    · exact dv_callZ hc (C1 5 (by decide) (by decide)) (hr : Room k _) (Nat.le_refl _) rfl (dl_cons (dv_v 0) (dl_cons de_int da_nil)) ⟨a, rfl⟩ fun d h => h
    rintro ds ⟨j, rfl⟩
    refine dss_guard (b := decide (j = 1)) (db_cmp (dv_v 1) de_int o_eqI rfl) (fun _ => dss_one (ds_ret ?_)) fun _ => ?_
    · refine de_opI (P := (· = .int (10 ^ 40 - 1))) (Q := rollOk 3) (dv_bin (dv_bin de_int de_int (o_pow ⟨by decide, by decide, by decide⟩)) de_int (o_sub.imp fun d e => e.trans (congrArg D.int (by decide)))) ?_ (fun x y e h => by cases e; obtain ⟨z, e, h0, h1⟩ := h; cases e; exact o_sub.imp fun d e => ⟨_, e, by omega, by omega⟩) (fun d h => ⟨_, h⟩) (fun d h => h.anI)
      exact dv_callZ hc (C1 3 (by decide) (by decide)) (hr : Room k _) (Nat.le_refl _) rfl (dl_cons (dv_v 0) (dl_cons de_int da_nil)) ⟨a, rfl⟩ fun d h => h
    refine dss_guard (b := decide (j = 2)) (db_cmp (dv_v 1) de_int o_eqI rfl) (fun _ => dss_one (ds_ret ?_)) fun _ => dss_one (ds_ret ?_)
    · refine de_opI (P := fun d => ∃ z, d = .int z ∧ 0 ≤ z ∧ z ≤ (10 ^ 13 - 1) * 10 ^ 26) (Q := (· = .int 7)) (de_opI (P := rollOk (10 ^ 13)) (Q := (· = .int (10 ^ 26))) ?_ (dv_bin de_int de_int ((o_pow ⟨by decide, by decide, by decide⟩).imp fun d e => e.trans (congrArg D.int (by decide)))) (fun x y h e => by cases e; obtain ⟨z, e, h0, h1⟩ := h; cases e; exact (o_mul (mulW_of (a := 50) (b := 90) (by omega) (by decide) (by decide))).imp fun d e => ⟨_, e, by omega, by omega⟩) (fun d h => h.anI) fun d h => ⟨_, h⟩) de_int (fun x y h e => by cases e; obtain ⟨z, e, h0, h1⟩ := h; cases e; exact o_add.imp fun d e => ⟨_, e, by omega, by omega⟩) (fun d ⟨z, e, _⟩ => ⟨z, e⟩) fun d h => ⟨_, h⟩
      exact dv_callZ hc (C1 (10 ^ 13) (by decide) (by decide)) (hr : Room k _) (Nat.le_refl _) rfl (dl_cons (dv_v 0) (dl_cons (dv_bin de_int de_int ((o_pow ⟨by decide, by decide, by decide⟩).imp fun d e => e.trans (congrArg D.int (by decide)))) da_nil)) ⟨a, rfl⟩ fun d h => h
    · exact dv_callZ hc (C1 4 (by decide) (by decide)) (hr : Room k _) (Nat.le_refl _) rfl (dl_cons (dv_v 0) (dl_cons de_int da_nil)) ⟨a, rfl⟩ fun d h => by
        obtain ⟨z, e, h0, h1⟩ := h
        exact ⟨z, e, h0, by omega⟩
def pools : List (List Int) := [[-1, -2, -3, -4], [10 ^ 20 - 1, 10 ^ 20 - 2, 10 ^ 20 - 3, 10 ^ 20 - 4], [0, -1, 10 ^ 20 - 1, 1 - 10 ^ 20], [0, 1, 2, 3]]
def poolOk (d : D) : Prop := ∃ l ∈ pools, d = .lst (l.map .int)
abbrev p_pool (K : PySem.W.Frag) : Sp := spD K true (fun as => ∃ a, as = [.adr a, .int 4]) (fun _ r => poolOk r) noX
theorem t_law_pool (B : Bi mg) (C1 : ∀ n, 0 < n → n < 2 ^ 100 → Dt.Cl P w K mg base k "_law_roll" (p_roll K n) []) (F : FunOf K d__law_pool f fd) : FnOk P w K mg base (L2.CX P w) (k + 1) f fd ["dice", "lots"] (p_pool K) :=
  fn_d (N := ["dice", "lots", "way", "number"]) F (C8.fnScope_by rfl) (fun as ⟨a, e⟩ => by subst e; rfl) fun c as cdv A outer s E hr ⟨a, e⟩ hz => by
    subst e
    have hc : c.Di a := hz a (List.mem_singleton.mpr rfl)
    refine dss_cons (N := fun ds => ∃ j, ds = [.val (.adr a), .val (.int 4), .val (.int j), .no]) (ds_set (i := 2) (of_decide_eq_true rfl) rfl (.inl rfl) (P := rollOk 5) ?_ fun d ⟨j, e, h⟩ => ⟨j, by subst e; rfl⟩) ?_
    · exact dv_callZ hc (C1 5 (by decide) (by decide)) (hr : Room k _) (Nat.le_refl _) rfl (dl_cons (dv_v 0) (dl_cons de_int da_nil)) ⟨a, rfl⟩ fun d h => h
    rintro ds ⟨j, rfl⟩
    refine dss_guard (b := decide (j = 1)) (db_cmp (dv_v 2) de_int o_eqI rfl) (fun _ => ds_retV (d := .lst ([-1, -2, -3, -4].map D.int)) ?_ ⟨_, by simp [pools], rfl⟩) fun _ => ?_
    · refine DV.cast (dv_mapA (i := 3) (as := [0, 1, 2, 3]) (kf := D.int) (r := fun i => .int (0 - 1 - i)) int_inj rfl (of_decide_eq_true rfl) rfl (DI.imp (di_range1 (S := (· = 4)) rfl B.range (DV.to (dv_v 1) ⟨4, rfl, rfl⟩) (fun z e => by subst e; decide)) fun es h => ?_) rfl rfl (fun i m s H C cl fp => ?_) (small_line (by decide))) rfl
      · obtain ⟨z, e, h⟩ := h
        subst e
        exact h
      · exact dv_bin (dv_bin de_int de_int (o_sub)) (dv_v 3) o_sub
    refine dss_guard (b := decide (j = 2)) (db_cmp (dv_v 2) de_int o_eqI rfl) (fun _ => ds_retV (d := .lst ([10 ^ 20 - 1, 10 ^ 20 - 2, 10 ^ 20 - 3, 10 ^ 20 - 4].map D.int)) ?_ ⟨_, by simp [pools], rfl⟩) fun _ => ?_
    · refine DV.cast (dv_mapA (i := 3) (as := [0, 1, 2, 3]) (kf := D.int) (r := fun i => .int (10 ^ 20 - 1 - i)) int_inj rfl (of_decide_eq_true rfl) rfl (DI.imp (di_range1 (S := (· = 4)) rfl B.range (DV.to (dv_v 1) ⟨4, rfl, rfl⟩) (fun z e => by subst e; decide)) fun es h => ?_) rfl rfl (fun i m s H C cl fp => ?_) (small_line (by decide))) rfl
      · obtain ⟨z, e, h⟩ := h
        subst e
        exact h
      · exact dv_bin (dv_bin (dv_bin de_int de_int (o_pow ⟨by decide, by decide, by decide⟩)) de_int o_sub) (dv_v 3) o_sub
    refine dss_guard (b := decide (j = 3)) (db_cmp (dv_v 2) de_int o_eqI rfl) (fun _ => ds_retV (d := .lst ([0, -1, 10 ^ 20 - 1, 1 - 10 ^ 20].map D.int)) ?_ ⟨_, by simp [pools], rfl⟩) fun _ => ds_retV (d := .lst ([0, 1, 2, 3].map D.int)) ?_ ⟨_, by simp [pools], rfl⟩
    · exact DV.cast (dv_slice (dv_lst (dl_cons de_int (dl_cons (dv_bin de_int de_int o_sub) (dl_cons (dv_bin (dv_bin de_int de_int (o_pow ⟨by decide, by decide, by decide⟩)) de_int o_sub) (dl_cons (dv_bin de_int (dv_bin de_int de_int (o_pow ⟨by decide, by decide, by decide⟩)) o_sub) da_nil)))) (by simp)) do_none (do_some (dv_v 1)) s_list) rfl
    · refine DV.cast (a := .lst (rngD 0 (4 : Int).toNat)) ?_ rfl
      exact dv_listRg rfl rfl B.list rfl B.range (dv_v 1) (by unfold RgOk; decide)
end
end K31

set_option Elab.async false
set_option linter.all false
set_option maxRecDepth 100000
set_option maxHeartbeats 4000000
namespace K31
open PySem PyProof.Rows L2 Dt
section
variable {P : Program} {w : World} {K : PySem.W.Frag} {mg : Str → Option Value} {base : Heap} {k : Nat} {f : Addr} {fd : FuncData}
/-- a pair of an answer and its number -/
def prD (p : Ans × Int) : D := .tup [ansT p.1, .int p.2]
def pyP (p : Ans × Int) : PyData := .tuple [pyA p.1, .int p.2]
theorem py_prD (p : Ans × Int) : (prD p).py = some (pyP p) := by
  unfold prD D.py D.pyAll
  rw [py_ansT]
  rfl
theorem shN_A (a : Ans) : ShN 2 (pyA a) := shN_tup fun y hy => by
  obtain ⟨i, _, rfl⟩ := List.mem_map.mp hy
  exact shN_int
theorem ShN.le {n m : Nat} {p : PyData} (h : ShN n p) (l : n ≤ m) : ShN m p := ⟨h.lay, Nat.le_trans h.dep l⟩
theorem shN_P (p : Ans × Int) : ShN 3 (pyP p) := shN_tup fun y hy => by
  rcases List.mem_cons.mp hy with rfl | hy
  · exact shN_A p.1
  · cases List.mem_singleton.mp hy
    exact ShN.le shN_int (by decide)
theorem prD_inj : ∀ p q, prD p = prD q → p = q := fun p q h => by
  unfold prD at h
  injection h with h
  injection h with h1 h2
  injection h2 with h2 _
  injection h2 with h2
  exact Prod.ext (ansT_inj _ _ h1) h2
/-- a list of plain data == [] -/
theorem o_neNil {X : Cx} {c : Fx} {α : Type} {kf : α → D} {pf : α → PyData} {as : List α} {n : Nat} (hu : X.A.units + 64 < cLine) (h : ∀ a ∈ as, (kf a).py = some (pf a)) (hs : ∀ a ∈ as, ShN n (pf a)) (hn : n ≤ 60) : OpD X (compareOp .NotEq) c (.lst (as.map kf)) (.lst []) (· = .bl (!as.isEmpty)) := by
  refine (o_neD hu (py_lst h) (show (D.lst []).py = some (.list []) from rfl) ((shN_lst (n := n) fun x hx => ?_).shaped (by omega)) (by decide)).imp fun d e => ?_
  · obtain ⟨a, ha, rfl⟩ := List.mem_map.mp hx
    exact hs a ha
  · rw [e]
    cases as <;> rfl
theorem eraseIdx_mapE {α β : Type} (f : α → β) : ∀ (l : List α) (k : Nat), (l.map f).eraseIdx k = (l.eraseIdx k).map f
  | [], _ => rfl
  | _ :: _, 0 => rfl
  | _ :: l, k + 1 => congrArg (List.cons _) (eraseIdx_mapE f l k)
theorem perm_erase {α : Type} : ∀ {l : List α} {k : Nat} {a : α}, l[k]? = some a → (a :: l.eraseIdx k).Perm l
  | [], _, _, h => by simp at h
  | x :: l, 0, a, h => by
    have e : x = a := by simpa using h
    subst e
    exact .refl _
  | x :: l, k + 1, a, h => (List.Perm.swap x a _).trans ((perm_erase (l := l) (k := k) (by simpa using h)).cons x)
abbrev p_mixed (K : PySem.W.Frag) (m : Tm) : Sp := spD K true (fun as => ∃ a, as = [.adr a, .lst (m.map prD)]) (fun _ r => ∃ m' : Tm, m'.Perm m ∧ r = .lst (m'.map prD)) noX
theorem t_law_mixed (B : Bi mg) (C1 : ∀ n, 0 < n → n < 2 ^ 100 → Dt.Cl P w K mg base k "_law_roll" (p_roll K n) []) (F : FunOf K d__law_mixed f fd) (m : Tm) (hm : m.length ≤ 1000) : FnOk P w K mg base (L2.CX P w) (k + 1) f fd ["dice", "items"] (p_mixed K m) :=
  fn_d (N := ["dice", "items", "left", "found"]) F (C8.fnScope_by rfl) (fun as ⟨a, e⟩ => by subst e; rfl) fun c as cdv A outer s E hr ⟨a, e⟩ hz => by
    subst e
    have hc : c.Di a := hz a (List.mem_singleton.mpr rfl)
    refine dss_to (ds' := [.val (.adr a), .val (.lst (m.map prD)), .lst (m.map prD), .lst []]) (ds_parNN (i := 2) (j := 3) rfl (of_decide_eq_true rfl) rfl rfl (by decide) rfl rfl (dn_listL rfl B.list (DV.to (dv_v 1) (.inl rfl))) (dn_lst da_nil (by decide)) fun x y e1 e2 => by subst e1 e2; rfl) ?_
    refine dss_cons (N := fun ds => ∃ m2 : Tm, ds = [.val (.adr a), .val (.lst (m.map prD)), .lst [], .lst (m2.map prD)] ∧ m2.Perm m) (ds_while (fun n ds => ∃ m1 m2 : Tm, ds = [.val (.adr a), .val (.lst (m.map prD)), .lst (m1.map prD), .lst (m2.map prD)] ∧ m1.length = n ∧ (m2 ++ m1).Perm m) (fun n ds b => b = !decide (n = 0)) PassesOwn.never ⟨_, m, [], rfl, rfl, .refl _⟩ ?_ ?_ ?_) ?_
    · rintro n ds ⟨m1, m2, rfl, rfl, hp⟩
      refine dt_borrow (i := 2) rfl rfl (db_cmp (dv_v 2) (dv_lst da_nil (by decide)) ((o_neNil (rm hr 64) (fun p _ => py_prD p) (fun p _ => shN_P p) (by decide)).imp fun d e => ?_) rfl)
      rw [e]
      cases m1 <;> rfl
    · rintro n ds ⟨m1, m2, rfl, rfl, hp⟩ hb
      have h0 : 0 < m1.length := by
        rcases Nat.eq_zero_or_pos m1.length with z | z
        · rw [z] at hb; cases hb
        · exact z
      have hl : m1.length ≤ 1000 := by
        have := hp.length_eq
        rw [List.length_append] at this
        omega
      refine dss_one (ds_appPop (i := 3) (j := 2) (by decide) rfl (.inl rfl) rfl (.inl rfl) rfl rfl ?_ ?_ ?_ ?_)
      · refine dv_callZ hc (C1 m1.length (by omega) (by omega)) (hr : Room k _) (Nat.le_refl _) rfl (dl_cons (dv_v 0) (dl_cons (de_borrow (i := 2) rfl rfl (dv_callB rfl B.len rfl (dl_cons (dv_v 2) da_nil) (c_lenL.imp fun d e => by rw [e, List.length_map])) fun d e => by rw [e]; rfl) da_nil)) ⟨a, rfl⟩ fun d h => ?_
        obtain ⟨z, e, z0, z1⟩ := h
        exact ⟨z.toNat, by rw [Int.toNat_of_nonneg z0]; exact e, by rw [List.length_map]; omega⟩
      · have := hp.length_eq
        rw [List.length_append] at this
        rw [sizeLine_eq, List.length_map]
        omega
      · rw [List.length_map]
        omega
      · intro kk d hd
        rw [List.getElem?_map, Option.map_eq_some_iff] at hd
        obtain ⟨p, hp1, rfl⟩ := hd
        obtain ⟨hk, e⟩ := List.getElem?_eq_some_iff.mp hp1
        refine ⟨(m1.eraseIdx kk).length, by rw [List.length_eraseIdx_of_lt hk]; omega, m1.eraseIdx kk, m2 ++ [p], ?_, rfl, ?_⟩
        · rw [List.map_append, eraseIdx_mapE]
          rfl
        · refine List.Perm.trans ?_ hp
          rw [List.append_assoc]
          refine List.Perm.append_left m2 ?_
          exact perm_erase hp1
    · rintro n ds ⟨m1, m2, rfl, rfl, hp⟩ hb
      have : m1 = [] := by
        cases m1 with
        | nil => rfl
        | cons p r => cases hb
      subst this
      exact ⟨m2, rfl, by simpa using hp⟩
    · rintro ds ⟨m2, rfl, hp⟩
      exact dss_freeze (i := 3) rfl rfl (ds_retV (dv_v 3) ⟨m2, hp, rfl⟩)
end
end K31

set_option Elab.async false
set_option linter.all false
set_option maxRecDepth 100000
set_option maxHeartbeats 4000000
namespace K31
open PySem PyProof.Rows L2 Dt
section
variable {P : Program} {w : World} {K : PySem.W.Frag} {mg : Str → Option Value} {base : Heap} {k : Nat} {f : Addr} {fd : FuncData}
theorem eqv_ints : ∀ a b : List Int, PyData.eqvAll (a.map PyData.int) (b.map PyData.int) = decide (a = b)
  | [], [] => by unfold PyData.eqvAll; rfl
  | [], _ :: _ => by rw [List.map_nil, List.map_cons]; unfold PyData.eqvAll; rfl
  | _ :: _, [] => by rw [List.map_nil, List.map_cons]; unfold PyData.eqvAll; rfl
  | i :: a, j :: b => by
    rw [List.map_cons, List.map_cons]
    unfold PyData.eqvAll
    rw [eqv_ints a b]
    unfold PyData.eqv
    by_cases h : i = j
    · subst h
      simp
    · simp [h]
theorem eqv_A (a b : Ans) : PyData.eqv (pyA a) (pyA b) = decide (a = b) := by
  unfold pyA PyData.eqv
  exact eqv_ints a b
/-- an int of an answer -/
def okI (i : Int) : Prop := 1 - 10 ^ 20 ≤ i ∧ i ≤ 10 ^ 20 - 1
theorem int20_of {i : Int} (h : okI i) : int20 (.int i) = true := by
  show (decide (1 - 10 ^ 20 ≤ i) && decide (i ≤ 10 ^ 20 - 1)) = true
  rw [decide_eq_true h.1, decide_eq_true h.2]
  rfl
/-- the pairs of a drawn dict: different answers of one length -/
structure PrOk (long : Nat) (m : Tm) : Prop where
  nd : (m.map (·.1)).Nodup
  len : m.length ≤ 6
  al : ∀ p ∈ m, p.1.length = long
  ai : ∀ p ∈ m, ∀ i ∈ p.1, okI i
  nu : ∀ p ∈ m, 0 ≤ p.2 ∧ p.2 < 10 ^ 40
theorem ints_ofD : ∀ {rs : List D} {Q : Int → Prop}, (∀ r ∈ rs, ∃ i, r = .int i ∧ Q i) → ∃ a : Ans, rs = a.map .int ∧ ∀ i ∈ a, Q i
  | [], _, _ => ⟨[], rfl, fun i m => by cases m⟩
  | r :: rs, Q, h => by
    obtain ⟨i, rfl, q⟩ := h r List.mem_cons_self
    obtain ⟨a, rfl, ha⟩ := ints_ofD fun r m => h r (List.mem_cons_of_mem _ m)
    exact ⟨i :: a, rfl, fun j m => by
      rcases List.mem_cons.mp m with rfl | m
      · exact q
      · exact ha j m⟩
theorem pools_ok : ∀ l ∈ pools, ∀ i ∈ l ++ [10 ^ 19, 7], okI i := by
  unfold pools okI
  decide
abbrev p_pairs (K : PySem.W.Frag) (long : Nat) : Sp := spD K true (fun as => ∃ a, as = [.adr a, .int (long : Int)]) (fun _ r => ∃ m : Tm, PrOk long m ∧ r = .lst (m.map prD)) noX
theorem t_law_pairs (B : Bi mg) (C1 : ∀ n, 0 < n → n < 2 ^ 100 → Dt.Cl P w K mg base (k + 1) "_law_roll" (p_roll K n) []) (C2 : Dt.Cl P w K mg base (k + 2) "_law_pool" (p_pool K) []) (C3 : ∀ xs : List D, xs ≠ [] → xs.length ≤ 1000 → Dt.Cl P w K mg base (k + 2) "_law_pick" (p_pick K xs) []) (C4 : Dt.Cl P w K mg base (k + 2) "_law_number" (p_number K) [])
    (F : FunOf K d__law_pairs f fd) (long : Nat) (hlong : long ≤ 4) : FnOk P w K mg base (L2.CX P w) (k + 3) f fd ["dice", "long"] (p_pairs K long) :=
  fn_d (N := ["dice", "long", "pool", "found", "turn", "answer", "spot", "pair"]) F (C8.fnScope_by rfl) (fun as ⟨a, e⟩ => by subst e; rfl) fun c as cdv A outer s E hr ⟨a, e⟩ hz => by
    subst e
    have hc : c.Di a := hz a (List.mem_singleton.mpr rfl)
    refine dss_cons (N := fun ds => ∃ l : List Int, (∀ i ∈ l, okI i) ∧ l ≠ [] ∧ l.length ≤ 10 ∧ ds = [.val (.adr a), .val (.int long), .val (.lst (l.map .int)), .lst [], .no, .no, .no, .no]) (ds_parCN (i := 2) (j := 3) rfl (of_decide_eq_true rfl) rfl rfl (.inr rfl) (.inl rfl) (Pa := fun d => ∃ l : List Int, (∀ i ∈ l, okI i) ∧ l ≠ [] ∧ l.length ≤ 10 ∧ d = .lst (l.map .int)) ?_ (dn_lst da_nil (by decide)) fun x y h1 h2 => ?_) ?_
    · refine de_bin (Pa := poolOk) (Pb := (· = .lst ([10 ^ 19, 7].map D.int))) (dv_callZ hc C2 (hr : Room (k + 2) _) (Nat.le_refl _) rfl (dl_cons (dv_v 0) (dl_cons de_int da_nil)) ⟨a, rfl⟩ fun d h => h) ?_ fun x y h e => ?_
      · exact DV.cast (dv_lst (dl_cons (dv_bin de_int de_int (o_pow ⟨by decide, by decide, by decide⟩)) (dl_cons de_int da_nil)) (by decide)) rfl
      · obtain ⟨l, hl, rfl⟩ := h
        subst e
        have hl4 : l.length = 4 := by
          have : ∀ l ∈ pools, l.length = 4 := by unfold pools; decide
          exact this l hl
        refine (o_cat ?_).imp fun d e => ⟨l ++ [10 ^ 19, 7], pools_ok l hl, by simp, by simp [hl4], by rw [e, List.map_append]⟩
        rw [sizeLine_eq, List.length_map, List.length_map, hl4]
        decide
    · obtain ⟨l, h3, h4, h5, rfl⟩ := h1
      subst h2
      exact ⟨l, h3, h4, h5, rfl⟩
    rintro ds ⟨l, hl, hl0, hl1, rfl⟩
    refine dss_cons (N := fun ds => ∃ (m : Tm) (t1 t2 : Sl), PrOk long m ∧ ds = [.val (.adr a), .val (.int long), .val (.lst (l.map .int)), .lst (m.map prD), t1, t2, .no, .no])
      (ds_forR (i := 4) (S := fun j => 0 ≤ j ∧ j < 7) (fun n k ds => ∃ (m : Tm) (t1 t2 : Sl), n ≤ 6 ∧ m.length ≤ k ∧ (m.map (·.1)).Nodup ∧ (∀ p ∈ m, p.1.length = long) ∧ (∀ p ∈ m, ∀ i ∈ p.1, okI i) ∧ (∀ p ∈ m, 0 ≤ p.2 ∧ p.2 < 10 ^ 40) ∧ ds = [.val (.adr a), .val (.int long), .val (.lst (l.map .int)), .lst (m.map prD), t1, t2, .no, .no])
        PassesOwn.never rfl (of_decide_eq_true rfl) rfl (.inl rfl) (di_range1 rfl B.range (DE.imp (dv_callZ (P := rollOk 7) hc (C1 7 (by decide) (by decide)) (hr : Room (k + 2) _) (Nat.le_succ _) rfl (dl_cons (dv_v 0) (dl_cons de_int da_nil)) ⟨a, rfl⟩ fun d h => h) fun d ⟨i, e, h⟩ => ⟨i, e, h⟩) fun j h => ⟨by omega, by omega⟩)
        (fun j h => ⟨[], .no, .no, by omega, Nat.le_refl _, .nil, fun p m => (by cases m), fun p m => (by cases m), fun p m => (by cases m), rfl⟩) ?_ ?_) ?_
    · rintro j kk ds hj hk ⟨m, t1, t2, hn, hm, nd, al, ai, nu, rfl⟩
      refine dss_cons (N := fun ds => ∃ b : Ans, b.length = long ∧ (∀ i ∈ b, okI i) ∧ ds = [.val (.adr a), .val (.int long), .val (.lst (l.map .int)), .lst (m.map prD), .val (.int kk), .val (ansT b), .no, .no]) (ds_set (i := 5) (of_decide_eq_true rfl) rfl (.inl rfl) (P := fun d => ∃ b : Ans, b.length = long ∧ (∀ i ∈ b, okI i) ∧ d = ansT b) ?_ fun d ⟨b, h1, h2, e⟩ => ⟨b, h1, h2, by subst e; rfl⟩) ?_
      · refine de_callTy rfl B.tuple rfl (da_cons (Pa := fun d => ∃ rs, d = .lst rs ∧ rs.length = long ∧ ∀ r ∈ rs, r ∈ l.map D.int) ?_ da_nil) fun as h => ?_
        · refine DE.imp (de_mapP (i := 6) (es := rngD 0 long) (Q := fun r => r ∈ l.map D.int) rfl (of_decide_eq_true rfl) rfl (DI.imp (di_range1 (S := (· = (long : Int))) rfl B.range (DV.to (dv_v 1) ⟨long, rfl, rfl⟩) (fun z e => by subst e; omega)) fun es h => ?_) rfl rfl (fun d m s H C cl fp => ?_) ?_) fun d ⟨rs, e, h1, h2⟩ => ⟨rs, e, ?_, h2⟩
          · obtain ⟨z, e, h⟩ := h
            subst e
            rw [h, Int.toNat_natCast]
          · exact dv_callZ hc (C3 (l.map D.int) (by simpa using hl0) (by rw [List.length_map]; omega)) (hr : Room (k + 2) _) (Nat.le_refl _) rfl (dl_cons (dv_v 0) (dl_cons (dv_v 2) da_nil)) ⟨a, rfl⟩ fun d h => h
          · unfold rngD
            rw [sizeLine_eq, List.length_map, List.length_range]
            omega
          · rw [h1]
            unfold rngD
            rw [List.length_map, List.length_range]
        · obtain ⟨d, r, e, ⟨rs, e1, h1, h2⟩, e2⟩ := h
          subst e e1 e2
          obtain ⟨b, e, hb⟩ := ints_ofD (Q := fun i => i ∈ l) (rs := rs) fun r m => by
            obtain ⟨i, hi, e⟩ := List.mem_map.mp (h2 r m)
            exact ⟨i, e.symm, hi⟩
          subst e
          exact c_tupL.imp fun d e => ⟨b, by rw [← h1, List.length_map], fun i m => hl i (hb i m), e⟩
      · rintro ds ⟨b, hb1, hb2, rfl⟩
        refine dss_one (ds_if (Pt := (· = !decide (b ∈ m.map (·.1)))) (dt_borrow (i := 3) rfl rfl (db_cmp (dv_v 5) (dv_mapA (i := 7) (as := m) (kf := prD) prD_inj (r := fun p => ansT p.1) rfl (of_decide_eq_true rfl) rfl (di_list (DV.to (dv_v 3) ⟨_, rfl, rfl⟩)) rfl rfl (fun p hp s H C cl fp => ?_) ?_) ((o_notInD (rm hr 65) (py_ansT b) (py_lst (kf := fun p : Ans × Int => ansT p.1) (pf := fun p => pyA p.1) fun p _ => py_ansT p.1) ((shN_A b).shaped (by decide)) ((shN_lst (n := 2) fun x hx => ?_).shaped (by decide))).imp fun d e => ?_) rfl)) (fun h => ?_) fun h => dss_nil ⟨m, _, _, hn, by omega, nd, al, ai, nu, rfl⟩)
        · exact dv_ix (dv_v 7) de_int (x_tup rfl) (fun _ _ => rfl)
        · rw [sizeLine_eq]; omega
        · obtain ⟨p, _, rfl⟩ := List.mem_map.mp hx
          exact shN_A p.1
        · rw [e]
          congr 2
          rw [List.any_map, Bool.eq_iff_iff, List.any_eq_true, decide_eq_true_eq, List.mem_map]
          exact ⟨fun ⟨p, hp, h⟩ => ⟨p, hp, by have h : PyData.eqv (pyA p.1) (pyA b) = true := h; rw [eqv_A, decide_eq_true_eq] at h; exact h⟩, fun ⟨p, hp, h⟩ => ⟨p, hp, by show PyData.eqv (pyA p.1) (pyA b) = true; rw [eqv_A, h]; simp⟩⟩
        · have nb : b ∉ m.map (·.1) := by simpa using h
          refine dss_one (ds_append (i := 3) (P := fun d => ∃ n : Int, 0 ≤ n ∧ n < 10 ^ 40 ∧ d = prD (b, n)) rfl (.inl rfl) rfl ?_ ?_ fun d ⟨n, h0, h1, e⟩ => ⟨m ++ [(b, n)], .val (.int kk), .val (ansT b), hn, ?_, ?_, ?_, ?_, ?_, ?_⟩)
          · refine DE.imp (de_tup (P := fun as => ∃ d r, as = d :: r ∧ d = ansT b ∧ ∃ d2 r2, r = d2 :: r2 ∧ rollOk (10 ^ 40) d2 ∧ r2 = []) (da_cons (Pa := (· = ansT b)) (dv_v 5) (da_cons (Pa := rollOk (10 ^ 40)) ?_ da_nil)) fun as h => ?_) fun d h => ?_
            · exact dv_callZ (as := []) hc C4 (hr : Room (k + 2) _) (Nat.le_refl _) rfl (dl_cons (dv_v 0) da_nil) ⟨a, rfl⟩ fun d h => h
            · obtain ⟨d, r, rfl, _, d2, r2, rfl, _, rfl⟩ := h
              exact small_line (by simp)
            · obtain ⟨as, rfl, d, r, rfl, rfl, d2, r2, rfl, ⟨n, rfl, h0, h1⟩, rfl⟩ := h
              exact ⟨n, h0, h1, rfl⟩
          · rw [sizeLine_eq, List.length_map]; omega
          · rw [List.length_append, List.length_singleton]; omega
          · rw [List.map_append, List.nodup_append]
            exact ⟨nd, by simp, fun x hx y hy z => nb (by have e : x = b := z.trans (by simpa using hy); rw [← e]; exact hx)⟩
          · intro p hp
            rcases List.mem_append.mp hp with hp | hp
            · exact al p hp
            · rw [List.mem_singleton.mp hp]; exact hb1
          · intro p hp
            rcases List.mem_append.mp hp with hp | hp
            · exact ai p hp
            · rw [List.mem_singleton.mp hp]; exact hb2
          · intro p hp
            rcases List.mem_append.mp hp with hp | hp
            · exact nu p hp
            · rw [List.mem_singleton.mp hp]; exact ⟨h0, h1⟩
          · subst e
            rw [List.map_append]
            rfl
    · rintro j ds hj ⟨m, t1, t2, hn, hm, nd, al, ai, nu, rfl⟩
      exact ⟨m, t1, t2, ⟨nd, by omega, al, ai, nu⟩, rfl⟩
    · rintro ds ⟨m, t1, t2, ok, rfl⟩
      exact dss_freeze (i := 3) rfl rfl (ds_retV (dv_v 3) ⟨m, ok, rfl⟩)
end
end K31

set_option Elab.async false
set_option linter.all false
set_option maxRecDepth 100000
set_option maxHeartbeats 4000000
namespace K31
open PySem PyProof.Rows L2 Dt
section
variable {P : Program} {w : World} {K : PySem.W.Frag} {mg : Str → Option Value} {base : Heap} {k : Nat} {f : Addr} {fd : FuncData} {CT CC CI CO : Addr}
/-! the law's own text of pairs -/
def lawLine (p : Ans × Int) : Str := ((("(" : Str) ++ inS p.1) ++ ") * ") ++ iS p.2
def lawText (m : Tm) : Str := if m.isEmpty = true then "none" else Txt.join ", " (m.map lawLine)
structure shP (m : Tm) : Prop where
  len : m.length ≤ 100
  it : ∀ p ∈ m, shA p.1 ∧ (inS p.1).length ≤ 10000 ∧ shI p.2
theorem lawLine_len {p : Ans × Int} (h : (inS p.1).length ≤ 10000) (h2 : shI p.2) : (lawLine p).length ≤ 20000 := by
  unfold lawLine
  rw [Str.length_append, Str.length_append, Str.length_append]
  have h3 : ("(" : Str).length = 1 := by decide
  have h4 : (") * " : Str).length = 4 := by decide
  have := h2.2
  omega
theorem t_law_text (B : Bi mg) (F : FunOf K d__law_text f fd) (m : Tm) (sh : shP m) : FnOk P w K mg base (L2.CX P w) (k + 1) f fd ["pairs"] (spV K [.lst (m.map prD)] (.str (lawText m))) :=
  fn_d (N := ["pairs", "found", "answer", "number", "integer"]) F (C8.fnScope_by rfl) (fun as e => by subst e; rfl) fun c as cdv A outer s E hr e hz => by
    subst e
    refine dss_to (ds' := [.val (.lst (m.map prD)), .lst [], .no, .no, .no]) (ds_new (i := 1) (of_decide_eq_true rfl) rfl (.inl rfl) (dn_lst da_nil (by decide)) fun s e => by subst e; rfl) ?_
    refine dss_cons (N := fun ds => ∃ t2 t3, ds = [.val (.lst (m.map prD)), .lst (m.map fun p => .str (lawLine p)), t2, t3, .no])
      (ds_forP (i := 2) (j := 3) (as := m) (f1 := fun p => ansT p.1) (f2 := fun p => .int p.2) (fun k ds => ∃ t2 t3, ds = [.val (.lst (m.map prD)), .lst ((m.take k).map fun p => .str (lawLine p)), t2, t3, .no]) PassesOwn.never rfl (of_decide_eq_true rfl) rfl (.inl rfl) rfl (.inl rfl)
        (di_list (DV.to (dv_v 0) ⟨_, rfl, rfl⟩)) ⟨.no, .no, rfl⟩ ?_ ?_) ?_
    · rintro kk p ds hp ⟨t2, t3, rfl⟩
      have hm : p ∈ m := List.mem_of_getElem? hp
      obtain ⟨h1, h2, h3⟩ := sh.it p hm
      refine dss_one (ds_append (i := 1) (P := (· = .str (lawLine p))) rfl (.inl rfl) rfl ?_ ?_ fun d e => ⟨.val (ansT p.1), .val (.int p.2), ?_⟩)
      · refine dv_bin (dv_bin (dv_bin de_str (dv_join (ys := p.1.map iS) ?_ ?_) (o_addS (j := inS p.1) ?_)) de_str (o_addS ?_)) (dv_callTy rfl B.str rfl (dl_cons (dv_v 3) da_nil) (c_strI h3.1)) (o_addS (j := iS p.2) ?_)
        · refine DV.cast (dv_mapA (as := p.1) (i := 4) int_inj (r := fun i => .str (iS i)) rfl (of_decide_eq_true rfl) rfl (di_tup (DV.to (dv_v 2) ⟨_, rfl, rfl⟩)) rfl rfl (fun i m s H C cl fp => ?_) (small_line (by have := h1.len; omega))) (by rw [List.map_map]; rfl)
          exact dv_callTy rfl B.str rfl (dl_cons (dv_v 4) da_nil) (c_strI (h1.it i m).1)
        · have h4 : ((p.1.map iS).map (·.length)).sum ≤ (p.1.map iS).length * 600 := sum_le fun x m => by
            obtain ⟨i, hi, rfl⟩ := List.mem_map.mp m
            exact (h1.it i hi).2
          have h5 : (", " : Str).length = 2 := by decide
          rw [h5]
          rw [List.length_map] at h4 ⊢
          have := h1.len
          omega
        · have h3 : ("(" : Str).length = 1 := by decide
          rw [sizeLine_eq]
          omega
        · rw [Str.length_append]
          have h3 : ("(" : Str).length = 1 := by decide
          have h4 : (") * " : Str).length = 4 := by decide
          rw [sizeLine_eq]
          omega
        · have h5 := lawLine_len h2 h3
          unfold lawLine at h5
          rw [Str.length_append] at h5
          rw [sizeLine_eq]
          exact Nat.le_trans h5 (by decide)
      · rw [sizeLine_eq, List.length_map]
        have := List.length_take_le' kk m
        have := sh.len
        omega
      · subst e
        rw [List.take_add_one, hp, List.map_append]
        rfl
    · rintro ds ⟨t2, t3, rfl⟩
      exact ⟨t2, t3, by rw [List.take_length]⟩
    rintro ds ⟨t2, t3, rfl⟩
    refine dss_freeze (i := 1) rfl rfl (ds_retV (d := .str (lawText m)) (de_ifExp (Pt := (· = m.isEmpty)) (db_cmp (dv_v 1) (dv_lst da_nil (by decide)) ((o_eqN (rm hr 0)).imp fun d e => by rw [e, List.isEmpty_map]) rfl) (fun h => ?_) fun h => ?_) rfl)
    · unfold lawText
      rw [if_pos h.symm]
      exact de_str
    · unfold lawText
      rw [← h]
      refine dv_join (ys := m.map lawLine) (DV.cast (dv_v 1) (by rw [List.map_map]; rfl)) ?_
      have h1 : ((m.map lawLine).map (·.length)).sum ≤ (m.map lawLine).length * 20000 := sum_le fun x hx => by
        obtain ⟨p, hp, rfl⟩ := List.mem_map.mp hx
        exact lawLine_len (sh.it p hp).2.1 (sh.it p hp).2.2
      have h2 : (", " : Str).length = 2 := by decide
      rw [h2]
      rw [List.length_map] at h1 ⊢
      have := sh.len
      omega
/-! pairs stored one behind another -/
theorem mergeD_app : ∀ (l : List (List L2.Key × D)) (q : List L2.Key × D) (acc : List (List L2.Key) × List D), mergeD (l ++ [q]) acc = putD (mergeD l acc).1 (mergeD l acc).2 q.1 q.2
  | [], q, acc => rfl
  | p :: l, q, acc => mergeD_app l q (putD acc.1 acc.2 p.1 p.2)
theorem mergeD_len : ∀ (l : List (List L2.Key × D)) (acc : List (List L2.Key) × List D), (mergeD l acc).1.length ≤ acc.1.length + l.length
  | [], acc => Nat.le_refl _
  | p :: l, acc => by
    have h := mergeD_len l (putD acc.1 acc.2 p.1 p.2)
    have h2 : (putD acc.1 acc.2 p.1 p.2).1.length ≤ acc.1.length + 1 := by
      unfold putD
      split
      · exact Nat.le_succ _
      · rw [List.length_append]
        exact Nat.le_refl _
    show (mergeD l (putD acc.1 acc.2 p.1 p.2)).1.length ≤ _
    rw [List.length_cons]
    omega
theorem t_law_added (B : Bi mg) (F : FunOf K d__law_added f fd) (m m' : Tm) (sg : Int) (hm : m.length + m'.length ≤ 1000) (hs : ∀ a, CMulW sg (numAt m' a)) : FnOk P w K mg base (L2.CX P w) (k + 1) f fd ["one", "other", "sign"] (spV K [dicN m, dicN m', .int sg] (dicN (combM m m' sg))) :=
  fn_d (N := ["one", "other", "sign", "found", "answer"]) F (C8.fnScope_by rfl) (fun as e => by subst e; rfl) fun c as cdv A outer s E hr e hz => by
    subst e
    let vf : Ans → D := fun a => .int (numAt m a + sg * numAt m' a)
    let al : List Ans := m.map (·.1) ++ m'.map (·.1)
    let ps : List (List L2.Key × D) := al.map fun a => (kI a, vf a)
    have hl : al.length ≤ 1000 := by
      show (m.map (·.1) ++ m'.map (·.1)).length ≤ 1000
      rw [List.length_append, List.length_map, List.length_map]
      exact hm
    refine dss_to (ds' := [.val (dicN m), .val (dicN m'), .val (.int sg), .dic [] [], .no]) (ds_new (i := 3) (of_decide_eq_true rfl) rfl (.inl rfl) dn_dnil fun s e => by subst e; rfl) ?_
    refine dss_cons (N := fun ds => ∃ t, ds = [.val (dicN m), .val (dicN m'), .val (.int sg), .dic (mergeD ps ([], [])).1 (mergeD ps ([], [])).2, t])
      (ds_forL (i := 4) (es := al.map ansT) (fun k ds => ∃ t, ds = [.val (dicN m), .val (dicN m'), .val (.int sg), .dic (mergeD (ps.take k) ([], [])).1 (mergeD (ps.take k) ([], [])).2, t]) PassesOwn.never rfl (of_decide_eq_true rfl) rfl (.inl rfl)
        (di_list (DV.to (dv_bin (dv_callTy rfl B.list rfl (dl_cons (dv_v 0) da_nil) (c_listD rfl)) (dv_callTy rfl B.list rfl (dl_cons (dv_v 1) da_nil) (c_listD rfl)) ((o_cat ?_).imp fun d e => e)) ⟨_, rfl, ?_⟩)) ⟨.no, rfl⟩ ?_ ?_) ?_
    · rw [sizeLine_eq, List.length_map, List.length_map, List.length_map, List.length_map]
      omega
    · show _ = (m.map (·.1) ++ m'.map (·.1)).map ansT
      rw [List.map_append, List.map_map, List.map_map, List.map_map, List.map_map]
      congr 1 <;> exact List.map_congr_left fun p _ => kD_kI p.1
    · rintro kk d ds hd ⟨t, rfl⟩
      rw [List.getElem?_map, Option.map_eq_some_iff] at hd
      obtain ⟨a, ha, rfl⟩ := hd
      refine dss_one (ds_dput (i := 3) (Pa := (· = ansT a)) (P := (· = vf a)) (rm hr 1) rfl (.inl rfl) rfl (dv_v 4) ?_ ?_ fun x y ex ey => ⟨kI a, by rw [ex, kD_kI], .val (ansT a), ?_⟩)
      · exact dv_bin (DV.cast (dv_dget2 (rm hr 1) (dv_v 0) (DV.cast (dv_v 4) (kD_kI a).symm) de_int ⟨rfl, rfl, rfl, rfl⟩) (getD_dicN m a)) (dv_bin (dv_v 2) (DV.cast (dv_dget2 (rm hr 1) (dv_v 1) (DV.cast (dv_v 4) (kD_kI a).symm) de_int ⟨rfl, rfl, rfl, rfl⟩) (getD_dicN m' a)) (o_mul (hs a))) o_add
      · have h1 := mergeD_len (ps.take kk) ([], [])
        have h2 := List.length_take_le' kk ps
        have h3 : ps.length = al.length := List.length_map _
        have h4 : (([], []) : List (List L2.Key) × List D).1.length = 0 := rfl
        rw [h4] at h1
        rw [sizeLine_eq]
        omega
      · subst ey
        have e : ps[kk]? = some (kI a, vf a) := by
          show (al.map fun a => (kI a, vf a))[kk]? = _
          rw [List.getElem?_map, ha]
          rfl
        rw [List.take_add_one, e, Option.toList_some, mergeD_app]
        rfl
    · rintro ds ⟨t, rfl⟩
      exact ⟨t, by rw [List.length_map, show al.length = ps.length from (List.length_map _).symm, List.take_length]⟩
    rintro ds ⟨t, rfl⟩
    refine dss_freeze (i := 3) rfl rfl (ds_retV (dv_v 3) ?_)
    show D.dic _ _ = dicN (combM m m' sg)
    have e := mergeD_nub (kf := kI) (vf := vf) kI_inj al []
    rw [List.map_nil, List.map_nil] at e
    show D.dic (mergeD ps ([], [])).1 (mergeD ps ([], [])).2 = _
    rw [show mergeD ps ([], []) = _ from e]
    unfold dicN combM combA D.ints
    rw [List.map_map, List.map_map, List.map_map]
    rfl
theorem t_law_times (B : Bi mg) (F : FunOf K d__law_times f fd) (m : Tm) (n : Int) (hm : m.length ≤ 1000) (hn : (m.map (·.1)).Nodup) (hs : ∀ a, CMulW (numAt m a) n) : FnOk P w K mg base (L2.CX P w) (k + 1) f fd ["one", "factor"] (spV K [dicN m, .int n] (dicN (mulM m n))) :=
  fn_d (N := ["one", "factor", "answer"]) F (C8.fnScope_by rfl) (fun as e => by subst e; rfl) fun c as cdv A outer s E hr e hz => by
    subst e
    let ps : List (List L2.Key × D) := (mulM m n).map fun p => (kI p.1, .int p.2)
    refine ds_retV (d := dicN (mulM m n)) (dv_callTy rfl B.dict rfl (dl_cons (a := .lst (ps.map pairD)) ?_ da_nil) ((c_dictPN rfl (rm hr 2) ?_).imp fun d e => ?_)) rfl
    · refine de_lock (i := 0) rfl fun c' _ => DV.cast (dv_mapA (i := 2) (as := m.map (·.1)) (kf := ansT) ansT_inj (r := fun a => pairD (kI a, .int (numAt m a * n))) rfl (of_decide_eq_true rfl) rfl (DI.imp (di_K 0) fun es e => ?_) rfl rfl (fun a ha s H C cl fp => ?_) (by rw [sizeLine_eq, List.length_map]; omega)) ?_
      · rw [e, List.map_map, List.map_map]
        exact List.map_congr_left fun p _ => kD_kI p.1
      · refine dv_tup (dl_cons (DV.cast (dv_v 2) (kD_kI a).symm) (dl_cons (dv_bin (dv_dget (rm hr 1) (dv_L 0) (DV.cast (dv_v 2) (kD_kI a).symm) (d := .int (numAt m a)) ?_) (dv_v 1) (o_mul (hs a))) da_nil)) (by simp)
        rw [look_dicN, look_mem ha]
        rfl
      · show _ = D.lst (((mulM m n).map fun p => (kI p.1, D.int p.2)).map pairD)
        unfold mulM
        rw [List.map_map, List.map_map, List.map_map]
        refine congrArg D.lst (List.map_congr_left fun p hp => ?_)
        show pairD (kI p.1, .int (numAt m p.1 * n)) = pairD (kI p.1, .int (p.2 * n))
        rw [numAt_mem hn hp]
    · show (((mulM m n).map fun p => (kI p.1, D.int p.2)).map (·.1)).Nodup
      unfold mulM
      rw [List.map_map, List.map_map]
      have h : ((m.map (·.1)).map kI).Nodup := hn.map kI fun a b h z => h (kI_inj _ _ z)
      rw [List.map_map] at h
      exact h
    · rw [e]
      show D.dic (((mulM m n).map fun p => (kI p.1, D.int p.2)).map (·.1)) (((mulM m n).map fun p => (kI p.1, D.int p.2)).map (·.2)) = dicN (mulM m n)
      unfold dicN D.ints
      rw [List.map_map, List.map_map, List.map_map]
      rfl
/-- whether no number is greater -/
def leW (m m' : Tm) : Bool := ((m.map (·.1)).filter fun a => decide (numAt m' a < numAt m a)).isEmpty
theorem t_law_within (B : Bi mg) (F : FunOf K d__law_within f fd) (m m' : Tm) (hm : m.length ≤ 1000) : FnOk P w K mg base (L2.CX P w) (k + 1) f fd ["one", "other"] (spV K [dicN m, dicN m'] (.bl (leW m m'))) :=
  fn_d (N := ["one", "other", "answer"]) F (C8.fnScope_by rfl) (fun as e => by subst e; rfl) fun c as cdv A outer s E hr e hz => by
    subst e
    refine ds_retV (d := .bl (leW m m')) (dv_cmp (a := .lst (((m.map (·.1)).filter fun a => decide (numAt m' a < numAt m a)).map fun _ => .int 1)) (de_lock (i := 0) rfl fun c' _ => dv_filterA (i := 2) (as := m.map (·.1)) (kf := ansT) (t := fun a => decide (numAt m' a < numAt m a)) (r := fun _ => .int 1) ansT_inj rfl (of_decide_eq_true rfl) rfl (DI.imp (di_K 0) fun es e => ?_) rfl rfl (fun a ha s H C cl fp => ?_) (fun a ha ht s H C cl fp => de_int) ?_) (dv_lst da_nil (by decide)) ((o_eqN (rm hr 0)).imp fun d e => by rw [e, List.isEmpty_map]; rfl) rfl) rfl
    · rw [e, List.map_map, List.map_map]
      exact List.map_congr_left fun p _ => kD_kI p.1
    · refine db_cmp (dv_dget (rm hr 1) (dv_L 0) (DV.cast (dv_v 2) (kD_kI a).symm) (d := .int (numAt m a)) ?_) (DV.cast (dv_dget2 (rm hr 1) (dv_v 1) (DV.cast (dv_v 2) (kD_kI a).symm) de_int ⟨rfl, rfl, rfl, rfl⟩) (getD_dicN m' a)) o_gt rfl
      rw [look_dicN, look_mem ha]
      rfl
    · rw [sizeLine_eq, List.length_map]
      omega
end
end K31

set_option Elab.async false
set_option linter.all false
set_option maxRecDepth 100000
set_option maxHeartbeats 4000000
namespace K31
open PySem PyProof.Rows L2 Dt
/-! ### plain laws of tallies -/
theorem numAt_nil (a : Ans) : numAt [] a = 0 := rfl
theorem numAt_cons (p : Ans × Int) (m : Tm) (a : Ans) : numAt (p :: m) a = if a = p.1 then p.2 else numAt m a := by
  unfold numAt
  rw [List.lookup_cons]
  by_cases h : a = p.1
  · have e : (a == p.1) = true := by simpa using h
    rw [e, if_pos h]
    rfl
  · have e : (a == p.1) = false := by simpa using h
    rw [e, if_neg h]
theorem numAt_map (g : Ans → Int) : ∀ (as : List Ans) (b : Ans), numAt (as.map fun a => (a, g a)) b = if b ∈ as then g b else 0
  | [], b => rfl
  | a :: as, b => by
    rw [List.map_cons, numAt_cons, numAt_map g as b]
    by_cases h : b = a
    · subst h
      simp
    · simp [h]
theorem numAt_out {m : Tm} {a : Ans} (h : a ∉ m.map (·.1)) : numAt m a = 0 := by
  induction m with
  | nil => rfl
  | cons p m ih =>
    rw [List.map_cons, List.mem_cons, not_or] at h
    rw [numAt_cons, if_neg h.1, ih h.2]
theorem numAt_in {m : Tm} {a : Ans} (h : a ∈ m.map (·.1)) : ∃ p ∈ m, p.1 = a ∧ numAt m a = p.2 := by
  induction m with
  | nil => cases h
  | cons p m ih =>
    rw [numAt_cons]
    by_cases z : a = p.1
    · exact ⟨p, List.mem_cons_self, z.symm, if_pos z⟩
    · rw [List.map_cons, List.mem_cons] at h
      obtain ⟨q, h1, h2, h3⟩ := ih (h.resolve_left z)
      exact ⟨q, List.mem_cons_of_mem _ h1, h2, by rw [if_neg z, h3]⟩
theorem numAt_P {m : Tm} {Q : Int → Prop} (h0 : Q 0) (h : ∀ p ∈ m, Q p.2) (a : Ans) : Q (numAt m a) := by
  by_cases z : a ∈ m.map (·.1)
  · obtain ⟨p, hp, _, e⟩ := numAt_in z
    rw [e]
    exact h p hp
  · rw [numAt_out z]
    exact h0
theorem mem_nubA {α : Type} [DecidableEq α] : ∀ (as acc : List α) (a : α), a ∈ nubA acc as ↔ a ∈ acc ∨ a ∈ as
  | [], acc, a => by simp [nubA]
  | b :: as, acc, a => by
    unfold nubA
    split
    · rename_i h
      rw [mem_nubA as acc a, List.mem_cons]
      exact ⟨fun z => z.elim .inl fun z => .inr (.inr z), fun z => z.elim .inl fun z => z.elim (fun z => .inl (z ▸ h)) .inr⟩
    · rw [mem_nubA as _ a, List.mem_append, List.mem_singleton, List.mem_cons, or_assoc]
theorem nodup_nubA {α : Type} [DecidableEq α] : ∀ (as acc : List α), acc.Nodup → (nubA acc as).Nodup
  | [], acc, h => h
  | b :: as, acc, h => by
    unfold nubA
    split
    · exact nodup_nubA as acc h
    · rename_i n
      exact nodup_nubA as _ (List.nodup_append.mpr ⟨h, by simp, fun x hx y hy z => n (by rw [List.mem_singleton.mp hy] at z; exact z ▸ hx)⟩)
theorem len_nubA {α : Type} [DecidableEq α] : ∀ (as acc : List α), (nubA acc as).length ≤ acc.length + as.length
  | [], acc => Nat.le_refl _
  | b :: as, acc => by
    unfold nubA
    split
    · exact Nat.le_trans (len_nubA as acc) (by rw [List.length_cons]; omega)
    · refine Nat.le_trans (len_nubA as _) ?_
      rw [List.length_append, List.length_singleton, List.length_cons]
      omega
theorem mem_combA {m m' : Tm} {a : Ans} : a ∈ combA m m' ↔ a ∈ m.map (·.1) ∨ a ∈ m'.map (·.1) := by
  unfold combA
  rw [mem_nubA, List.mem_append]
  simp
theorem keys_comb (m m' : Tm) (sg : Int) : (combM m m' sg).map (·.1) = combA m m' := by
  unfold combM
  rw [List.map_map]
  exact List.map_id _
theorem nd_comb (m m' : Tm) : (combA m m').Nodup := nodup_nubA _ _ .nil
theorem len_comb (m m' : Tm) : (combA m m').length ≤ m.length + m'.length := by
  have := len_nubA (m.map (·.1) ++ m'.map (·.1)) []
  rw [List.length_append, List.length_map, List.length_map] at this
  unfold combA
  simpa using this
theorem numAt_comb (m m' : Tm) (sg : Int) (a : Ans) : numAt (combM m m' sg) a = numAt m a + sg * numAt m' a := by
  unfold combM
  rw [numAt_map]
  split
  · rfl
  · rename_i h
    rw [mem_combA, not_or] at h
    rw [numAt_out h.1, numAt_out h.2]
    simp
theorem keys_mul (m : Tm) (n : Int) : (mulM m n).map (·.1) = m.map (·.1) := by
  unfold mulM
  rw [List.map_map]
  rfl
theorem numAt_mul (n : Int) : ∀ (m : Tm) (a : Ans), numAt (mulM m n) a = numAt m a * n
  | [], a => by rw [numAt_nil]; exact (Int.zero_mul n).symm
  | p :: m, a => by
    show numAt ((p.1, p.2 * n) :: mulM m n) a = _
    rw [numAt_cons, numAt_cons, numAt_mul n m a]
    split <;> rfl
theorem mem_posA {m : Tm} {a : Ans} : a ∈ posA m ↔ 0 < numAt m a := by
  unfold posA
  rw [List.mem_filter, decide_eq_true_eq]
  exact ⟨fun h => h.2, fun h => ⟨Decidable.byContradiction fun z => by rw [numAt_out z] at h; omega, h⟩⟩
theorem mem_sortA {as : List Ans} {a : Ans} : a ∈ sortA as ↔ a ∈ as := (sortA_perm as).mem_iff
theorem keys_tally (m : Tm) : (tallyOf m).map (·.1) = sortA (posA m) := by
  unfold tallyOf
  rw [List.map_map]
  exact List.map_id _
theorem numAt_tally (m : Tm) (a : Ans) : numAt (tallyOf m) a = if 0 < numAt m a then numAt m a else 0 := by
  unfold tallyOf
  rw [numAt_map]
  have e : (a ∈ sortA (posA m)) ↔ 0 < numAt m a := mem_sortA.trans mem_posA
  by_cases h : 0 < numAt m a
  · rw [if_pos (e.mpr h), if_pos h]
  · rw [if_neg fun z => h (e.mp z), if_neg h]
theorem numAt_tallyN {m : Tm} (h : ∀ p ∈ m, 0 ≤ p.2) (a : Ans) : numAt (tallyOf m) a = numAt m a := by
  have := numAt_P (Q := fun i => 0 ≤ i) (Int.le_refl 0) h a
  rw [numAt_tally]
  split
  · rfl
  · omega
/-! sorting is determined -/
abbrev leA (a b : Ans) : Prop := PySem.W.dataLe false pyA a b = true
theorem leA_total : PySem.W.TotalLe (PySem.W.dataLe false pyA) := PySem.W.sortLe_total _ _ _
theorem toks_ints : ∀ a b : List Int, PySem.W.keyToksAll (a.map PyData.int) = PySem.W.keyToksAll (b.map PyData.int) → a = b
  | [], [], _ => rfl
  | [], j :: b, h => by
    rw [List.map_nil, List.map_cons, PySem.W.toks_all_cons] at h
    unfold PySem.W.keyToksAll at h
    simp at h
  | i :: a, [], h => by
    rw [List.map_nil, List.map_cons, PySem.W.toks_all_cons] at h
    unfold PySem.W.keyToksAll at h
    simp at h
  | i :: a, j :: b, h => by
    rw [List.map_cons, List.map_cons, PySem.W.toks_all_cons, PySem.W.toks_all_cons] at h
    unfold PySem.W.keyToks at h
    simp only [List.cons_append, List.nil_append, List.cons.injEq, true_and, Sum.inl.injEq] at h
    rw [h.1, toks_ints a b h.2]
theorem dataLe_eq {β : Type} (k : β → PyData) (a b : β) : PySem.W.dataLe false k a b = !PySem.W.dataLt (k b) (k a) := rfl
theorem antiA {a b : Ans} (h1 : leA a b) (h2 : leA b a) : a = b := by
  unfold leA at h1 h2
  rw [dataLe_eq, Bool.not_eq_true'] at h1 h2
  have e := (PyProof.Rows.listOrd PyProof.Rows.itemOrd).total _ _ h2 h1
  unfold pyA at e
  have e : PySem.W.keyToks (.tuple (a.map PyData.int)) = PySem.W.keyToks (.tuple (b.map PyData.int)) := e
  unfold PySem.W.keyToks at e
  exact toks_ints a b e
theorem sortA_pw (as : List Ans) : (sortA as).Pairwise leA := PySem.W.sort_pairwise leA_total as
theorem sortA_perm_eq {as bs : List Ans} (h : as.Perm bs) : sortA as = sortA bs :=
  List.Perm.eq_of_pairwise (fun a b _ _ h1 h2 => antiA h1 h2) (sortA_pw as) (sortA_pw bs) (((sortA_perm as).trans h).trans (sortA_perm bs).symm)
theorem nd_posA {m : Tm} (h : (m.map (·.1)).Nodup) : (posA m).Nodup := h.filter _
theorem tallyOf_congr {m m' : Tm} (h1 : (m.map (·.1)).Nodup) (h2 : (m'.map (·.1)).Nodup) (h : ∀ a, 0 < numAt m a ∨ 0 < numAt m' a → numAt m a = numAt m' a) : tallyOf m = tallyOf m' := by
  have e : sortA (posA m) = sortA (posA m') := sortA_perm_eq ((List.perm_ext_iff_of_nodup (nd_posA h1) (nd_posA h2)).mpr fun a => by
    rw [mem_posA, mem_posA]
    exact ⟨fun z => by rw [← h a (.inl z)]; exact z, fun z => by rw [h a (.inr z)]; exact z⟩)
  unfold tallyOf
  rw [e]
  exact List.map_congr_left fun a ha => by rw [h a (.inr (mem_posA.mp (mem_sortA.mp ha)))]
theorem nd_tally {m : Tm} (h : (m.map (·.1)).Nodup) : ((tallyOf m).map (·.1)).Nodup := by
  rw [keys_tally]
  exact (sortA_perm _).nodup_iff.mpr (nd_posA h)
/-- a tally of a tally's numbers is itself -/
theorem tally_same {m m' : Tm} (h1 : (m.map (·.1)).Nodup) (h2 : (m'.map (·.1)).Nodup) (h : ∀ a, numAt m a = numAt m' a) : tallyOf m = tallyOf m' := tallyOf_congr h1 h2 fun a _ => h a
/-! sorted pairs -/
theorem alike_P (p q : Ans × Int) : PySem.W.alike (pyA p.1) (pyA q.1) = true := by
  unfold pyA PySem.W.alike
  exact alike_ints _ _
theorem ltP (p q : Ans × Int) : PySem.W.dataLt (pyP p) (pyP q) = if p.1 = q.1 then decide (p.2 < q.2) else PySem.W.dataLt (pyA p.1) (pyA q.1) := by
  unfold pyP
  rw [PySem.W.dataLt_tuple]
  by_cases h : p.1 = q.1
  · rw [if_pos h, PySem.W.dataLt_all_yes (alike_P p q) (by rw [eqv_A, h]; simp)]
    by_cases z : p.2 = q.2
    · rw [PySem.W.dataLt_all_yes (by unfold PySem.W.alike; rfl) (by unfold PyData.eqv; simp [z])]
      rw [z]
      have := (PyProof.Rows.listOrd PyProof.Rows.itemOrd).irrefl (PySem.W.keyToksAll [])
      rw [show PyProof.Rows.lexLt PyProof.Rows.itemOrd (PySem.W.keyToksAll []) (PySem.W.keyToksAll []) = false from this]
      simp
    · rw [PySem.W.dataLt_all_no (by unfold PySem.W.alike; rfl) (by unfold PyData.eqv; simp [z]), PySem.W.dataLt_int]
  · rw [if_neg h, PySem.W.dataLt_all_no (alike_P p q) (by rw [eqv_A]; simp [h])]
theorem leP_total : PySem.W.TotalLe (PySem.W.dataLe false pyP) := PySem.W.sortLe_total _ _ _
/-- the pairs with numbers above 0, sorted -/
theorem sortP_eq {m : Tm} (h : (m.map (·.1)).Nodup) : (m.filter fun p => decide (0 < p.2)).mergeSort (PySem.W.dataLe false pyP) = tallyOf m := by
  have inj : ∀ p ∈ m, ∀ q ∈ m, p.1 = q.1 → p = q := fun p hp q hq e => Prod.ext e (by rw [← numAt_mem h hp, ← numAt_mem h hq, e])
  have pm : (tallyOf m).Perm (m.filter fun p => decide (0 < p.2)) := by
    have e : (posA m).map (fun a => (a, numAt m a)) = m.filter fun p => decide (0 < p.2) := by
      unfold posA
      rw [List.filter_map, List.map_map]
      have e1 : (m.filter ((fun a => decide (0 < numAt m a)) ∘ fun x : Ans × Int => x.1)) = m.filter fun p => decide (0 < p.2) := List.filter_congr fun p hp => by
        show decide (0 < numAt m p.1) = _
        rw [numAt_mem h hp]
      rw [e1]
      refine Eq.trans (List.map_congr_left (g := id) fun p hp => ?_) (List.map_id _)
      have hp := (List.mem_filter.mp hp).1
      exact Prod.ext rfl (numAt_mem h hp)
    rw [← e]
    exact (sortA_perm _).map _
  refine List.Perm.eq_of_pairwise (le := fun p q => PySem.W.dataLe false pyP p q = true) (fun p q hp hq h1 h2 => ?_) (PySem.W.sort_pairwise leP_total _) ?_ ((List.mergeSort_perm _ _).trans pm.symm)
  · have hp := (List.mem_filter.mp ((List.mergeSort_perm _ _).mem_iff.mp hp)).1
    have hq := (List.mem_filter.mp (pm.mem_iff.mp hq)).1
    rw [dataLe_eq, ltP] at h1 h2
    by_cases z : p.1 = q.1
    · exact inj p hp q hq z
    · rw [if_neg fun y => z y.symm] at h1
      rw [if_neg z] at h2
      exact inj p hp q hq (antiA (a := p.1) (b := q.1) h1 h2)
  · unfold tallyOf
    rw [List.pairwise_map]
    have nd := (sortA_perm (posA m)).nodup_iff.mpr (nd_posA h)
    refine ((sortA_pw (posA m)).and nd).imp fun {a b} ⟨h1, h2⟩ => ?_
    rw [dataLe_eq, ltP]
    show (!if b = a then _ else PySem.W.dataLt (pyA b) (pyA a)) = true
    rw [if_neg fun y => h2 y.symm]
    exact h1
end K31

set_option Elab.async false
set_option linter.all false
set_option maxRecDepth 100000
set_option maxHeartbeats 4000000
namespace K31
open PySem PyProof.Rows L2 Dt
section
variable {P : Program} {w : World} {K : PySem.W.Frag} {mg : Str → Option Value} {base : Heap} {k : Nat} {f : Addr} {fd : FuncData} {CT CC CI CO : Addr}
/-- one of whatever items -/
abbrev p_pickA (K : PySem.W.Frag) : Sp := spD K true (fun as => ∃ a xs, as = [.adr a, .lst xs] ∧ xs ≠ [] ∧ xs.length ≤ 1000) (fun as r => ∀ a xs, as = [.adr a, .lst xs] → r ∈ xs) noX
theorem t_law_pickA (B : Bi mg) (C1 : ∀ n, 0 < n → n < 2 ^ 100 → Dt.Cl P w K mg base k "_law_roll" (p_roll K n) []) (F : FunOf K d__law_pick f fd) : FnOk P w K mg base (L2.CX P w) (k + 1) f fd ["dice", "items"] (p_pickA K) :=
  fn_d (N := ["dice", "items"]) F (C8.fnScope_by rfl) (fun as ⟨a, xs, e, _⟩ => by subst e; rfl) fun c as cdv A outer s E hr ⟨a, xs, e, hx, hl⟩ hz => by
    subst e
    have hc : c.Di a := hz a (List.mem_singleton.mpr rfl)
    have h0 : 0 < xs.length := List.length_pos_iff.mpr hx
    refine dss_one (ds_ret (DE.imp (de_ix (P := (· ∈ xs)) (Pa := (· = .lst xs)) (Pb := rollOk xs.length) (dv_v 1) ?_ (fun x y e1 ⟨i, e2, h1, h2⟩ => by subst e1 e2; exact x_listN h1 h2) (fun _ _ => rfl)) fun d h b ys e => by cases e; exact h))
    exact dv_callZ hc (C1 xs.length (by omega) (by omega)) (hr : Room k _) (Nat.le_refl _) rfl (dl_cons (dv_v 0) (dl_cons (dv_callB rfl B.len rfl (dl_cons (dv_v 1) da_nil) c_lenL) da_nil)) ⟨a, rfl⟩ fun d h => h
theorem pick_of (C : Dt.Cl P w K mg base k "_law_pick" (p_pickA K) []) (xs : List D) (hx : xs ≠ []) (hl : xs.length ≤ 1000) : Dt.Cl P w K mg base k "_law_pick" (p_pick K xs) [] :=
  C.weak fun vs H Q E ⟨c, as, h1, h2, ⟨a, e⟩, h4, h5, h6⟩ => ⟨c, as, h1, h2, ⟨a, xs, e, hx, hl⟩, h4, fun v d H' p => h5 v d H' (p a xs e), fun cls H' z => h6 cls H' z⟩
/-! a number put at an answer -/
def putM (m : Tm) (a : Ans) (n : Int) : Tm := if a ∈ m.map (·.1) then m.map fun p => if p.1 = a then (p.1, n) else p else m ++ [(a, n)]
theorem keys_put {m : Tm} {a : Ans} {n : Int} : (putM m a n).map (·.1) = if a ∈ m.map (·.1) then m.map (·.1) else m.map (·.1) ++ [a] := by
  unfold putM
  split
  · rw [List.map_map]
    refine List.map_congr_left fun p _ => ?_
    show (if p.1 = a then (p.1, n) else p).1 = p.1
    split <;> rfl
  · rw [List.map_append]
    rfl
theorem mem_put {m : Tm} {a : Ans} {n : Int} {p : Ans × Int} (h : p ∈ putM m a n) : p ∈ m ∨ p = (a, n) := by
  unfold putM at h
  split at h
  · obtain ⟨q, hq, rfl⟩ := List.mem_map.mp h
    split
    · rename_i e
      exact .inr (by rw [e])
    · exact .inl hq
  · rcases List.mem_append.mp h with h | h
    · exact .inl h
    · exact .inr (List.mem_singleton.mp h)
theorem len_put {m : Tm} {a : Ans} {n : Int} : (putM m a n).length ≤ m.length + 1 := by
  unfold putM
  split
  · rw [List.length_map]; omega
  · rw [List.length_append]; exact Nat.le_refl _
theorem putD_put (m : Tm) (a : Ans) (n : Int) : D.dic (putD (m.map fun p => kI p.1) (D.ints (m.map (·.2))) (kI a) (.int n)).1 (putD (m.map fun p => kI p.1) (D.ints (m.map (·.2))) (kI a) (.int n)).2 = dicN (putM m a n) := by
  have e0 : ((m.map fun p => kI p.1).any fun q => decide (q = kI a)) = decide (a ∈ m.map (·.1)) := by
    rw [Bool.eq_iff_iff, any_mem, decide_eq_true_eq, List.mem_map, List.mem_map]
    exact ⟨fun ⟨p, hp, e⟩ => ⟨p, hp, kI_inj _ _ e⟩, fun ⟨p, hp, e⟩ => ⟨p, hp, by rw [e]⟩⟩
  unfold putD
  rw [e0]
  unfold dicN
  by_cases h : a ∈ m.map (·.1)
  · have e1 : putM m a n = m.map fun p => if p.1 = a then (p.1, n) else p := if_pos h
    rw [decide_eq_true h, if_pos rfl, e1]
    congr 1
    · rw [List.map_map]
      refine List.map_congr_left fun p _ => ?_
      show kI p.1 = kI (if p.1 = a then (p.1, n) else p).1
      split <;> rfl
    · unfold D.ints
      rw [List.map_map, List.map_map, List.map_map, List.zip_map', List.map_map]
      refine List.map_congr_left fun p _ => ?_
      show (if kI p.1 = kI a then D.int n else D.int p.2) = D.int (if p.1 = a then (p.1, n) else p).2
      by_cases z : p.1 = a
      · rw [if_pos (by rw [z]), if_pos z]
      · rw [if_neg fun y => z (kI_inj _ _ y), if_neg z]
  · have e1 : putM m a n = m ++ [(a, n)] := if_neg h
    rw [decide_eq_false h, if_neg (by simp), e1]
    unfold D.ints
    rw [List.map_append, List.map_append, List.map_append]
    rfl
/-- an int of such a dict's answers -/
def b4 (i : Int) : Prop := i ∈ ([0, 1, -7, 10 ^ 19] : List Int)
structure PrC (long : Nat) (m : Tm) : Prop where
  nd : (m.map (·.1)).Nodup
  len : m.length ≤ 6
  al : ∀ p ∈ m, p.1.length = long
  ai : ∀ p ∈ m, ∀ i ∈ p.1, b4 i
  nu : ∀ p ∈ m, 0 ≤ p.2 ∧ p.2 < 10 ^ 40
theorem PrC.ok {long : Nat} {m : Tm} (h : PrC long m) : PrOk long m := ⟨h.nd, h.len, h.al, fun p hp i hi => by
  have : ∀ i ∈ ([0, 1, -7, 10 ^ 19] : List Int), okI i := by unfold okI; decide
  exact this i (h.ai p hp i hi), h.nu⟩
abbrev p_counts (K : PySem.W.Frag) (long : Nat) : Sp := spD K true (fun as => ∃ a, as = [.adr a, .int (long : Int)]) (fun _ r => ∃ m : Tm, PrC long m ∧ r = dicN m) noX
theorem t_law_counts (B : Bi mg) (C1 : ∀ n, 0 < n → n < 2 ^ 100 → Dt.Cl P w K mg base (k + 1) "_law_roll" (p_roll K n) []) (C3 : Dt.Cl P w K mg base (k + 2) "_law_pick" (p_pickA K) [])
    (F : FunOf K d__law_counts f fd) (long : Nat) (hlong : long ≤ 4) : FnOk P w K mg base (L2.CX P w) (k + 3) f fd ["dice", "long"] (p_counts K long) :=
  fn_d (N := ["dice", "long", "found", "turn", "answer", "spot"]) F (C8.fnScope_by rfl) (fun as ⟨a, e⟩ => by subst e; rfl) fun c as cdv A outer s E hr ⟨a, e⟩ hz => by
    subst e
    have hc : c.Di a := hz a (List.mem_singleton.mpr rfl)
    refine dss_to (ds' := [.val (.adr a), .val (.int long), .dic [] [], .no, .no, .no]) (ds_new (i := 2) (of_decide_eq_true rfl) rfl (.inl rfl) dn_dnil fun s e => by subst e; rfl) ?_
    refine dss_cons (N := fun ds => ∃ (m : Tm) (t1 t2 : Sl), PrC long m ∧ ds = [.val (.adr a), .val (.int long), .dic (m.map fun p => kI p.1) (D.ints (m.map (·.2))), t1, t2, .no])
      (ds_forR (i := 3) (S := fun j => 0 ≤ j ∧ j < 6) (fun n k ds => ∃ (m : Tm) (t1 t2 : Sl), n ≤ 5 ∧ m.length ≤ k ∧ (m.map (·.1)).Nodup ∧ (∀ p ∈ m, p.1.length = long) ∧ (∀ p ∈ m, ∀ i ∈ p.1, b4 i) ∧ (∀ p ∈ m, 0 ≤ p.2 ∧ p.2 < 10 ^ 40) ∧ ds = [.val (.adr a), .val (.int long), .dic (m.map fun p => kI p.1) (D.ints (m.map (·.2))), t1, t2, .no])
        PassesOwn.never rfl (of_decide_eq_true rfl) rfl (.inl rfl) (di_range1 rfl B.range (DE.imp (dv_callZ (P := rollOk 6) hc (C1 6 (by decide) (by decide)) (hr : Room (k + 2) _) (Nat.le_succ _) rfl (dl_cons (dv_v 0) (dl_cons de_int da_nil)) ⟨a, rfl⟩ fun d h => h) fun d ⟨i, e, h⟩ => ⟨i, e, h⟩) fun j h => ⟨by omega, by omega⟩)
        (fun j h => ⟨[], .no, .no, by omega, Nat.le_refl _, .nil, fun p m => (by cases m), fun p m => (by cases m), fun p m => (by cases m), rfl⟩) ?_ ?_) ?_
    · rintro j kk ds hj hk ⟨m, t1, t2, hn, hm, nd, al, ai, nu, rfl⟩
      refine dss_cons (N := fun ds => ∃ b : Ans, b.length = long ∧ (∀ i ∈ b, b4 i) ∧ ds = [.val (.adr a), .val (.int long), .dic (m.map fun p => kI p.1) (D.ints (m.map (·.2))), .val (.int kk), .val (ansT b), .no]) (ds_set (i := 4) (of_decide_eq_true rfl) rfl (.inl rfl) (P := fun d => ∃ b : Ans, b.length = long ∧ (∀ i ∈ b, b4 i) ∧ d = ansT b) ?_ fun d ⟨b, h1, h2, e⟩ => ⟨b, h1, h2, by subst e; rfl⟩) ?_
      · refine de_callTy rfl B.tuple rfl (da_cons (Pa := fun d => ∃ rs, d = .lst rs ∧ rs.length = long ∧ ∀ r ∈ rs, r ∈ [0, 1, -7, 10 ^ 19].map D.int) ?_ da_nil) fun as h => ?_
        · refine DE.imp (de_mapP (i := 5) (es := rngD 0 long) (Q := fun r => r ∈ [0, 1, -7, 10 ^ 19].map D.int) rfl (of_decide_eq_true rfl) rfl (DI.imp (di_range1 (S := (· = (long : Int))) rfl B.range (DV.to (dv_v 1) ⟨long, rfl, rfl⟩) (fun z e => by subst e; omega)) fun es h => ?_) rfl rfl (fun d m s H C cl fp => ?_) ?_) fun d ⟨rs, e, h1, h2⟩ => ⟨rs, e, ?_, h2⟩
          · obtain ⟨z, e, h⟩ := h
            subst e
            rw [h, Int.toNat_natCast]
          · refine dv_callZ (as := [.lst ([0, 1, -7, 10 ^ 19].map D.int)]) hc (pick_of C3 ([0, 1, -7, 10 ^ 19].map D.int) (by simp) (by simp)) (hr : Room (k + 2) _) (Nat.le_refl _) rfl (dl_cons (dv_v 0) (dl_cons (DV.cast (dv_lst (dl_cons de_int (dl_cons de_int (dl_cons (dv_un de_int u_neg) (dl_cons (dv_bin de_int de_int (o_pow ⟨by decide, by decide, by decide⟩)) da_nil)))) (by simp)) rfl) da_nil)) ⟨a, rfl⟩ fun d h => h
          · unfold rngD
            rw [sizeLine_eq, List.length_map, List.length_range]
            omega
          · rw [h1]
            unfold rngD
            rw [List.length_map, List.length_range]
        · obtain ⟨d, r, e, ⟨rs, e1, h1, h2⟩, e2⟩ := h
          subst e e1 e2
          obtain ⟨b, e, hb⟩ := ints_ofD (Q := b4) (rs := rs) fun r m => by
            obtain ⟨i, hi, e⟩ := List.mem_map.mp (h2 r m)
            refine ⟨i, e.symm, ?_⟩
            exact hi
          subst e
          exact c_tupL.imp fun d e => ⟨b, by rw [← h1, List.length_map], hb, e⟩
      · rintro ds ⟨b, hb1, hb2, rfl⟩
        refine dss_one (ds_dput (i := 2) (Pa := (· = ansT b)) (P := fun d => ∃ n : Int, d = .int n ∧ 0 ≤ n ∧ n < 10 ^ 40) (rm hr 1) rfl (.inl rfl) rfl (dv_v 4) ?_ ?_ fun x y ex ⟨n, ey, h0, h1⟩ => ⟨kI b, by rw [ex, kD_kI], putM m b n, .val (.int kk), .val (ansT b), hn, ?_, ?_, ?_, ?_, ?_, ?_⟩)
        · refine de_callZ (Pa := fun as => ∃ n1 n2 : Int, as = [.adr a, .lst ([0, 1, 2, n1, n2].map D.int)] ∧ (0 ≤ n1 ∧ n1 < 10 ^ 40) ∧ 0 ≤ n2 ∧ n2 < 10 ^ 40) hc C3 (hr : Room (k + 2) _) (Nat.le_refl _) rfl ?_ (fun as ⟨n1, n2, e, _⟩ => ⟨_, e⟩) (fun as ⟨n1, n2, e, _⟩ => ⟨a, _, e, by simp, by simp⟩) fun as d ⟨n1, n2, e, h1, h2⟩ q => ?_
          · refine DA.imp (da_cons (Pa := (· = .adr a)) (dv_v 0) (da_cons (Pa := fun d => ∃ n1 n2 : Int, d = .lst ([0, 1, 2, n1, n2].map D.int) ∧ (0 ≤ n1 ∧ n1 < 10 ^ 40) ∧ 0 ≤ n2 ∧ n2 < 10 ^ 40) ?_ da_nil)) fun as h => ?_
            · refine DE.imp (de_lst (da_cons (Pa := (· = .int 0)) de_int (da_cons (Pa := (· = .int 1)) de_int (da_cons (Pa := (· = .int 2)) de_int (da_cons (Pa := rollOk 9) ?_ (da_cons (Pa := fun d => ∃ n, d = .int n ∧ 0 ≤ n ∧ n < 10 ^ 40) ?_ da_nil))))) fun as h => ?_) fun d h => ?_
              · exact dv_callZ hc (C1 9 (by decide) (by decide)) (hr : Room (k + 2) _) (Nat.le_succ _) rfl (dl_cons (dv_v 0) (dl_cons de_int da_nil)) ⟨a, rfl⟩ fun d h => h
              · refine de_opI (P := (· = .int (10 ^ 40 - 1))) (Q := rollOk 3) (dv_bin (dv_bin de_int de_int (o_pow ⟨by decide, by decide, by decide⟩)) de_int (o_sub.imp fun d e => e.trans (congrArg D.int (by decide)))) ?_ (fun x y e h => by cases e; obtain ⟨z, e, h0, h1⟩ := h; cases e; exact o_sub.imp fun d e => ⟨_, e, by omega, by omega⟩) (fun d h => ⟨_, h⟩) (fun d h => h.anI)
                exact dv_callZ hc (C1 3 (by decide) (by decide)) (hr : Room (k + 2) _) (Nat.le_succ _) rfl (dl_cons (dv_v 0) (dl_cons de_int da_nil)) ⟨a, rfl⟩ fun d h => h
              · obtain ⟨_, _, rfl, _, _, _, rfl, _, _, _, rfl, _, _, _, rfl, _, _, _, rfl, _, rfl⟩ := h
                exact small_line (by simp)
              · obtain ⟨as, rfl, _, _, rfl, rfl, _, _, rfl, rfl, _, _, rfl, rfl, _, _, rfl, ⟨n1, rfl, h1, h2⟩, _, _, rfl, ⟨n2, rfl, h3, h4⟩, rfl⟩ := h
                exact ⟨n1, n2, rfl, ⟨h1, by omega⟩, h3, h4⟩
            · obtain ⟨_, _, rfl, rfl, _, _, rfl, ⟨n1, n2, rfl, h1, h2⟩, rfl⟩ := h
              exact ⟨n1, n2, rfl, h1, h2⟩
          · obtain ⟨i, hi, ei⟩ := List.mem_map.mp (q a _ e)
            refine ⟨i, ei.symm, ?_⟩
            simp only [List.mem_cons, List.not_mem_nil, or_false] at hi
            rcases hi with rfl | rfl | rfl | rfl | rfl
            · decide
            · decide
            · decide
            · exact h1
            · exact h2
        · rw [sizeLine_eq, List.length_map]
          have := hk
          omega
        · exact Nat.le_trans len_put (by omega)
        · rw [keys_put]
          split
          · exact nd
          · rename_i nb
            exact List.nodup_append.mpr ⟨nd, by simp, fun x hx y hy z => nb (by rw [← List.mem_singleton.mp hy, ← z]; exact hx)⟩
        · intro p hp
          rcases mem_put hp with hp | rfl
          · exact al p hp
          · exact hb1
        · intro p hp
          rcases mem_put hp with hp | rfl
          · exact ai p hp
          · exact hb2
        · intro p hp
          rcases mem_put hp with hp | rfl
          · exact nu p hp
          · exact ⟨h0, h1⟩
        · subst ey
          have e := putD_put m b n
          unfold dicN at e
          injection e with e1 e2
          rw [e1, e2]
          rfl
    · rintro j ds hj ⟨m, t1, t2, hn, hm, nd, al, ai, nu, rfl⟩
      exact ⟨m, t1, t2, ⟨nd, by omega, al, ai, nu⟩, rfl⟩
    · rintro ds ⟨m, t1, t2, ok, rfl⟩
      exact dss_freeze (i := 2) rfl rfl (ds_retV (dv_v 2) ⟨m, ok, rfl⟩)
end
end K31

set_option Elab.async false
set_option linter.all false
set_option maxRecDepth 100000
set_option maxHeartbeats 4000000
namespace K31
open PySem PyProof.Rows L2 Dt
theorem eqv_AL : ∀ as bs : List Ans, PyData.eqvAll (as.map pyA) (bs.map pyA) = decide (as = bs)
  | [], [] => by unfold PyData.eqvAll; rfl
  | [], _ :: _ => by rw [List.map_nil, List.map_cons]; unfold PyData.eqvAll; rfl
  | _ :: _, [] => by rw [List.map_nil, List.map_cons]; unfold PyData.eqvAll; rfl
  | a :: as, b :: bs => by
    rw [List.map_cons, List.map_cons, PySem.W.eqv_all_cons, eqv_A, eqv_AL as bs]
    by_cases h : a = b
    · subst h
      simp
    · simp [h]
/-- answers of one length with numbers from 0 to N - 1 -/
structure Ct (long L : Nat) (N : Int) (m : Tm) : Prop where
  nd : (m.map (·.1)).Nodup
  len : m.length ≤ L
  al : ∀ p ∈ m, p.1.length = long
  ai : ∀ p ∈ m, ∀ i ∈ p.1, okI i
  nn : ∀ p ∈ m, 0 ≤ p.2
  nb : ∀ p ∈ m, p.2 < N
section
variable {long L L' : Nat} {N N' : Int} {m m' : Tm}
theorem PrOk.ct (h : PrOk long m) : Ct long 6 (10 ^ 40) m := ⟨h.nd, h.len, h.al, h.ai, fun p hp => (h.nu p hp).1, fun p hp => (h.nu p hp).2⟩
theorem Ct.keyL (h : Ct long L N m) {a : Ans} (ha : a ∈ m.map (·.1)) : a.length = long ∧ ∀ i ∈ a, okI i := by
  obtain ⟨p, hp, rfl⟩ := List.mem_map.mp ha
  exact ⟨h.al p hp, h.ai p hp⟩
theorem Ct.num0 (h : Ct long L N m) (a : Ans) : 0 ≤ numAt m a := numAt_P (Q := fun i => 0 ≤ i) (Int.le_refl 0) h.nn a
theorem Ct.numN (h : Ct long L N m) (h0 : 0 < N) (a : Ans) : numAt m a < N := numAt_P (Q := fun i => i < N) h0 h.nb a
theorem Ct.tally (h : Ct long L N m) : Ct long L N (tallyOf m) := by
  have key : ∀ p ∈ tallyOf m, p.1 ∈ m.map (·.1) ∧ p.2 = numAt m p.1 := fun p hp => by
    unfold tallyOf at hp
    obtain ⟨a, ha, rfl⟩ := List.mem_map.mp hp
    exact ⟨sortA_mem ha, rfl⟩
  refine ⟨nd_tally h.nd, ?_, fun p hp => (h.keyL (key p hp).1).1, fun p hp => (h.keyL (key p hp).1).2, fun p hp => by rw [(key p hp).2]; exact h.num0 _, fun p hp => ?_⟩
  · unfold tallyOf
    rw [List.length_map, (sortA_perm _).length_eq]
    exact Nat.le_trans (posA_len m) h.len
  · obtain ⟨q, hq, _, e⟩ := numAt_in (key p hp).1
    rw [(key p hp).2, e]
    exact h.nb q hq
theorem Ct.add (h : Ct long L N m) (h' : Ct long L' N' m') (h0 : 0 < N) (h0' : 0 < N') : Ct long (L + L') (N + N') (combM m m' 1) := by
  have key : ∀ p ∈ combM m m' 1, (p.1 ∈ m.map (·.1) ∨ p.1 ∈ m'.map (·.1)) ∧ p.2 = numAt m p.1 + 1 * numAt m' p.1 := fun p hp => by
    unfold combM at hp
    obtain ⟨a, ha, rfl⟩ := List.mem_map.mp hp
    exact ⟨mem_combA.mp ha, rfl⟩
  refine ⟨by rw [keys_comb]; exact nd_comb m m', ?_, fun p hp => (key p hp).1.elim (fun z => (h.keyL z).1) fun z => (h'.keyL z).1, fun p hp => (key p hp).1.elim (fun z => (h.keyL z).2) fun z => (h'.keyL z).2, fun p hp => ?_, fun p hp => ?_⟩
  · unfold combM
    rw [List.length_map]
    have := len_comb m m'
    have := h.len
    have := h'.len
    omega
  · have := h.num0 p.1
    have := h'.num0 p.1
    rw [(key p hp).2]
    omega
  · have := h.numN h0 p.1
    have := h'.numN h0' p.1
    rw [(key p hp).2]
    omega
theorem Ct.mul (h : Ct long L N m) {n F : Int} (n0 : 0 ≤ n) (nF : n ≤ F) (hF : 0 < F) : Ct long L (N * F) (mulM m n) := by
  have key : ∀ p ∈ mulM m n, ∃ q ∈ m, p = (q.1, q.2 * n) := fun p hp => by
    unfold mulM at hp
    obtain ⟨q, hq, rfl⟩ := List.mem_map.mp hp
    exact ⟨q, hq, rfl⟩
  refine ⟨by rw [keys_mul]; exact h.nd, by unfold mulM; rw [List.length_map]; exact h.len, fun p hp => ?_, fun p hp => ?_, fun p hp => ?_, fun p hp => ?_⟩ <;> obtain ⟨q, hq, rfl⟩ := key p hp
  · exact h.al q hq
  · exact h.ai q hq
  · exact Int.mul_nonneg (h.nn q hq) n0
  · have h1 : q.2 * n ≤ q.2 * F := Int.mul_le_mul_of_nonneg_left nF (h.nn q hq)
    have h2 : q.2 * F < N * F := Int.mul_lt_mul_of_pos_right (h.nb q hq) hF
    exact Int.lt_of_le_of_lt h1 h2
theorem Ct.one (h : Ct long L N m) : m.length ≤ 1 ∨ ∀ a ∈ m.map (·.1), a ≠ [] := by
  by_cases z : long = 0
  · left
    match m, h with
    | [], _ => exact Nat.zero_le _
    | [_], _ => exact Nat.le_refl _
    | p :: q :: r, h =>
      exfalso
      have e1 := h.al p (by simp)
      have e2 := h.al q (by simp)
      have e3 : p.1 = q.1 := by
        rw [List.length_eq_zero_iff.mp (e1.trans z), List.length_eq_zero_iff.mp (e2.trans z)]
      have nd := h.nd
      rw [List.map_cons, List.map_cons, List.nodup_cons] at nd
      exact nd.1 (by rw [e3]; exact List.mem_cons_self)
  · exact .inr fun a ha e => z (by rw [← (h.keyL ha).1, e]; rfl)
theorem Ct.tw (h : Ct long L N m) (hL : L ≤ 1000) : Tw m := ⟨h.nd, Nat.le_trans h.len hL, h.one.imp id fun z a ha => z a (List.mem_filter.mp ha).1⟩
theorem ansD_of {a : Ans} (h1 : a.length ≤ 4) (h2 : ∀ i ∈ a, okI i) : ansD (ansT a) = true := by
  show (decide ((a.map D.int).length ≤ 4) && (a.map D.int).all int20) = true
  rw [Bool.and_eq_true, decide_eq_true_eq, List.length_map, List.all_eq_true]
  exact ⟨h1, fun x hx => by
    obtain ⟨i, hi, rfl⟩ := List.mem_map.mp hx
    exact int20_of (h2 i hi)⟩
theorem Ct.ans (h : Ct long L N m) (hl : long ≤ 4) : ansM m := fun a ha => ansD_of (by rw [(h.keyL ha).1]; exact hl) (h.keyL ha).2
theorem log_small {i : Int} (h0 : 0 ≤ i) (h1 : i < 10 ^ 300) : i.natAbs < 2 ^ 1000 := by
  have : (10 : Int) ^ 300 < ((2 ^ 1000 : Nat) : Int) := by decide +kernel
  have h : (i.natAbs : Int) < ((2 ^ 1000 : Nat) : Int) := by
    rw [Int.natAbs_of_nonneg h0]
    exact Int.lt_trans h1 this
  exact Int.ofNat_lt.mp h
theorem Ct.small (h : Ct long L N m) (hN : 0 < N) (hN2 : N ≤ 10 ^ 300) (a : Ans) : (numAt m a).natAbs < 2 ^ 1000 := log_small (h.num0 a) (Int.lt_of_lt_of_le (h.numN hN a) hN2)
theorem log2_lt {n : Nat} (h : n < 2 ^ 1000) : n.log2 < 1920 := by
  have := log2_le h
  omega
/-- the sum of the numbers that are not 0 -/
theorem sum_filter {f : Ans → Int} : ∀ {as : List Ans}, (∀ a ∈ as, 0 ≤ f a) → ((as.filter fun a => decide (0 < f a)).map f).sum = (as.map f).sum
  | [], _ => rfl
  | a :: as, h => by
    have ih := sum_filter (f := f) (as := as) fun b hb => h b (List.mem_cons_of_mem _ hb)
    have h0 := h a List.mem_cons_self
    rw [List.filter_cons, List.map_cons, List.sum_cons, ← ih]
    split
    · rw [List.map_cons, List.sum_cons]
    · rename_i z
      have z : ¬ 0 < f a := by simpa using z
      omega
theorem sum_perm {f : Ans → Int} {as bs : List Ans} (h : as.Perm bs) : (as.map f).sum = (bs.map f).sum := by
  induction h with
  | nil => rfl
  | cons x _ ih => rw [List.map_cons, List.map_cons, List.sum_cons, List.sum_cons, ih]
  | swap x y l =>
    rw [List.map_cons, List.map_cons, List.map_cons, List.map_cons, List.sum_cons, List.sum_cons, List.sum_cons, List.sum_cons]
    omega
  | trans _ _ a b => exact a.trans b
theorem Ct.total (h : Ct long L N m) : (((tallyOf m).map (·.1)).map (numAt (tallyOf m))).sum = ((m.map (·.1)).map (numAt m)).sum := by
  rw [keys_tally, List.map_congr_left (g := numAt m) fun a _ => numAt_tallyN h.nn a, sum_perm (sortA_perm _)]
  exact sum_filter fun a _ => h.num0 a
theorem sum_lt {f : Ans → Int} {N : Int} (hN : 0 < N) : ∀ {as : List Ans}, (∀ a ∈ as, 0 ≤ f a ∧ f a < N) → 0 ≤ (as.map f).sum ∧ (as.map f).sum ≤ as.length * N
  | [], _ => by simp
  | a :: as, h => by
    have ih := sum_lt (f := f) hN (as := as) fun b hb => h b (List.mem_cons_of_mem _ hb)
    have h0 := h a List.mem_cons_self
    rw [List.map_cons, List.sum_cons, List.length_cons]
    push_cast
    rw [Int.add_mul, Int.one_mul]
    omega
end
section
variable {P : Program} {w : World} {K : PySem.W.Frag} {mg : Str → Option Value} {base : Heap} {k : Nat} {f : Addr} {fd : FuncData} {CT CC CI CO : Addr} {long L : Nat} {N : Int}
theorem ansL_tally (m : Tm) : ansL (tallyOf m) = (sortA (posA m)).map ansT := by
  unfold ansL tallyOf
  rw [List.map_map]
  rfl
/-- what is known of a tally's own defs -/
structure Tal (P : Program) (w : World) (K : PySem.W.Frag) (mg : Str → Option Value) (base : Heap) (k : Nat) (CT CC CI CO : Addr) : Prop where
  sf : PySem.W.selfFirst K CT = true
  get : ∀ m d, KnT [CT, CC] d → Mtd P w K mg base k CT "__getitem__" (spV K [talD CT m, d] (.int (valAt m d)))
  gi : ∀ g, Meth K CT "__getitem__" g → PySem.W.fnIn K g = true
  len : ∀ m, Mtd P w K mg base k CT "__len__" (spV K [talD CT m] (.int (m.length : Nat)))
  listed : ∀ m, Prp P w K mg base k CT "listed" (spV K [talD CT m] (.tup (ansL m)))
  total : ∀ m : Tm, m.length ≤ 1000 → Prp P w K mg base k CT "total" (spV K [talD CT m] (.int ((m.map (·.1)).map (numAt m)).sum))
theorem t_law_shows (B : Bi mg) (O : Ow P K mg CT CC CI CO) (T : Tal P w K mg base k CT CC CI CO) (F : FunOf K d__law_shows f fd) (m : Tm) (h : Ct long L N m) (hl : long ≤ 4) (hL : L ≤ 100) (hN : 0 < N) (hN2 : N ≤ 10 ^ 290) : FnOk P w K mg base (L2.CX P w) (k + 2) f fd ["tally", "due"] (spV K [talD CT (tallyOf m), dicN m] (.bl true)) :=
  fn_d (N := ["tally", "due", "heads", "answer"]) F (C8.fnScope_by rfl) (fun as e => by subst e; rfl) fun c as cdv A outer s E hr e hz => by
    subst e
    have hm : m.length ≤ 1000 := by have := h.len; omega
    have hN3 : N ≤ 10 ^ 300 := Int.le_trans hN2 (by decide +kernel)
    let hs : List D := (sortA (posA m)).map ansT
    have keys : m.map (fun p => kD (kI p.1)) = (m.map (·.1)).map ansT := by
      rw [List.map_map]
      exact List.map_congr_left fun p _ => kD_kI p.1
    refine dss_to (ds' := [.val (talD CT (tallyOf m)), .val (dicN m), .val (.lst hs), .no]) (ds_set (i := 2) (of_decide_eq_true rfl) rfl (.inl rfl) (P := (· = .lst hs)) ?_ fun d e => by subst e; rfl) ?_
    · refine dv_callB rfl B.sorted rfl (dl_cons (a := .lst ((posA m).map ansT)) (de_lock (i := 1) rfl fun c' _ => dv_filterA (i := 3) (as := m.map (·.1)) (kf := ansT) (t := fun a => decide (0 < numAt m a)) (r := ansT) ansT_inj rfl (of_decide_eq_true rfl) rfl (DI.imp (di_K 1) fun es e => ?_) rfl rfl (fun a ha s H C cl fp => ?_) (fun a ha ht s H C cl fp => dv_v 3) ?_) da_nil) (c_sortA (rm hr 64) ?_)
      · rw [e, List.map_map]
        exact keys
      · refine db_cmp (dv_dget (rm hr 1) (dv_L 1) (DV.cast (dv_v 3) (kD_kI a).symm) (d := .int (numAt m a)) ?_) de_int (o_gt.imp fun d e => e) rfl
        rw [look_dicN, look_mem ha]
        rfl
      · rw [sizeLine_eq, List.length_map]
        omega
      · rcases (h.tw (by omega)).one with z | z
        · exact .inl (Nat.le_trans (posA_len m) z)
        · exact .inr z
    have isT : isO CT (talD CT (tallyOf m)) = true := decide_eq_true rfl
    have kt : kc [CT, CC] (talD CT (tallyOf m)) = true := decide_eq_true (by simp)
    refine dss_guard (b := false) (DB.cast (db_w (dw_or (x := false) (y := false) (DB.cast (db_not (db_val (dv_isO rfl B.isinstance rfl O.Tally (dv_v 0) O.kl (by simp) kt))) (by rw [isT]; rfl)) fun _ => dw_or1 ?_)) rfl) (fun z => by cases z) fun _ => ?_
    · refine db_cmp (dv_prop (T.listed (tallyOf m)) (hr : Room (k + 1) _) (Nat.le_refl _) (dv_v 0) rfl (fun d e => e)) (dv_callTy rfl B.tuple rfl (dl_cons (dv_v 2) da_nil) c_tupL) ?_ rfl
      rw [ansL_tally]
      refine (o_neD (rm hr 64) (py_tup (kf := ansT) (pf := pyA) fun a _ => py_ansT a) (py_tup (kf := ansT) (pf := pyA) fun a _ => py_ansT a) ((shN_tup (n := 2) fun x hx => ?_).shaped (by decide)) ((shN_tup (n := 2) fun x hx => ?_).shaped (by decide))).imp fun d e => ?_
      · obtain ⟨a, _, rfl⟩ := List.mem_map.mp hx
        exact shN_A a
      · obtain ⟨a, _, rfl⟩ := List.mem_map.mp hx
        exact shN_A a
      · rw [e]
        unfold PyData.eqv
        rw [eqv_AL]
        simp
    have getK : ∀ a, a ∈ m.map (·.1) → valAt (tallyOf m) (ansT a) = numAt m a := fun a ha => by
      rw [valAt_at _ (h.ans hl a ha), numAt_tallyN h.nn]
    refine dss_guard (b := false) (db_cmp (a := .lst (((m.map (·.1)).filter fun _ => false).map fun _ => .int 1)) (de_lock (i := 1) rfl fun c' _ => dv_filterA (i := 3) (as := m.map (·.1)) (kf := ansT) (t := fun _ => false) (r := fun _ => .int 1) ansT_inj rfl (of_decide_eq_true rfl) rfl (DI.imp (di_K 1) fun es e => ?_) rfl rfl (fun a ha s H C cl fp => ?_) (fun a ha ht s H C cl fp => de_int) ?_) (dv_lst da_nil (by decide)) ((o_neN (rm hr 0)).imp fun d e => ?_) rfl) (fun z => by cases z) fun _ => ?_
    · rw [e, List.map_map]
      exact keys
    · have sm := log2_lt (h.small hN hN3 a)
      refine db_cmp (dv_callB (P := (· = .str (toString (numAt m a)))) rfl B.repr rfl (dl_cons (a := .int (numAt m a)) (DE.imp (de_ixOwn (E := EF) (T.get (tallyOf m) (ansT a) (knT_ans (h.ans hl a ha))) T.gi (hr : Room (k + 1) _) passF (dv_v 0) (dv_v 3) rfl (fun d e => e) fun _ _ z => z.elim) fun d e => e.trans (congrArg D.int (getK a ha))) da_nil) (c_reprI sm)) (dv_callB (P := (· = .str (toString (numAt m a)))) rfl B.repr rfl (dl_cons (a := .int (numAt m a)) (dv_dget (rm hr 1) (dv_L 1) (DV.cast (dv_v 3) (kD_kI a).symm) ?_) da_nil) (c_reprI sm)) (o_neS.imp fun d e => by rw [e]; simp) rfl
      rw [look_dicN, look_mem ha]
      rfl
    · rw [sizeLine_eq, List.length_map]
      omega
    · rw [e]
      simp
    let S : Int := ((m.map (·.1)).map (numAt m)).sum
    have hS := sum_lt (f := numAt m) hN (as := m.map (·.1)) fun a _ => ⟨h.num0 a, h.numN hN a⟩
    have sS : S.natAbs.log2 < 1920 := by
      refine log2_lt (log_small hS.1 ?_)
      have h1 : (m.map (·.1)).length ≤ 100 := by rw [List.length_map]; exact Nat.le_trans h.len hL
      have h2 : (((m.map (·.1)).length : Nat) : Int) * N ≤ 100 * N := Int.mul_le_mul_of_nonneg_right (by omega) (by omega)
      have h3 : (10 : Int) ^ 290 * 100 < 10 ^ 300 := by decide +kernel
      have h4 : S ≤ 100 * N := Int.le_trans hS.2 h2
      omega
    refine ds_retV (d := .bl true) (DV.cast (dv_and (x := true) (y := true) (dv_cmp (a := .str (toString S)) (b := .str (toString S)) (dv_callB rfl B.repr rfl (dl_cons (a := .int S) (DE.imp (dv_prop (T.total (tallyOf m) ?_) (hr : Room (k + 1) _) (Nat.le_refl _) (dv_v 0) rfl (fun d e => e)) fun d e => e.trans (congrArg D.int h.total)) da_nil) (c_reprI sS)) (dv_callB rfl B.repr rfl (dl_cons (a := .int S) (dv_callB rfl B.sum rfl (dl_cons (DV.cast (de_lock (i := 1) rfl fun c' _ => dv_mapA (i := 3) (as := m.map (·.1)) (kf := ansT) ansT_inj (r := fun a => .int (numAt m a)) rfl (of_decide_eq_true rfl) rfl (DI.imp (di_K 1) fun es e => ?_) rfl rfl (fun a ha s H C cl fp => ?_) ?_) ?_) da_nil) (c_sum rfl)) da_nil) (c_reprI sS)) (o_eqS.imp fun d e => by rw [e]; simp) rfl) fun _ => dv_one ?_) rfl) rfl
    · exact Nat.le_trans h.tally.len (by omega)
    · rw [e, List.map_map]
      exact keys
    · refine dv_dget (rm hr 1) (dv_L 1) (DV.cast (dv_v 3) (kD_kI a).symm) ?_
      rw [look_dicN, look_mem ha]
      rfl
    · rw [sizeLine_eq, List.length_map]
      omega
    · show _ = D.lst (D.ints ((m.map (·.1)).map (numAt m)))
      unfold D.ints
      rw [List.map_map (f := numAt m) (g := D.int)]
      rfl
    · have hsz := h.tally.len
      refine dv_cmp (a := .int (tallyOf m).length) (b := .int (tallyOf m).length) (dv_callB rfl B.len rfl (dl_cons (dv_v 0) da_nil) (c_lenOwn (E := EF) (T.len (tallyOf m)) (hr : Room (k + 1) _) passF ⟨by omega, by omega⟩ rfl (fun d e => e) fun _ _ z => z.elim)) (dv_callB rfl B.len rfl (dl_cons (dv_prop (T.listed (tallyOf m)) (hr : Room (k + 1) _) (Nat.le_refl _) (dv_v 0) rfl (fun d e => e)) da_nil) (c_lenT.imp fun d e => by rw [e]; unfold ansL; rw [List.length_map])) (o_eqI.imp fun d e => by rw [e]; simp) rfl
end
end K31

set_option Elab.async false
set_option linter.all false
set_option maxRecDepth 100000
set_option maxHeartbeats 4000000
namespace K31
open PySem PyProof.Rows L2 Dt
/-- the errors' classes -/
structure Exq (K : PySem.W.Frag) (mg : Str → Option Value) (CG CI CO : Addr) : Prop where
  gone : mg "GoneError" = some (.ref CG)
  exI : L2.ExcC K CI
  exO : L2.ExcC K CO
  mI : PySem.W.exmOne K (.ref CI) (.ref CI) = some true
  mO : PySem.W.exmOne K (.ref CO) (.ref CO) = some true
  i1 : PySem.W.kitOne K (.ref CI) (.ref CG) = some true
  i2 : PySem.W.kitOne K (.ref CI) (.type "ValueError") = some true
  i3 : PySem.W.kitOne K (.ref CI) (.ref CO) = some false
  o1 : PySem.W.kitOne K (.ref CO) (.ref CG) = some true
  o2 : PySem.W.kitOne K (.ref CO) (.type "ValueError") = some true
  o3 : PySem.W.kitOne K (.ref CO) (.ref CI) = some false
section
variable {P : Program} {w : World} {K : PySem.W.Frag} {mg : Str → Option Value} {base : Heap} {k : Nat} {f : Addr} {fd : FuncData} {CT CC CI CO CG : Addr} {long L : Nat} {N : Int}
theorem t_law_refused (B : Bi mg) (O : Ow P K mg CT CC CI CO) (X : Exq K mg CG CI CO) (M : Mk2 P w K mg base k CT CC CI) (F : FunOf K d__law_refused f fd) (d : D) (kn : KnC CT CC d) (hd : cntOk CC d = false) : FnOk P w K mg base (L2.CX P w) (k + 2) f fd ["value"] (spV K [d] (.bl true)) :=
  fn_d (N := ["value", "e"]) F (C8.fnScope_by rfl) (fun as e => by subst e; rfl) fun c as cdv A outer s E hr e hz => by
    subst e
    have MT := M.T d [] kn (fun z => by rw [hd] at z; cases z)
    refine dss_last (ds_tryAs (i := 1) (C := CI) (S := (· = .ref CI)) rfl rfl (of_decide_eq_true rfl) rfl rfl ⟨rfl, rfl, .inl O.InvalidTally⟩ (fun cls z => by subst z; exact X.mI) (fun W pn xe tk pw hw => ?_) fun a oe cls pn hS hz hf => ?_)
    · refine dss_one (ds_expr (de_tally (E := fun cls d H' => cls = .ref CI ∧ d = none ∧ Le c.z c.H0 H') MT (hr : Room (k + 1) _) (Nat.le_refl _) rfl (passes_call tk fun cls d σ H z => by obtain ⟨z1, rfl, z3⟩ := z; exact hw cls σ H z1 z3) (dv_v 0) fun H' _ l => ⟨rfl, rfl, l⟩) fun r z => ?_)
      rw [hd] at z
      cases z.1
    · have hS : cls = .ref CI := hS
      subst hS
      refine ds_retV (d := .bl true) (DV.cast (dv_and (x := true) (y := true) (dv_callB rfl B.isinstance rfl (dl_cons (dv_v 1) (dl_cons (de_gref rfl X.gone) da_nil)) (c_isE X.exI hz hf rfl X.i1)) fun _ => dv_and (x := true) (y := true) (dv_callB rfl B.isinstance rfl (dl_cons (dv_v 1) (dl_cons (de_bty rfl B.ValueError rfl) da_nil)) (c_isE X.exI hz hf rfl X.i2)) fun _ => dv_one (dv_not (x := false) (dv_callB rfl B.isinstance rfl (dl_cons (dv_v 1) (dl_cons (de_gref rfl O.InvalidOperation) da_nil)) (c_isE X.exI hz hf rfl X.i3)))) rfl) rfl
/-! _law_refused_too, as what it makes of its lambda -/
abbrev TTk (CO : Addr) : (XK → Hp → VK → Prop) → Hp → VK → Prop := TTb (· = .ref CO) (.bl true) (.bl false)
theorem lamF_refused {X0 : Cx} (B : Bi X0.mg) (O : Ow X0.prog X0.K X0.mg CT CC CI CO) (X : Exq X0.K X0.mg CG CI CO) (F : FunOf X0.K d__law_refused_too f fd) (hm : X0.mg "_law_refused_too" = some (.ref f)) : LamF X0 "_law_refused_too" "action" ["action", "e"] (TTk CO) := by
  have hb := F.bindsN (ps := ["action"]) fun _ _ _ _ _ _ us hl => match us, hl with | [_], _ => rfl
  obtain ⟨oc, od, dV, kV, doc, pm, an, cdv, ct, osl, e, lk, hcd, hD, hK⟩ := id F.ex
  subst e
  refine ⟨f, _, _, _, dV, kV, doc, pm, cdv, ct, oc, an, od, osl, hm, F.kp, lk, hcd, hb, C8.fnScope_by rfl, rfl, .inl rfl, ?_⟩
  intro fL c' s H Q tl act hc h
  refine ⟨_, pss_cons (ps_try_as (X := (cxOf C8.CX0 X0.prog X0.w X0.K X0.mg X0.base ["action", "e"] "_law_refused_too" (defScope s__law_refused_too) f cdv X0.A X0.stack s H C8.E0).nox) (c := .ref CO) (i := 1)
    (tb := fun W D σ H => ∃ Ech : XK, (∀ cls d σ' H', Ech cls d H' → W cls d σ' H') ∧ σ[0]? = some (some (.ref fL)) ∧ H c' = some (LamX.CodeO c' (LamX.lamN X0)) ∧ tl Ech H fun _ H' => D.nx σ H')
    (ts := fun a cls d D σ H => σ.length = 2 → (∃ σ0 : L2.St, σ = σ0.set 1 (some (.ref a))) ∧ cls = .ref CO ∧ d = none ∧ ∀ H2, Sub H H2 → D.rt (.bl true) H2)
    rfl rfl (of_decide_eq_true rfl) rfl rfl ⟨rfl, rfl, .inl O.InvalidOperation⟩ LamX.takes0 (fun W pn xe tk pw => ?_) (fun a oe cls d pn hz hf => ?_)) (pss_one (ps_ret pe_bl)), ?_⟩
  · refine ⟨fun pins s' σ H' D I h' => ?_⟩
    obtain ⟨Ech, hW, h1, h2, h3⟩ := h'
    exact (pss_one (ps_expr (act W pn xe Ech _ _ tk hW))).run pins s' σ H' D I ⟨h1, h2, h3⟩
  · refine ⟨fun pins s' σ H' D I h' => ?_⟩
    obtain ⟨⟨σ0, e0⟩, z1, z2, z3⟩ := h' I.len
    subst e0 z1 z2
    have hl : σ0.length = 2 := by
      have := I.len
      rw [List.length_set] at this
      exact this
    let c0 : Fx := ⟨⟨[], []⟩, [], H', fun a m => no_mem m, fun a m => (by cases m), zok0⟩
    refine PSs.run (t := tDS X0.K c0 (dsE 2 1 a) ⟨fun _ => False, (· = .bl true), fun _ => False, fun _ => False⟩) ?_ pins s' _ H' D I ⟨[], fun _ => 0, (env_none (c := c0) .rfl' hl).set 1 .adr, (fun _ _ _ _ _ z => z.elim), fun v d H2 pd l i => ?_, (fun _ _ _ _ _ z => z.elim), fun _ _ _ _ _ z => z.elim⟩
    · show DSs _ c0 (dsE 2 1 a) _ ⟨fun _ => False, (· = .bl true), fun _ => False, fun _ => False⟩
      exact ds_retV (d := .bl true) (DV.cast (dv_and (x := true) (y := true) (dv_callB rfl B.isinstance rfl (dl_cons (dv_v 1) (dl_cons (de_gref rfl X.gone) da_nil)) (c_isE X.exO hz hf rfl X.o1)) fun _ => dv_and (x := true) (y := true) (dv_callB rfl B.isinstance rfl (dl_cons (dv_v 1) (dl_cons (de_bty rfl B.ValueError rfl) da_nil)) (c_isE X.exO hz hf rfl X.o2)) fun _ => dv_one (dv_not (x := false) (dv_callB rfl B.isinstance rfl (dl_cons (dv_v 1) (dl_cons (de_gref rfl O.InvalidTally) da_nil)) (c_isE X.exO hz hf rfl X.o3)))) rfl) rfl
    have pd : d = .bl true := pd
    subst pd
    rw [i.bl_inv]
    exact z3 H2 fun b o e => l.keep b o (fun m => no_mem m) e
  · refine ⟨fun cls d H' => cls = .ref CO ∧ d = none ∧ ∀ H2, Sub H' H2 → Q (.bl true) H2, fun cls d σ' H' ⟨z1, z2, z3⟩ => ⟨true, by subst z1; exact X.mO, fun _ a na hl => ⟨⟨_, rfl⟩, z1, z2, z3⟩, fun z => by cases z⟩, rfl, hc, ?_⟩
    exact h
end
end K31

set_option Elab.async false
set_option linter.all false
set_option maxRecDepth 100000
set_option maxHeartbeats 4000000
namespace K31
open PySem PyProof.Rows L2 Dt
/-! ### how many lengths -/
theorem range_getD (ns : List Int) : (List.range ns.length).map (fun i => ns.getD i 0) = ns := by
  refine List.ext_getElem? fun i => ?_
  rw [List.getElem?_map]
  by_cases h : i < ns.length
  · rw [List.getElem?_range h, List.getElem?_eq_getElem h]
    simp [h]
  · rw [List.getElem?_eq_none (by simpa using h), List.getElem?_eq_none (by omega)]
    rfl
theorem fold_const (v : Int) : ∀ (l acc : List Int), (∀ x ∈ l, x = v) → (acc = [] ∨ acc = [v]) → (l.foldl step_dedup acc = [] ∨ l.foldl step_dedup acc = [v])
  | [], acc, _, h => h
  | x :: l, acc, hx, h => by
    rw [List.foldl_cons]
    refine fold_const v l _ (fun y m => hx y (List.mem_cons_of_mem _ m)) ?_
    have e := hx x List.mem_cons_self
    subst e
    rcases h with rfl | rfl
    · exact .inr rfl
    · right
      unfold step_dedup
      simp
theorem diffs_const {ns : List Int} {v : Int} (h : ∀ x ∈ ns, x = v) : diffs ns ≤ 1 := by
  unfold diffs firstMet
  rw [range_getD]
  rcases fold_const v ns [] h (.inl rfl) with e | e <;> rw [e] <;> simp
theorem fold_mem : ∀ (l acc : List Int) (x : Int), (x ∈ acc ∨ x ∈ l) → x ∈ l.foldl step_dedup acc
  | [], acc, x, h => h.elim id fun z => by cases z
  | y :: l, acc, x, h => by
    rw [List.foldl_cons]
    refine fold_mem l _ x ?_
    have up : ∀ z, z ∈ acc ∨ z = y → z ∈ step_dedup acc y := fun z hz => by
      unfold step_dedup
      split
      · rename_i q
        rcases hz with hz | rfl
        · exact hz
        · simpa using q
      · rcases hz with hz | rfl
        · exact List.mem_append_left _ hz
        · exact List.mem_append_right _ (List.mem_singleton.mpr rfl)
    rcases h with h | h
    · exact .inl (up x (.inl h))
    · rcases List.mem_cons.mp h with rfl | h
      · exact .inl (up _ (.inr rfl))
      · exact .inr h
theorem diffs_two {ns : List Int} {x y : Int} (hx : x ∈ ns) (hy : y ∈ ns) (h : x ≠ y) : 1 < diffs ns := by
  unfold diffs firstMet
  rw [range_getD]
  have h1 := fold_mem ns [] x (.inr hx)
  have h2 := fold_mem ns [] y (.inr hy)
  match ns.foldl step_dedup [], h1, h2 with
  | [], h1, _ => cases h1
  | [z], h1, h2 => exact absurd ((List.mem_singleton.mp h1).trans (List.mem_singleton.mp h2).symm) h
  | _ :: _ :: _, _, _ => simp
section
variable {long L L' : Nat} {N N' : Int} {m m' : Tm}
theorem okAl_ct (h : Ct long L N m) (h' : Ct long L' N' m') : okAl (tallyOf m) (.tal (tallyOf m')) = true := by
  refine decide_eq_true (diffs_const (v := long) fun x hx => ?_)
  rcases List.mem_append.mp hx with hx | hx
  · obtain ⟨p, hp, rfl⟩ := List.mem_map.mp hx
    rw [h.tally.al p hp]
  · obtain ⟨p, hp, rfl⟩ := List.mem_map.mp hx
    rw [h'.tally.al p hp]
theorem Ct.sub (h : Ct long L N m) (h' : Ct long L' N' m') (h0 : 0 < N) (hge : ∀ a, numAt m' a ≤ numAt m a) : Ct long (L + L') N (combM m m' (-1)) := by
  have key : ∀ p ∈ combM m m' (-1), (p.1 ∈ m.map (·.1) ∨ p.1 ∈ m'.map (·.1)) ∧ p.2 = numAt m p.1 + (-1) * numAt m' p.1 := fun p hp => by
    unfold combM at hp
    obtain ⟨a, ha, rfl⟩ := List.mem_map.mp hp
    exact ⟨mem_combA.mp ha, rfl⟩
  refine ⟨by rw [keys_comb]; exact nd_comb m m', ?_, fun p hp => (key p hp).1.elim (fun z => (h.keyL z).1) fun z => (h'.keyL z).1, fun p hp => (key p hp).1.elim (fun z => (h.keyL z).2) fun z => (h'.keyL z).2, fun p hp => ?_, fun p hp => ?_⟩
  · unfold combM
    rw [List.length_map]
    have := len_comb m m'
    have := h.len
    have := h'.len
    omega
  · have := hge p.1
    rw [(key p hp).2]
    omega
  · have := h.numN h0 p.1
    have := h'.num0 p.1
    rw [(key p hp).2]
    omega
/-- sums of tallies' numbers -/
theorem comb_tally (h : Ct long L N m) (h' : Ct long L' N' m') (sg : Int) : tallyOf (combM (tallyOf m) (tallyOf m') sg) = tallyOf (combM m m' sg) :=
  tally_same (by rw [keys_comb]; exact nd_comb _ _) (by rw [keys_comb]; exact nd_comb _ _) fun a => by rw [numAt_comb, numAt_comb, numAt_tallyN h.nn, numAt_tallyN h'.nn]
theorem neg_tally (h : Ct long L N m) (h' : Ct long L' N' m') : negM (combM (tallyOf m) (tallyOf m') (-1)) = true ↔ ∃ a, numAt m a < numAt m' a := by
  unfold negM
  rw [keys_comb, List.any_eq_true]
  constructor
  · rintro ⟨a, ha, e⟩
    rw [decide_eq_true_eq, numAt_comb, numAt_tallyN h.nn, numAt_tallyN h'.nn] at e
    exact ⟨a, by omega⟩
  · rintro ⟨a, ha⟩
    refine ⟨a, ?_, ?_⟩
    · rw [mem_combA, keys_tally, keys_tally]
      right
      have := h.num0 a
      exact mem_sortA.mpr (mem_posA.mpr (by omega))
    · rw [decide_eq_true_eq, numAt_comb, numAt_tallyN h.nn, numAt_tallyN h'.nn]
      omega
theorem leM_iff (h : Ct long L N m) (h' : Ct long L' N' m') : leM (tallyOf m) (tallyOf m') = true ↔ ∀ a, numAt m a ≤ numAt m' a := by
  unfold leM
  rw [List.all_eq_true]
  constructor
  · intro z a
    by_cases p : 0 < numAt m a
    · have := z a (by rw [keys_tally]; exact mem_sortA.mpr (mem_posA.mpr p))
      rw [decide_eq_true_eq, numAt_tallyN h.nn, numAt_tallyN h'.nn] at this
      exact this
    · have := h'.num0 a
      omega
  · intro z a _
    rw [decide_eq_true_eq, numAt_tallyN h.nn, numAt_tallyN h'.nn]
    exact z a
theorem leW_iff (h' : Ct long L' N' m') : leW m m' = true ↔ ∀ a, numAt m a ≤ numAt m' a := by
  unfold leW
  rw [List.isEmpty_iff, List.filter_eq_nil_iff]
  constructor
  · intro z a
    by_cases p : a ∈ m.map (·.1)
    · have := z a p
      simpa using this
    · rw [numAt_out p]
      exact h'.num0 a
  · intro z a _
    have := z a
    simp
    omega
end
/-! ### == of tallies -/
theorem valV_int (a : Ans) : ∀ m : Tm, valV ((m.map fun p => kI p.1).zip ((m.map (·.2)).map V.int)) (kI a) = (m.lookup a).map V.int
  | [] => rfl
  | (b, n) :: m => by
    have ih := valV_int a m
    unfold valV at ih ⊢
    rw [List.map_cons, List.map_cons, List.map_cons, List.zip_cons_cons, List.find?_cons, List.lookup_cons]
    by_cases z : a = b
    · subst z
      simp
    · have e : (a == b) = false := by simpa using z
      rw [e]
      have e2 : decide (kI b = kI a) = false := decide_eq_false fun y => z (kI_inj _ _ y).symm
      simp only [e2]
      exact ih
theorem eqM_iff (m m' : Tm) : eqM m m' = true ↔ m.length = m'.length ∧ ∀ p ∈ m, m'.lookup p.1 = some p.2 := by
  unfold eqM sameT
  rw [Bool.and_eq_true, beq_iff_eq, List.length_zip, List.length_zip, List.length_map, List.length_map, List.length_map, List.length_map, List.length_map, List.length_map, Nat.min_self, Nat.min_self]
  have e : (m.map fun p => kI p.1).zip ((m.map (·.2)).map V.int) = m.map fun p => (kI p.1, V.int p.2) := by
    rw [List.map_map, List.zip_map']
    rfl
  rw [e, List.all_map, List.all_eq_true]
  refine and_congr_right fun _ => forall_congr' fun p => forall_congr' fun hp => ?_
  show (match valV ((m'.map fun p => kI p.1).zip ((m'.map (·.2)).map V.int)) (kI p.1) with
    | some y => eqV (V.int p.2) y
    | none => false) = true ↔ _
  rw [valV_int]
  cases h : m'.lookup p.1 with
  | none => simp
  | some n =>
    show eqV (V.int p.2) (V.int n) = true ↔ _
    rw [show eqV (V.int p.2) (V.int n) = decide (p.2 = n) from rfl]
    simp
    exact eq_comm
theorem eqM_self {m : Tm} (h : (m.map (·.1)).Nodup) : eqM m m = true := (eqM_iff m m).mpr ⟨rfl, fun p hp => by
  rw [look_mem (List.mem_map.mpr ⟨p, hp, rfl⟩), numAt_mem h hp]⟩
end K31

set_option Elab.async false
set_option linter.all false
set_option maxRecDepth 100000
set_option maxHeartbeats 4000000
namespace K31
open PySem PyProof.Rows L2 Dt
def addR (CT : Addr) (m : Tm) (o : Oth) (sg : Int) : D := match o with
  | .tal m' => talD CT (tallyOf (combM m m' sg))
  | .no _ => .non
def leR (m : Tm) (o : Oth) : D := match o with
  | .tal m' => .bl (leM m m')
  | .no _ => .non
abbrev tys : List String := ["NoneType", "bool", "int", "str", "tuple", "list", "dict"]
/-- what is known of a tally's operators -/
structure Top (P : Program) (w : World) (K : PySem.W.Frag) (mg : Str → Option Value) (base : Heap) (k : Nat) (CT CC CI CO : Addr) : Prop where
  t : Tal P w K mg base k CT CC CI CO
  add : ∀ m o, m.length ≤ 1000 → o.good CT CC → (∀ m', o = .tal m' → okAl m o = true → m.length + m'.length ≤ 1000 ∧ (∀ a, CMulW 1 (numAt m' a)) ∧ Tw (combM m m' 1)) → Mtd P w K mg base k CT "__add__" (spO K [talD CT m, o.d CT] (okAl m o) (addR CT m o 1) CO)
  sub : ∀ m o, m.length ≤ 1000 → o.good CT CC → (∀ m', o = .tal m' → okAl m o = true → m.length + m'.length ≤ 1000 ∧ (∀ a, CMulW (-1) (numAt m' a)) ∧ (combA m m').length ≤ 1000 ∧ (negM (combM m m' (-1)) = false → Tw (combM m m' (-1)))) → Mtd P w K mg base k CT "__sub__" (spO K [talD CT m, o.d CT] (okSub m o) (addR CT m o (-1)) CO)
  mul : ∀ m d, kc [CT, CC] d = true → m.length ≤ 1000 → (m.map (·.1)).Nodup → (okMul d = true → (∀ a, CMulW (numAt m a) (facD d)) ∧ Tw (mulM m (facD d))) → Mtd P w K mg base k CT "__mul__" (spO K [talD CT m, d] (okMul d) (talD CT (tallyOf (mulM m (facD d)))) CO)
  rmul : ∀ m d, (d = .non ∨ (∃ z, d = .bl z) ∨ ∃ i, d = .int i) → m.length ≤ 1000 → (m.map (·.1)).Nodup → (okMul d = true → (∀ a, CMulW (numAt m a) (facD d)) ∧ Tw (mulM m (facD d))) → Mtd P w K mg base k CT "__rmul__" (spO K [talD CT m, d] (okMul d) (talD CT (tallyOf (mulM m (facD d)))) CO)
  within : ∀ m o, o.good CT CC → m.length ≤ 1000 → ansM m → Mtd P w K mg base k CT "within" (spO K [talD CT m, o.d CT] (okAl m o) (leR m o) CO)
  eq : ∀ m o, o.good CT CC → Mtd P w K mg base k CT "__eq__" (spV K [talD CT m, o.d CT] (.bl (okEq m o)))
  cont : ∀ m d, KnT [CT, CC] d → Mtd P w K mg base k CT "__contains__" (spV K [talD CT m, d] (.bl (inAt m d)))
  bool : ∀ m, Mtd P w K mg base k CT "__bool__" (spV K [talD CT m] (.bl (!m.isEmpty)))
  str : ∀ m, shM m → Mtd P w K mg base k CT "__str__" (spV K [talD CT m] (.str (strM m)))
  otA : ∀ n ∈ tys, otherTy K CT "add" n = true
  otS : ∀ n ∈ tys, otherTy K CT "sub" n = true
  otM : ∀ n ∈ tys, otherTy K CT "mul" n = true
  raN : PySem.W.findIn K (.ref CT) (dunderR "add") = some none
  rsN : PySem.W.findIn K (.ref CT) (dunderR "sub") = some none
  rmR : ∃ g : Addr, PySem.W.findIn K (.ref CT) (dunderR "mul") = some (some (.ref g))
  mul1 : ∃ f1 : Addr, PySem.W.findIn K (.ref CT) (PySem.dunder "mul") = some (some (.ref f1))
  s1 : PySem.W.mroIn K CT (.type "NoneType") = some false
  s2 : PySem.W.mroIn K CT (.type "bool") = some false
  s3 : PySem.W.mroIn K CT (.type "int") = some false
  nf : ∀ n ∈ tys, PySem.W.notFirst K CT (.type n) = true
  nfT : PySem.W.notFirst K CT (.ref CT) = true
  ne1 : PySem.W.findIn K (.ref CT) "__ne__" = some (some (.builtin "object.__ne__"))
  ob : PySem.W.mroIn K CT (.type "object") = some true
  cd : ∃ cd, PySem.W.clsIn K CT = some cd ∧ cd.mro = [.ref CT, .type "object"]
  ip1 : PySem.W.findIn K (.ref CT) (dunderI "add") = some none
  ip2 : PySem.W.findIn K (.type "object") (dunderI "add") = some none
section
variable {X : Cx} {c : Fx} {ds : List Sl} {k j : Nat} {CT CC CI CO : Addr} {long L L' : Nat} {N N' : Int} {m m' : Tm} {E : XK} {e ea : Expr} {pos : Pos}
theorem mul1_ok {i : Int} (h : i.natAbs < 2 ^ 1000) : CMulW 1 i := mulW_of (a := 1) (b := 1000) (by decide) h (by decide)
theorem mulN_ok {i : Int} (h : i.natAbs < 2 ^ 1000) : CMulW (-1) i := mulW_of (a := 1) (b := 1000) (by decide) h (by decide)
/-- bounds of what is reckoned with -/
structure Bd (long L : Nat) (N : Int) : Prop where
  l : long ≤ 4
  L : L ≤ 100
  p : 0 < N
  N : N ≤ 10 ^ 200
theorem Bd.n3 (b : Bd long L N) : N ≤ 10 ^ 300 := Int.le_trans b.N (by decide +kernel)
theorem o_addC (T : Top X.prog X.w X.K X.mg X.base k CT CC CI CO) (hr : Room k X.A) (h : Ct long L N m) (h' : Ct long L' N' m') (b : Bd long L N) (b' : Bd long L' N') : OpD X (binaryOp .Add) c (talD CT (tallyOf m)) (talD CT (tallyOf m')) (· = talD CT (tallyOf (combM m m' 1))) := by
  have t := h.tally
  have t' := h'.tally
  have l1 := t.len
  have l2 := t'.len
  have := b.L
  have := b'.L
  refine o_binSame (op := .Add) (E := EF) T.t.sf (T.add (tallyOf m) (.tal (tallyOf m')) (by omega) (by show _ ≤ 1000; omega) fun m2 e _ => ?_) hr passF rfl (fun d q => ?_) fun cls H' q _ => ?_
  · cases e
    exact ⟨by omega, fun a => mul1_ok (t'.small b'.p b'.n3 a), (t.add t' b.p b'.p).tw (by omega)⟩
  · exact q.2.trans (congrArg (talD CT) (comb_tally h h' 1))
  · have := okAl_ct h h'
    rw [this] at q
    cases q.1
theorem okSub_iff (h : Ct long L N m) (h' : Ct long L' N' m') : okSub (tallyOf m) (.tal (tallyOf m')) = true ↔ ∀ a, numAt m' a ≤ numAt m a := by
  show (okAl (tallyOf m) (.tal (tallyOf m')) && !(negM (combM (tallyOf m) (tallyOf m') (-1)))) = true ↔ _
  rw [okAl_ct h h', Bool.true_and, Bool.not_eq_true', ← Bool.not_eq_true, neg_tally h h', not_exists]
  exact forall_congr' fun a => Int.not_lt
theorem o_subX (T : Top X.prog X.w X.K X.mg X.base k CT CC CI CO) (hr : Room k X.A) (h : Ct long L N m) (h' : Ct long L' N' m') (b : Bd long L N) (b' : Bd long L' N') (hx : Passes (L2.CX X.prog X.w) X E) (hE : ∀ H', okSub (tallyOf m) (.tal (tallyOf m')) = false → Le c.z c.H0 H' → E (.ref CO) none H') :
    OpD X (binaryOp .Sub) c (talD CT (tallyOf m)) (talD CT (tallyOf m')) fun d => okSub (tallyOf m) (.tal (tallyOf m')) = true ∧ d = talD CT (tallyOf (combM m m' (-1))) := by
  have t := h.tally
  have t' := h'.tally
  have l1 := t.len
  have l2 := t'.len
  have := b.L
  have := b'.L
  refine o_binSame (op := .Sub) (E := E) T.t.sf (T.sub (tallyOf m) (.tal (tallyOf m')) (by omega) (by show _ ≤ 1000; omega) fun m2 e _ => ?_) hr hx rfl (fun d q => ⟨q.1, ?_⟩) fun cls H' q l => ?_
  · cases e
    refine ⟨by omega, fun a => mulN_ok (t'.small b'.p b'.n3 a), by have := len_comb (tallyOf m) (tallyOf m'); omega, fun hn => (t.sub t' b.p fun a => ?_).tw (by omega)⟩
    have n : ¬ ∃ a, numAt m a < numAt m' a := fun z => by
      rw [(neg_tally h h').mpr z] at hn
      cases hn
    rw [numAt_tallyN h.nn, numAt_tallyN h'.nn]
    exact Int.not_lt.mp fun z => n ⟨a, z⟩
  · exact q.2.trans (congrArg (talD CT) (comb_tally h h' (-1)))
  · obtain ⟨q1, rfl⟩ := q
    exact hE H' q1 l
theorem o_subC (T : Top X.prog X.w X.K X.mg X.base k CT CC CI CO) (hr : Room k X.A) (h : Ct long L N m) (h' : Ct long L' N' m') (b : Bd long L N) (b' : Bd long L' N') (hge : ∀ a, numAt m' a ≤ numAt m a) : OpD X (binaryOp .Sub) c (talD CT (tallyOf m)) (talD CT (tallyOf m')) (· = talD CT (tallyOf (combM m m' (-1)))) :=
  (o_subX (E := EF) T hr h h' b b' passF fun H' z _ => by rw [(okSub_iff h h').mpr hge] at z; cases z).imp fun d q => q.2
theorem fld_no (m : Str) (h : ("own_answers" == m || "own_numbers" == m) = false) (vs : List V) : ((["own_answers", "own_numbers"] : List Str).zip vs).lookup m = none := by
  have e1 : (m == ("own_answers" : Str)) = false := by
    rw [Bool.or_eq_false_iff] at h
    rw [beq_eq_false_iff_ne]
    exact fun z => (beq_eq_false_iff_ne.mp h.1) z.symm
  have e2 : (m == ("own_numbers" : Str)) = false := by
    rw [Bool.or_eq_false_iff] at h
    rw [beq_eq_false_iff_ne]
    exact fun z => (beq_eq_false_iff_ne.mp h.2) z.symm
  match vs with
  | [] => rfl
  | [v] => simp [List.lookup_cons, e1]
  | v :: u :: r => simp [List.lookup_cons, e1, e2]
theorem dv_withinC {apos : Pos} (T : Top X.prog X.w X.K X.mg X.base k CT CC CI CO) (hr : Room j X.A) (hk : k ≤ j) (h : Ct long L N m) (h' : Ct long L' N' m') (b : Bd long L N) (b' : Bd long L' N') {pl : Sem Bool} (ho : DV X c ds ea (talD CT (tallyOf m))) (ha : DV X c ds e (talD CT (tallyOf m')))
    (hst : starEach [e] X.env = (false, eval e X.env) :: starEach [] X.env := by rfl) (hpl : (backTo pos (starEach [] X.env)).any (·.1) = false := by rfl)
    (ht : eval (.Call (.Attribute ea "within" apos) [e] [] pos) X.env = (do
      let ov ← eval ea X.env
      standAt apos.atName
      let (f, first) ← holding [ov] (getMethod ov "within" pl)
      callWith pos f first (backTo pos (starEach [e] X.env)) (backToKw pos (keywordEach [] X.env))) := by rfl) : DV X c ds (.Call (.Attribute ea "within" apos) [e] [] pos) (.bl (leM (tallyOf m) (tallyOf m'))) := by
  have l1 := h.tally.len
  have l2 := h'.tally.len
  have := b.L
  have := b'.L
  refine de_meth (pl := pl) (E := EF) (T.within (tallyOf m) (.tal (tallyOf m')) (by show _ ≤ 1000; omega) (by omega) (h.tally.ans b.l)) hr hk passF ho (fld_no _ (by decide)) (dl_cons ha da_nil hst) (fun as z => by subst z; rfl) rfl (fun as d z q => q.2) (fun as cls H' z q _ => ?_) hst hpl ht
  rw [okAl_ct h h'] at q
  cases q.1
theorem o_eqC (T : Top X.prog X.w X.K X.mg X.base k CT CC CI CO) (O : Ow X.prog X.K X.mg CT CC CI CO) (hr : Room k X.A) (m m' : Tm) (hl : m'.length ≤ 1000) : OpD X (compareOp .Eq) c (talD CT m) (talD CT m') (· = .bl (eqM m m')) :=
  o_cmpOwn (E := EF) (L := [CT, CC]) O.kl (decide_eq_true (by simp)) rfl T.nfT (fun _ _ => rfl) (T.eq m (.tal m') hl) hr passF rfl (fun d q => q) fun cls H' q _ => q.elim
theorem o_neC (T : Top X.prog X.w X.K X.mg X.base k CT CC CI CO) (O : Ow X.prog X.K X.mg CT CC CI CO) (hr : Room (k + 1) X.A) (m m' : Tm) (hl : m'.length ≤ 1000) : OpD X (compareOp .NotEq) c (talD CT m) (talD CT m') (· = .bl (!(eqM m m'))) :=
  o_neOwn (E := EF) (L := [CT, CC]) O.kl (decide_eq_true (by simp)) rfl T.nfT T.ne1 T.ob (T.eq m (.tal m') hl) hr passF rfl (fun d q => q) fun cls H' q _ => q.elim
theorem o_mulC (T : Top X.prog X.w X.K X.mg X.base k CT CC CI CO) (O : Ow X.prog X.K X.mg CT CC CI CO) (hr : Room k X.A) (h : Ct long L N m) (b : Bd long L N) {n : Int} (n0 : 0 ≤ n) (n1 : n < 10 ^ 80) : OpD X (binaryOp .Mult) c (talD CT (tallyOf m)) (.int n) (· = talD CT (tallyOf (mulM m n))) := by
  have t := h.tally
  have l1 := t.len
  have := b.L
  have sn : n.natAbs < 2 ^ 1000 := log_small n0 (Int.lt_trans n1 (by decide +kernel))
  obtain ⟨g, hg⟩ := T.rmR
  refine o_binOther (op := .Mult) (E := EF) (L := [CT, CC]) O.kl rfl (n := "int") rfl (T.otM "int" (by simp)) T.t.sf hg (.inr ⟨g, rfl⟩) (T.mul (tallyOf m) (.int n) rfl (by omega) (nd_tally h.nd) fun _ => ⟨fun a => mulW_of (t.small b.p b.n3 a) sn (by decide), ?_⟩) hr passF rfl (fun d q => ?_) fun cls H' q _ => ?_
  · exact (t.mul (F := n + 1) n0 (by omega) (by omega)).tw (by omega)
  · refine q.2.trans (congrArg (talD CT) (tally_same (by rw [keys_mul]; exact nd_tally h.nd) (by rw [keys_mul]; exact h.nd) fun a => ?_))
    rw [numAt_mul, numAt_mul, numAt_tallyN h.nn]
    rfl
  · have e : okMul (.int n) = true := decide_eq_true n0
    rw [e] at q
    cases q.1
theorem o_rmulC (T : Top X.prog X.w X.K X.mg X.base k CT CC CI CO) (hr : Room k X.A) (h : Ct long L N m) (b : Bd long L N) {n : Int} (n0 : 0 ≤ n) (n1 : n < 10 ^ 80) : OpD X (binaryOp .Mult) c (.int n) (talD CT (tallyOf m)) (· = talD CT (tallyOf (mulM m n))) := by
  have t := h.tally
  have l1 := t.len
  have := b.L
  have sn : n.natAbs < 2 ^ 1000 := log_small n0 (Int.lt_trans n1 (by decide +kernel))
  obtain ⟨f1, h1⟩ := T.mul1
  refine o_mulBack (E := EF) (.inr (.inr ⟨n, rfl⟩)) T.t.sf h1 T.s1 T.s2 T.s3 (T.rmul (tallyOf m) (.int n) (.inr (.inr ⟨n, rfl⟩)) (by omega) (nd_tally h.nd) fun _ => ⟨fun a => mulW_of (t.small b.p b.n3 a) sn (by decide), ?_⟩) hr passF rfl (fun d q => ?_) fun cls H' q _ => ?_
  · exact (t.mul (F := n + 1) n0 (by omega) (by omega)).tw (by omega)
  · refine q.2.trans (congrArg (talD CT) (tally_same (by rw [keys_mul]; exact nd_tally h.nd) (by rw [keys_mul]; exact h.nd) fun a => ?_))
    rw [numAt_mul, numAt_mul, numAt_tallyN h.nn]
    rfl
  · have e : okMul (.int n) = true := decide_eq_true n0
    rw [e] at q
    cases q.1
theorem o_iaddC (T : Top X.prog X.w X.K X.mg X.base k CT CC CI CO) (hr : Room k X.A) (h : Ct long L N m) (h' : Ct long L' N' m') (b : Bd long L N) (b' : Bd long L' N') : OpD X (inplaceOp .Add) c (talD CT (tallyOf m)) (talD CT (tallyOf m')) (· = talD CT (tallyOf (combM m m' 1))) := by
  have t := h.tally
  have t' := h'.tally
  have l1 := t.len
  have l2 := t'.len
  have := b.L
  have := b'.L
  obtain ⟨cd, h1, h2⟩ := T.cd
  refine o_iopSame (op := .Add) (E := EF) rfl h1 h2 T.ip1 T.ip2 (T.add (tallyOf m) (.tal (tallyOf m')) (by omega) (by show _ ≤ 1000; omega) fun m2 e _ => ?_) hr passF rfl (fun d q => ?_) fun cls H' q _ => ?_
  · cases e
    exact ⟨by omega, fun a => mul1_ok (t'.small b'.p b'.n3 a), (t.add t' b.p b'.p).tw (by omega)⟩
  · exact q.2.trans (congrArg (talD CT) (comb_tally h h' 1))
  · have := okAl_ct h h'
    rw [this] at q
    cases q.1
end
end K31

set_option Elab.async false
set_option linter.all false
set_option maxRecDepth 100000
set_option maxHeartbeats 4000000
namespace K31
open PySem PyProof.Rows L2 Dt
abbrev atLess : Str × Option Str := ("_law_less_right", none)
abbrev atOthers : Str × Option Str := ("_law_others_right", none)
/-- the tables of the defs that make lambdas -/
def tabT (K : PySem.W.Frag) : List (Addr × Str) := [((He.cT K atLess).2, (("_law_less_right" : Str) ++ ".<locals>.") ++ "<lambda>"), ((He.cT K atOthers).2, (("_law_others_right" : Str) ++ ".<locals>.") ++ "<lambda>")]
structure Lt2 (K : PySem.W.Frag) (mg : Str → Option Value) (base : Heap) : Prop where
  ne : (He.cT K atLess).2 ≠ (He.cT K atOthers).2
  b1 : LamX.TabB base mg (He.cT K atLess).1 (He.cT K atLess).2
  b2 : LamX.TabB base mg (He.cT K atOthers).1 (He.cT K atOthers).2
section
variable {P : Program} {w : World} {K : PySem.W.Frag} {mg : Str → Option Value} {base : Heap} {k : Nat} {f f2 : Addr} {fd fd2 : FuncData} {CT CC CI CO CG : Addr} {long L L' : Nat} {N N' : Int} {m m' : Tm}
theorem lamM1 {X : Cx} (h : Lt2 X.K X.mg X.base) (hc : X.env.code = .ref (He.codeOf X.K atLess)) (hq : LamX.lamN X = (("_law_less_right" : Str) ++ ".<locals>.") ++ "<lambda>") : LamM X (tabT X.K) :=
  ⟨(He.cT X.K atLess).1, (He.cT X.K atLess).2, h.b1, hc, by rw [hq]; exact List.mem_cons_self, fun p hp e => by
    rcases List.mem_cons.mp hp with rfl | hp
    · exact hq.symm
    · rcases List.mem_cons.mp hp with rfl | hp
      · exact absurd e.symm h.ne
      · cases hp⟩
theorem lamM2 {X : Cx} (h : Lt2 X.K X.mg X.base) (hc : X.env.code = .ref (He.codeOf X.K atOthers)) (hq : LamX.lamN X = (("_law_others_right" : Str) ++ ".<locals>.") ++ "<lambda>") : LamM X (tabT X.K) :=
  ⟨(He.cT X.K atOthers).1, (He.cT X.K atOthers).2, h.b2, hc, by rw [hq]; exact List.mem_cons_of_mem _ List.mem_cons_self, fun p hp e => by
    rcases List.mem_cons.mp hp with rfl | hp
    · exact absurd e h.ne
    · rcases List.mem_cons.mp hp with rfl | hp
      · exact hq.symm
      · cases hp⟩
theorem Bd.le {long L L2 : Nat} {N N2 : Int} (b : Bd long L N) (h1 : L2 ≤ 100) (h2 : 0 < N2) (h3 : N2 ≤ 10 ^ 200) : Bd long L2 N2 := ⟨b.l, h1, h2, h3⟩
theorem t_law_less_right (B : Bi mg) (O : Ow P K mg CT CC CI CO) (X : Exq K mg CG CI CO) (LT : Lt2 K mg base) (T : Top P w K mg base k CT CC CI CO) (C1 : ∀ m m' sg, m.length + m'.length ≤ 1000 → (∀ a, CMulW sg (numAt m' a)) → Dt.Cl P w K mg base (k + 2) "_law_added" (spV K [dicN m, dicN m', .int sg] (dicN (combM m m' sg))) [])
    (C2 : ∀ (long L : Nat) (N : Int) (m : Tm), Ct long L N m → long ≤ 4 → L ≤ 100 → 0 < N → N ≤ 10 ^ 290 → Dt.Cl P w K mg base (k + 2) "_law_shows" (spV K [talD CT (tallyOf m), dicN m] (.bl true)) [])
    (F2 : FunOf K d__law_refused_too f2 fd2) (g2 : mg "_law_refused_too" = some (.ref f2)) (hat : f = He.fAd K atLess) (F : FunOf K d__law_less_right f fd) (h : Ct long L N m) (h' : Ct long L' N' m') (b : Bd long L N) (b' : Bd long L' N') (hL : L + L' + L' ≤ 100) (hN : N + N' ≤ 10 ^ 200) :
    FnOk P w K mg base (L2.CX P w) (k + 3) f fd ["one", "other", "first", "second"] (spT K (tabT K) false (· = [talD CT (tallyOf m), talD CT (tallyOf m'), dicN m, dicN m']) (fun _ r => r = .bl true) noX) :=
  fn_dL (N := ["one", "other", "first", "second", "due", "answer"]) hat F (C8.fnScope_by rfl) (fun as e => by subst e; rfl) fun c as cdv A outer s E hcd hr e hz hT => by
    subst e
    have hp := b.p
    have hp' := b'.p
    have l1 := h.len
    have l2 := h'.len
    have lc : (combM m m' (-1)).length ≤ 100 := by
      unfold combM
      rw [List.length_map]
      have := len_comb m m'
      omega
    have hLM := lamM1 (X := (cxOf (L2.CX P w) P w K mg base ["one", "other", "first", "second", "due", "answer"] d__law_less_right.qual d__law_less_right.scope f cdv A outer s c.H0 E).nox) LT hcd rfl
    have hLF := lamF_refused (X0 := (cxOf (L2.CX P w) P w K mg base ["one", "other", "first", "second", "due", "answer"] d__law_less_right.qual d__law_less_right.scope f cdv A outer s c.H0 E).nox) B O X F2 g2
    refine dss_to (ds' := [.val (talD CT (tallyOf m)), .val (talD CT (tallyOf m')), .val (dicN m), .val (dicN m'), .val (dicN (combM m m' (-1))), .no]) (ds_set (i := 4) (of_decide_eq_true rfl) rfl (.inr rfl) (P := (· = dicN (combM m m' (-1)))) ?_ fun d e => by subst e; rfl) ?_
    · exact dv_callV (C1 m m' (-1) (by omega) fun a => mulN_ok (h'.small b'.p b'.n3 a)) (hr : Room (k + 2) _) (Nat.le_refl _) rfl (dl_cons (dv_v 2) (dl_cons (dv_v 3) (dl_cons (dv_bin de_int de_int o_sub) da_nil)))
    refine dss_guard (b := !(((combM m m' (-1)).map (·.1)).filter fun a => decide (numAt (combM m m' (-1)) a < 0)).isEmpty) (db_cmp (a := .lst ((((combM m m' (-1)).map (·.1)).filter fun a => decide (numAt (combM m m' (-1)) a < 0)).map fun _ => .int 1)) (de_lock (i := 4) rfl fun c' _ => dv_filterA (i := 5) (as := (combM m m' (-1)).map (·.1)) (kf := ansT) (t := fun a => decide (numAt (combM m m' (-1)) a < 0)) (r := fun _ => .int 1) ansT_inj rfl (of_decide_eq_true rfl) rfl (DI.imp (di_K 4) fun es e => ?_) rfl rfl (fun a ha s H C cl fp => ?_) (fun a ha ht s H C cl fp => de_int) ?_) (dv_lst da_nil (by decide)) ((o_neN (rm hr 0)).imp fun d e => by rw [e, List.isEmpty_map]) rfl) (fun hb => ?_) fun hb => ?_
    · rw [e, List.map_map, List.map_map]
      exact List.map_congr_left fun p _ => kD_kI p.1
    · refine db_cmp (dv_dget (rm hr 1) (dv_L 4) (DV.cast (dv_v 5) (kD_kI a).symm) (d := .int (numAt (combM m m' (-1)) a)) ?_) de_int (o_lt.imp fun d e => e) rfl
      rw [look_dicN, look_mem ha]
      rfl
    · rw [sizeLine_eq, List.length_map]
      omega
    · -- refused
      have n : ¬ ∀ a, numAt m' a ≤ numAt m a := fun z => by
        have hne : (((combM m m' (-1)).map (·.1)).filter fun a => decide (numAt (combM m m' (-1)) a < 0)) = [] := List.filter_eq_nil_iff.mpr fun a _ => by
          rw [decide_eq_true_eq, numAt_comb]
          have := z a
          omega
        rw [hne] at hb
        cases hb
      have nb : okSub (tallyOf m) (.tal (tallyOf m')) = false := Bool.eq_false_iff.mpr fun z => n ((okSub_iff h h').mp z)
      have nw : leM (tallyOf m') (tallyOf m) = false := Bool.eq_false_iff.mpr fun z => n ((leM_iff h' h).mp z)
      refine ds_retV (d := .bl true) (DV.cast (dv_and (x := true) (y := true) (DV.cast (de_lam (b := okSub (tallyOf m) (.tal (tallyOf m'))) (S := (· = .ref CO)) (tv := .bl true) (fv := .bl false) (td := .bl true) (fd := .bl false) (T := tabT K) (fun _ => .bl) (fun _ => .bl) rfl hLF hLM hT (hr : Room (k + 2) _) (LamX.lamS_by rfl) rfl (fun _ _ _ _ _ => rfl) fun c2 A2 outer2 s2 H2 E2 fL c' hz2 hr2 hE => ?_) (by rw [nb]; rfl)) fun _ => dv_one (dv_not (x := false) (DV.cast (dv_withinC T (hr : Room (k + 2) _) (by omega) h' h b' b (dv_v 1) (dv_v 0)) (by rw [nw])))) rfl) rfl
      exact DE.imp (dv_bin (dv_v 0) (dv_v 1) (o_subX (E := E2) T hr2 h h' b b' (TkE.pass (L2.takes_of rfl rfl rfl rfl)) fun H' hb l => hE _ H' hb rfl l)) fun d q => q.1
    · have al : ∀ a, numAt m' a ≤ numAt m a := fun a => by
        have hne := List.filter_eq_nil_iff.mp (List.isEmpty_iff.mp (nf hb))
        by_cases z : a ∈ (combM m m' (-1)).map (·.1)
        · have := hne a z
          rw [decide_eq_true_eq, numAt_comb] at this
          omega
        · rw [keys_comb, mem_combA, not_or] at z
          rw [numAt_out z.1, numAt_out z.2]
          exact Int.le_refl 0
      have hs := h.sub h' b.p al
      have bs : Bd long (L + L') N := b.le (by omega) b.p b.N
      refine ds_retV (d := .bl true) (DV.cast (dv_and (x := true) (y := true) ?_ fun _ => dv_and (x := true) (y := true) ?_ fun _ => dv_one (dv_cmp (a := .bl true) (b := .bl true) (DV.cast (dv_withinC T (hr : Room (k + 2) _) (by omega) h' h b' b (dv_v 1) (dv_v 0)) (by rw [(leM_iff h' h).mpr al])) de_bl (o_isB.imp fun d e => by rw [e]; simp) rfl)) rfl) rfl
      · exact dv_callV (C2 _ _ _ (combM m m' (-1)) hs b.l bs.L b.p (Int.le_trans b.N (by decide +kernel))) (hr : Room (k + 2) _) (Nat.le_refl _) rfl (dl_cons (dv_bin (dv_v 0) (dv_v 1) (o_subC T (hr.mono (by omega)) h h' b b' al)) (dl_cons (dv_v 4) da_nil))
      · have e : tallyOf (combM (combM m m' (-1)) m' 1) = tallyOf m := tally_same (by rw [keys_comb]; exact nd_comb _ _) h.nd fun a => by
          rw [numAt_comb, numAt_comb]
          omega
        refine dv_callV (C2 _ _ _ m h b.l b.L b.p (Int.le_trans b.N (by decide +kernel))) (hr : Room (k + 2) _) (Nat.le_refl _) rfl (dl_cons (DE.imp (dv_bin (dv_bin (dv_v 0) (dv_v 1) (o_subC T (hr.mono (by omega)) h h' b b' al)) (dv_v 1) (o_addC T (hr.mono (by omega)) hs h' bs b')) fun d q => q.trans (by rw [e])) (dl_cons (dv_v 2) da_nil))
end
end K31

set_option Elab.async false
set_option linter.all false
set_option maxRecDepth 100000
set_option maxHeartbeats 4000000
namespace K31
open PySem PyProof.Rows L2 Dt
/-! a tally of a written dict -/
section
variable {CT CC : Addr} {long L : Nat} {N : Int} {m : Tm}
theorem knC_dic (h : Ct long L N m) (hl : long ≤ 4) (hL : L ≤ 1000) : KnC CT CC (dicN m) := by
  refine ⟨⟨rfl, fun ks e => (by cases e), fun ks es e => ?_⟩, fun e => (by cases e)⟩
  unfold dicN at e
  injection e with e1 e2
  subst e1 e2
  refine ⟨by rw [List.length_map]; exact Nat.le_trans h.len hL, by unfold D.ints; rw [List.length_map, List.length_map, List.length_map], ?_, fun k hk => ?_, fun x hx => ?_⟩
  · have z : ((m.map (·.1)).map kI).Nodup := h.nd.map kI fun a b z y => z (kI_inj _ _ y)
    rw [List.map_map] at z
    exact z
  · obtain ⟨p, hp, rfl⟩ := List.mem_map.mp hk
    unfold kI
    rw [List.length_map, h.al p hp]
    omega
  · unfold D.ints at hx
    rw [List.map_map] at hx
    obtain ⟨p, hp, rfl⟩ := List.mem_map.mp hx
    rfl
theorem cntOk_dic (h : Ct long L N m) (hl : long ≤ 4) (hN : N ≤ 10 ^ 40) : cntOk CC (dicN m) = true := by
  have e : fitD (dicN m) = true := by
    show ((m.map fun p => kI p.1).all (fun k => ansD (kD k)) && (D.ints (m.map (·.2))).all numOk && decide (diffs ((m.map fun p => kI p.1).map fun k => (k.length : Int)) ≤ 1)) = true
    rw [Bool.and_eq_true, Bool.and_eq_true, List.all_eq_true, List.all_eq_true, decide_eq_true_eq]
    refine ⟨⟨fun k hk => ?_, fun x hx => ?_⟩, diffs_const (v := long) fun x hx => ?_⟩
    · obtain ⟨p, hp, rfl⟩ := List.mem_map.mp hk
      rw [kD_kI]
      exact ansD_of (by rw [h.al p hp]; exact hl) (h.ai p hp)
    · unfold D.ints at hx
      rw [List.map_map] at hx
      obtain ⟨p, hp, rfl⟩ := List.mem_map.mp hx
      have h1 := h.nn p hp
      have h2 := h.nb p hp
      show (decide (0 ≤ p.2) && decide (p.2 < 10 ^ 40)) = true
      rw [decide_eq_true h1, decide_eq_true (Int.lt_of_lt_of_le h2 hN)]
      rfl
    · rw [List.map_map] at hx
      obtain ⟨p, hp, rfl⟩ := List.mem_map.mp hx
      show (((kI p.1).length : Nat) : Int) = _
      unfold kI
      rw [List.length_map, h.al p hp]
  unfold cntOk
  rw [e]
  simp
theorem ct_one {a : Ans} {n : Int} (h0 : 0 ≤ n) (hn : n < N) (ha : ∀ i ∈ a, okI i) : Ct a.length 1 N [(a, n)] :=
  ⟨by simp, by simp, fun p hp => by rw [List.mem_singleton.mp hp], fun p hp => by rw [List.mem_singleton.mp hp]; exact ha, fun p hp => by rw [List.mem_singleton.mp hp]; exact h0, fun p hp => by rw [List.mem_singleton.mp hp]; exact hn⟩
theorem ct_nil (hN : 0 < N) : Ct long 0 N [] := ⟨by simp, by simp, fun p hp => (by cases hp), fun p hp => (by cases hp), fun p hp => (by cases hp), fun p hp => (by cases hp)⟩
/-- Tally(d), d a good dict -/
theorem dv_tallyD {X : Cx} {c : Fx} {ds : List Sl} {ea : Expr} {pos p : Pos} {CI : Addr} {k j : Nat} (M : Mk2 X.prog X.w X.K X.mg X.base k CT CC CI) (h : Ct long L N m) (hl : long ≤ 4) (hL : L ≤ 1000) (hN : N ≤ 10 ^ 40) (hr : Room j X.A) (hk : k + 1 ≤ j) (hg : Gl X "Tally") (ha : DV X c ds ea (dicN m))
    (he : starEach [ea] X.env = (false, eval ea X.env) :: starEach [] X.env := by rfl) (hpl : (backTo pos (starEach [] X.env)).any (·.1) = false := by rfl) : DV X c ds (.Call (.Name "Tally" p) [ea] [] pos) (talD CT (tallyOf m)) :=
  dv_tally (M.T (dicN m) m (knC_dic h hl hL) fun _ => ⟨rfl, h.tw hL⟩) (cntOk_dic h hl hN) hr hk hg ha he hpl
end
/-! what is refused -/
section
variable {X : Cx} {c : Fx} {ds : List Sl} {k j : Nat} {CT CC CI CO : Addr} {long L : Nat} {N : Int} {m : Tm} {E : XK} {e ea : Expr} {pos : Pos}
/-- no tally that goes with m -/
structure Bad (CT CC : Addr) (m : Tm) (o : Oth) : Prop where
  good : o.good CT CC
  no : okAl m o = false
  cl : ∀ d, o = .no d → ∃ n ∈ tys, d.cl = some (.type n)
theorem o_addRef {o : Oth} (T : Top X.prog X.w X.K X.mg X.base k CT CC CI CO) (O : Ow X.prog X.K X.mg CT CC CI CO) (hr : Room k X.A) (hm : m.length ≤ 1000) (b : Bad CT CC m o) (hx : Passes (L2.CX X.prog X.w) X E) (hE : ∀ H', Le c.z c.H0 H' → E (.ref CO) none H') : OpD X (binaryOp .Add) c (talD CT m) (o.d CT) fun _ => False := by
  have M := T.add m o hm b.good fun m' _ z => by rw [b.no] at z; cases z
  cases o with
  | tal m' => exact o_binSame (op := .Add) (E := E) T.t.sf M hr hx rfl (fun d q => by have q := q.1; rw [b.no] at q; cases q) fun cls H' q l => by obtain ⟨_, rfl⟩ := q; exact hE H' l
  | no d =>
    obtain ⟨n, hn, hc⟩ := b.cl d rfl
    exact o_binOther (op := .Add) (E := E) O.kl b.good.1 hc (T.otA n hn) T.t.sf T.raN (.inl rfl) M hr hx rfl (fun d q => by have q := q.1; rw [b.no] at q; cases q) fun cls H' q l => by obtain ⟨_, rfl⟩ := q; exact hE H' l
theorem o_subRef {o : Oth} (T : Top X.prog X.w X.K X.mg X.base k CT CC CI CO) (O : Ow X.prog X.K X.mg CT CC CI CO) (hr : Room k X.A) (hm : m.length ≤ 1000) (b : Bad CT CC m o) (hx : Passes (L2.CX X.prog X.w) X E) (hE : ∀ H', Le c.z c.H0 H' → E (.ref CO) none H') : OpD X (binaryOp .Sub) c (talD CT m) (o.d CT) fun _ => False := by
  have M := T.sub m o hm b.good fun m' _ z => by rw [b.no] at z; cases z
  have ns : okSub m o = false := by
    cases o with
    | tal m' =>
      show (okAl m (.tal m') && _) = false
      rw [b.no]
      rfl
    | no d => rfl
  cases o with
  | tal m' => exact o_binSame (op := .Sub) (E := E) T.t.sf M hr hx rfl (fun d q => by have q := q.1; rw [ns] at q; cases q) fun cls H' q l => by obtain ⟨_, rfl⟩ := q; exact hE H' l
  | no d =>
    obtain ⟨n, hn, hc⟩ := b.cl d rfl
    exact o_binOther (op := .Sub) (E := E) O.kl b.good.1 hc (T.otS n hn) T.t.sf T.rsN (.inl rfl) M hr hx rfl (fun d q => by have q := q.1; rw [ns] at q; cases q) fun cls H' q l => by obtain ⟨_, rfl⟩ := q; exact hE H' l
theorem de_withinRef {o : Oth} {apos : Pos} {pl : Sem Bool} (T : Top X.prog X.w X.K X.mg X.base k CT CC CI CO) (hr : Room j X.A) (hk : k ≤ j) (hm : m.length ≤ 1000) (ha : ansM m) (b : Bad CT CC m o) (hx : Passes (L2.CX X.prog X.w) X E) (hE : ∀ H', Le c.z c.H0 H' → E (.ref CO) none H') (ho : DV X c ds ea (talD CT m)) (he : DV X c ds e (o.d CT))
    (hst : starEach [e] X.env = (false, eval e X.env) :: starEach [] X.env := by rfl) (hpl : (backTo pos (starEach [] X.env)).any (·.1) = false := by rfl)
    (ht : eval (.Call (.Attribute ea "within" apos) [e] [] pos) X.env = (do
      let ov ← eval ea X.env
      standAt apos.atName
      let (f, first) ← holding [ov] (getMethod ov "within" pl)
      callWith pos f first (backTo pos (starEach [e] X.env)) (backToKw pos (keywordEach [] X.env))) := by rfl) : DE X c ds (.Call (.Attribute ea "within" apos) [e] [] pos) fun _ => False :=
  de_meth (pl := pl) (E := E) (T.within m o b.good hm ha) hr hk hx ho (fld_no _ (by decide)) (dl_cons he da_nil hst) (fun as z => by subst z; rfl) rfl (fun as d z q => by have q := q.1; rw [b.no] at q; cases q) (fun as cls H' z q l => by obtain ⟨_, rfl⟩ := q; exact hE H' l) hst hpl ht
/-- no factor -/
theorem o_mulRef {d : D} {n : String} (T : Top X.prog X.w X.K X.mg X.base k CT CC CI CO) (O : Ow X.prog X.K X.mg CT CC CI CO) (hr : Room k X.A) (hm : m.length ≤ 1000) (hn : (m.map (·.1)).Nodup) (hk : kc [CT, CC] d = true) (hc : d.cl = some (.type n)) (ht : n ∈ tys) (no : okMul d = false) (hx : Passes (L2.CX X.prog X.w) X E) (hE : ∀ H', Le c.z c.H0 H' → E (.ref CO) none H') : OpD X (binaryOp .Mult) c (talD CT m) d fun _ => False := by
  obtain ⟨g, hg⟩ := T.rmR
  exact o_binOther (op := .Mult) (E := E) O.kl hk hc (T.otM n ht) T.t.sf hg (.inr ⟨g, rfl⟩) (T.mul m d hk hm hn fun z => by rw [no] at z; cases z) hr hx rfl (fun d q => by have q := q.1; rw [no] at q; cases q) fun cls H' q l => by obtain ⟨_, rfl⟩ := q; exact hE H' l
theorem o_mulRefT {m' : Tm} (T : Top X.prog X.w X.K X.mg X.base k CT CC CI CO) (hr : Room k X.A) (hm : m.length ≤ 1000) (hn : (m.map (·.1)).Nodup) (hx : Passes (L2.CX X.prog X.w) X E) (hE : ∀ H', Le c.z c.H0 H' → E (.ref CO) none H') : OpD X (binaryOp .Mult) c (talD CT m) (talD CT m') fun _ => False :=
  o_binSame (op := .Mult) (E := E) T.t.sf (T.mul m (talD CT m') (decide_eq_true (by simp)) hm hn fun z => by cases z) hr hx rfl (fun d q => by cases q.1) fun cls H' q l => by obtain ⟨_, rfl⟩ := q; exact hE H' l
theorem o_rmulRef {d : D} (T : Top X.prog X.w X.K X.mg X.base k CT CC CI CO) (hr : Room k X.A) (hm : m.length ≤ 1000) (hn : (m.map (·.1)).Nodup) (hd : d = .non ∨ (∃ z, d = .bl z) ∨ ∃ i, d = .int i) (no : okMul d = false) (hx : Passes (L2.CX X.prog X.w) X E) (hE : ∀ H', Le c.z c.H0 H' → E (.ref CO) none H') : OpD X (binaryOp .Mult) c d (talD CT m) fun _ => False := by
  obtain ⟨f1, h1⟩ := T.mul1
  exact o_mulBack (E := E) hd T.t.sf h1 T.s1 T.s2 T.s3 (T.rmul m d hd hm hn fun z => by rw [no] at z; cases z) hr hx rfl (fun d q => by have q := q.1; rw [no] at q; cases q) fun cls H' q l => by obtain ⟨_, rfl⟩ := q; exact hE H' l
end
end K31

set_option Elab.async false
set_option linter.all false
set_option maxRecDepth 100000
set_option maxHeartbeats 8000000
namespace K31
open PySem PyProof.Rows L2 Dt
section
variable {P : Program} {w : World} {K : PySem.W.Frag} {mg : Str → Option Value} {base : Heap} {k : Nat} {f f2 : Addr} {fd fd2 : FuncData} {CT CC CI CO CG : Addr} {long L L0 : Nat} {N N0 : Int} {m m0 : Tm}
/-- answers of another length -/
def freshA (long : Nat) : Ans := List.replicate ((long + 1) % 5) 3
theorem freshD (long : Nat) : D.tup (List.replicate ((long + 1) % 5) [D.int 3]).flatten = ansT (freshA long) := by
  unfold ansT freshA
  rw [List.flatten_replicate_singleton, List.map_replicate]
theorem fresh_len (long : Nat) : (freshA long).length = (long + 1) % 5 := List.length_replicate
theorem fresh_ok (long : Nat) : ∀ i ∈ freshA long, okI i := fun i hi => by
  rw [List.eq_of_mem_replicate hi]
  unfold okI
  decide
theorem ct_fresh (long : Nat) {n N : Int} (h0 : 0 ≤ n) (hn : n < N) : Ct (freshA long).length 1 N [(freshA long, n)] := ct_one h0 hn (fresh_ok long)
theorem shN_bl {b : Bool} : ShN 1 (.bool b) := ⟨rfl, by unfold PyData.depth; decide⟩
theorem py_bls (bs : List Bool) : (D.lst (bs.map D.bl)).py = some (.list (bs.map PyData.bool)) := py_lst fun _ _ => rfl
theorem sh_bls (bs : List Bool) : SeqAt.shaped (.list (bs.map PyData.bool)) = true := (shN_lst (n := 1) fun x hx => by
  obtain ⟨b, _, rfl⟩ := List.mem_map.mp hx
  exact shN_bl).shaped (by decide)
theorem eqv_bls : ∀ as bs : List Bool, PyData.eqvAll (as.map PyData.bool) (bs.map PyData.bool) = decide (as = bs)
  | [], [] => by unfold PyData.eqvAll; rfl
  | [], _ :: _ => by rw [List.map_nil, List.map_cons]; unfold PyData.eqvAll; rfl
  | _ :: _, [] => by rw [List.map_nil, List.map_cons]; unfold PyData.eqvAll; rfl
  | a :: as, b :: bs => by
    rw [List.map_cons, List.map_cons, PySem.W.eqv_all_cons, eqv_bls as bs]
    unfold PyData.eqv
    by_cases h : a = b
    · subst h
      simp
    · simp [h]
theorem o_neBs {X : Cx} {c : Fx} (hu : X.A.units + 64 < cLine) (as bs : List Bool) : OpD X (compareOp .NotEq) c (.lst (as.map .bl)) (.lst (bs.map .bl)) (· = .bl (!decide (as = bs))) :=
  (o_neD hu (py_bls as) (py_bls bs) (sh_bls as) (sh_bls bs)).imp fun d e => by rw [e]; unfold PyData.eqv; rw [eqv_bls]
theorem o_eqBs {X : Cx} {c : Fx} (hu : X.A.units + 64 < cLine) (as bs : List Bool) : OpD X (compareOp .Eq) c (.lst (as.map .bl)) (.lst (bs.map .bl)) (· = .bl (decide (as = bs))) :=
  (o_eqD hu (py_bls as) (py_bls bs) (sh_bls as) (sh_bls bs)).imp fun d e => by rw [e]; unfold PyData.eqv; rw [eqv_bls]
theorem bad_no (m : Tm) {d : D} (h1 : kc [CT, CC] d = true) (h2 : isO CT d = false) (h3 : ∃ n ∈ tys, d.cl = some (.type n)) : Bad CT CC m (.no d) := ⟨⟨h1, h2⟩, rfl, fun d' e => by cases e; exact h3⟩
/-- the values that go with no tally -/
def farXs (m0 : Tm) : List D := [.non, .int 0, .int 1, .str "none", .tup [], .dic [] [], dicN m0, .lst (ansL m0), .bl true, .int (10 ^ 39)]
theorem far_bad (m m0 : Tm) : ∀ d ∈ farXs m0, Bad CT CC m (.no d) := fun d hd => by
  unfold farXs at hd
  simp only [List.mem_cons, List.not_mem_nil, or_false] at hd
  rcases hd with rfl | rfl | rfl | rfl | rfl | rfl | rfl | rfl | rfl | rfl
  · exact bad_no m rfl rfl ⟨"NoneType", by simp, rfl⟩
  · exact bad_no m rfl rfl ⟨"int", by simp, rfl⟩
  · exact bad_no m rfl rfl ⟨"int", by simp, rfl⟩
  · exact bad_no m rfl rfl ⟨"str", by simp, rfl⟩
  · exact bad_no m rfl rfl ⟨"tuple", by simp, rfl⟩
  · exact bad_no m rfl rfl ⟨"dict", by simp, rfl⟩
  · exact bad_no m rfl rfl ⟨"dict", by simp, rfl⟩
  · exact bad_no m rfl rfl ⟨"list", by simp, rfl⟩
  · exact bad_no m rfl rfl ⟨"bool", by simp, rfl⟩
  · exact bad_no m rfl rfl ⟨"int", by simp, rfl⟩
theorem tally_pos {a : Ans} {n : Int} (h : 0 < n) : tallyOf [(a, n)] = [(a, n)] := by
  have e : posA [(a, n)] = [a] := by
    unfold posA
    rw [List.map_singleton, List.filter_cons, List.filter_nil]
    have : numAt [(a, n)] a = n := by rw [numAt_cons, if_pos rfl]
    rw [this, decide_eq_true h]
    rfl
  unfold tallyOf
  rw [e, show sortA [a] = [a] from List.mergeSort_singleton a, List.map_singleton, numAt_cons, if_pos rfl]
/-- a tally of the fresh answer does not go with one of the other length, which has an answer -/
theorem bad_tal (h : Ct long L N m) (hl : long ≤ 4) (hne : (tallyOf m).isEmpty = false) {n : Int} (hn : 0 < n) : Bad CT CC (tallyOf m) (.tal (tallyOf [(freshA long, n)])) := by
  refine ⟨?_, ?_, fun d e => by cases e⟩
  · rw [tally_pos hn]
    show 1 ≤ 1000
    decide
  · rw [tally_pos hn]
    refine decide_eq_false ?_
    obtain ⟨p, hp⟩ := List.exists_mem_of_ne_nil (tallyOf m) (fun z => by rw [z] at hne; cases hne)
    have h1 : ((p.1.length : Nat) : Int) ∈ lens (tallyOf m) := List.mem_map.mpr ⟨p, hp, rfl⟩
    have e1 := h.tally.al p hp
    have := diffs_two (ns := lens (tallyOf m) ++ lens [(freshA long, n)]) (x := ((p.1.length : Nat) : Int)) (y := (((freshA long).length : Nat) : Int)) (List.mem_append_left _ h1) (List.mem_append_right _ (by simp [lens])) (by
      rw [e1, fresh_len]
      omega)
    omega
/-- the factors that are none -/
def facXs : List D := [.int (0 - 1), .int (0 - 10 ^ 20), .non, .bl true, .bl false]
theorem fac_bad : ∀ d ∈ facXs, (kc [CT, CC] d = true ∧ ∃ n ∈ tys, d.cl = some (.type n)) ∧ okMul d = false ∧ (d = .non ∨ (∃ z, d = .bl z) ∨ ∃ i, d = .int i) := fun d hd => by
  unfold facXs at hd
  simp only [List.mem_cons, List.not_mem_nil, or_false] at hd
  rcases hd with rfl | rfl | rfl | rfl | rfl
  · exact ⟨⟨rfl, "int", by simp, rfl⟩, by decide, .inr (.inr ⟨_, rfl⟩)⟩
  · exact ⟨⟨rfl, "int", by simp, rfl⟩, by decide, .inr (.inr ⟨_, rfl⟩)⟩
  · exact ⟨⟨rfl, "NoneType", by simp, rfl⟩, rfl, .inl rfl⟩
  · exact ⟨⟨rfl, "bool", by simp, rfl⟩, rfl, .inr (.inl ⟨_, rfl⟩)⟩
  · exact ⟨⟨rfl, "bool", by simp, rfl⟩, rfl, .inr (.inl ⟨_, rfl⟩)⟩
def oddXs (t : D) : List D := [.str "2", .tup [], .lst [], t, .dic [] [], .tup [.int 2], .int (0 - 3)]
theorem odd_bad (m' : Tm) : ∀ d ∈ oddXs (talD CT m'), d = talD CT m' ∨ ((kc [CT, CC] d = true ∧ ∃ n ∈ tys, d.cl = some (.type n)) ∧ okMul d = false) := fun d hd => by
  unfold oddXs at hd
  simp only [List.mem_cons, List.not_mem_nil, or_false] at hd
  rcases hd with rfl | rfl | rfl | rfl | rfl | rfl | rfl
  · exact .inr ⟨⟨rfl, "str", by simp, rfl⟩, rfl⟩
  · exact .inr ⟨⟨rfl, "tuple", by simp, rfl⟩, rfl⟩
  · exact .inr ⟨⟨rfl, "list", by simp, rfl⟩, rfl⟩
  · exact .inl rfl
  · exact .inr ⟨⟨rfl, "dict", by simp, rfl⟩, rfl⟩
  · exact .inr ⟨⟨rfl, "tuple", by simp, rfl⟩, rfl⟩
  · exact .inr ⟨⟨rfl, "int", by simp, rfl⟩, by decide⟩
theorem c_boolC {X : Cx} {c : Fx} (T : Top X.prog X.w X.K X.mg X.base k CT CC CI CO) (hr : Room (k + 2) X.A) (m : Tm) : CallD X (.type "bool") c [talD CT m] (· = .bl (!m.isEmpty)) := c_boolOwn (E := EF) (T.bool m) hr passF rfl (fun d q => q) fun cls H' q _ => q.elim
theorem t_law_others_right (B : Bi mg) (O : Ow P K mg CT CC CI CO) (X : Exq K mg CG CI CO) (LT : Lt2 K mg base) (T : Top P w K mg base k CT CC CI CO) (M : Mk2 P w K mg base (k + 1) CT CC CI) (C3 : Dt.Cl P w K mg base (k + 2) "_law_pick" (p_pickA K) [])
    (F2 : FunOf K d__law_refused_too f2 fd2) (g2 : mg "_law_refused_too" = some (.ref f2)) (hat : f = He.fAd K atOthers) (F : FunOf K d__law_others_right f fd) (h : Ct long L N m) (b : Bd long L N) (h0 : Ct long L0 N0 m0) (hl0 : L0 ≤ 1000) (hh : ((m0.map fun p => kI p.1).map (hT P w)).Nodup) :
    FnOk P w K mg base (L2.CX P w) (k + 3) f fd ["dice", "tally", "counts", "long"] (spT K (tabT K) true (fun as => ∃ a, as = [.adr a, talD CT (tallyOf m), dicN m0, .int (long : Int)]) (fun _ r => r = .bl true) noX) :=
  fn_dL (N := ["dice", "tally", "counts", "long", "fresh", "far", "value", "told", "factor", "odd", "none", "some"]) hat F (C8.fnScope_by rfl) (fun as ⟨a, e⟩ => by subst e; rfl) fun c as cdv A outer s E hcd hr ⟨a, e⟩ hz hT => by
    subst e
    have hc : c.Di a := hz a (List.mem_singleton.mpr rfl)
    have hl := b.l
    have lm := h.tally.len
    have bL := b.L
    have hLM := lamM2 (X := (cxOf (L2.CX P w) P w K mg base ["dice", "tally", "counts", "long", "fresh", "far", "value", "told", "factor", "odd", "none", "some"] d__law_others_right.qual d__law_others_right.scope f cdv A outer s c.H0 E).nox) LT hcd rfl
    have hLF := lamF_refused (X0 := (cxOf (L2.CX P w) P w K mg base ["dice", "tally", "counts", "long", "fresh", "far", "value", "told", "factor", "odd", "none", "some"] d__law_others_right.qual d__law_others_right.scope f cdv A outer s c.H0 E).nox) B O X F2 g2
    let t : Sl := .val (talD CT (tallyOf m))
    refine dss_to (ds' := [.val (.adr a), t, .val (dicN m0), .val (.int (long : Int)), .val (ansT (freshA long)), .no, .no, .no, .no, .no, .no, .no]) (ds_set (i := 4) (of_decide_eq_true rfl) rfl (.inl rfl) (P := (· = ansT (freshA long))) ?_ fun d e => by subst e; rfl) ?_
    · refine dv_bin (dv_tup (dl_cons de_int da_nil) (by simp)) (DV.cast (b := .int (((long + 1) % 5 : Nat) : Int)) (dv_bin (dv_bin (dv_v 3) de_int o_add) de_int (o_mod (by decide))) (congrArg D.int (by omega))) ((o_repT (n := (long + 1) % 5) (by simp) (by omega) (by simp)).imp fun d e => ?_)
      rw [e, freshD]
    refine dss_cons (N := fun ds => ∃ d1 ∈ farXs m0, ds = [.val (.adr a), t, .val (dicN m0), .val (.int (long : Int)), .val (ansT (freshA long)), .val (.lst [d1]), .no, .no, .no, .no, .no, .no]) (ds_set (i := 5) (of_decide_eq_true rfl) rfl (.inl rfl) (P := fun d => ∃ d1 ∈ farXs m0, d = .lst [d1]) ?_ fun d ⟨d1, h1, e⟩ => ⟨d1, h1, by subst e; rfl⟩) ?_
    · refine DE.imp (de_lst (da_cons (Pa := (· ∈ farXs m0)) ?_ da_nil) fun as z => ?_) fun d z => ?_
      · refine dv_callZ (as := [.lst (farXs m0)]) hc (pick_of C3 (farXs m0) (by simp [farXs]) (by simp [farXs])) (hr : Room (k + 2) _) (Nat.le_refl _) rfl (dl_cons (dv_v 0) (dl_cons (dv_lst (dl_cons de_non (dl_cons de_int (dl_cons de_int (dl_cons de_str (dl_cons (dv_tup da_nil (by decide)) (dl_cons dv_dnil (dl_cons (dv_callTy rfl B.dict rfl (dl_cons (dv_v 2) da_nil) (c_dictD (rm hr 2) hh)) (dl_cons (dv_callTy rfl B.list rfl (dl_cons (dv_v 2) da_nil) ((c_listD rfl).imp fun d e => ?_)) (dl_cons de_bl (dl_cons (dv_bin de_int de_int ((o_pow ⟨by decide, by decide, by decide⟩).imp fun d e => e.trans (congrArg D.int (by decide)))) da_nil)))))))))) (by simp [farXs])) da_nil)) ⟨a, rfl⟩ fun d z => z
        rw [e, List.map_map]
        exact congrArg D.lst (List.map_congr_left fun p _ => kD_kI p.1)
      · obtain ⟨_, _, rfl, _, rfl⟩ := z
        exact small_line (by simp)
      · obtain ⟨_, rfl, d1, _, rfl, h1, rfl⟩ := z
        exact ⟨d1, h1, rfl⟩
    rintro ds ⟨d1, hd1, rfl⟩
    let o1 : Oth := .no d1
    let os : List Oth := o1 :: (if (tallyOf m).isEmpty = true then [] else [.tal (tallyOf [(freshA long, 1)])])
    have hos : ∀ o ∈ os, Bad CT CC (tallyOf m) o := fun o ho => by
      rcases List.mem_cons.mp ho with rfl | ho
      · exact far_bad (tallyOf m) m0 d1 hd1
      · split at ho
        · cases ho
        · rename_i n
          rw [List.mem_singleton.mp ho]
          exact bad_tal h hl (Bool.eq_false_iff.mpr n) (by decide)
    have los : os.length ≤ 2 := by
      show (o1 :: _).length ≤ 2
      rw [List.length_cons]
      split <;> simp
    refine dss_to (ds' := [.val (.adr a), t, .val (dicN m0), .val (.int (long : Int)), .val (ansT (freshA long)), .val (.lst (os.map (Oth.d CT))), .no, .no, .no, .no, .no, .no]) (ds_set (i := 5) (of_decide_eq_true rfl) rfl (.inl rfl) (P := (· = .lst (os.map (Oth.d CT)))) ?_ fun d e => by subst e; rfl) ?_
    · refine de_bin (Pa := (· = .lst [d1])) (Pb := (· = .lst ((if (tallyOf m).isEmpty = true then [] else [Oth.tal (tallyOf [(freshA long, 1)])]).map (Oth.d CT)))) (dv_v 5) (de_ifExp (Pt := (· = !(tallyOf m).isEmpty)) (db_val (dv_callTy rfl B.bool rfl (dl_cons (dv_v 1) da_nil) (c_boolOwn (E := EF) (T.bool (tallyOf m)) (hr : Room (k + 2) _) passF rfl (fun d q => q) fun cls H' q _ => q.elim))) (fun hb => ?_) fun hb => ?_) fun x y e1 e2 => ?_
      · rw [if_neg (by rw [nt hb.symm]; simp)]
        exact dv_lst (dl_cons (DV.cast (dv_tallyD M (m := [(freshA long, 1)]) (ct_fresh long (N := 2) (by decide) (by decide)) (by rw [fresh_len]; omega) (by decide) (by decide) (hr : Room (k + 2) _) (Nat.le_refl _) rfl (dv_disp1 (rm hr 0) (DV.cast (dv_v 4) (kD_kI _).symm) de_int)) rfl) da_nil) (by simp)
      · rw [if_pos (nf hb.symm)]
        exact dv_lst da_nil (by simp)
      · subst e1 e2
        exact (o_cat (by rw [sizeLine_eq, List.length_map]; split <;> simp)).imp fun d e => e
    let far : Sl := .val (.lst (os.map (Oth.d CT)))
    refine dss_cons (N := fun ds => ∃ v l, ds = [.val (.adr a), t, .val (dicN m0), .val (.int (long : Int)), .val (ansT (freshA long)), far, v, l, .no, .no, .no, .no])
      (ds_forL (i := 6) (es := os.map (Oth.d CT)) (fun kk ds => ∃ v l, ds = [.val (.adr a), t, .val (dicN m0), .val (.int (long : Int)), .val (ansT (freshA long)), far, v, l, .no, .no, .no, .no]) PassesOwn.never rfl (of_decide_eq_true rfl) rfl (.inr rfl) (di_list (DV.to (dv_v 5) ⟨_, rfl, rfl⟩)) ⟨.no, .no, rfl⟩ ?_ fun ds z => z) ?_
    · rintro kk d ds hd ⟨v, l, rfl⟩
      rw [List.getElem?_map, Option.map_eq_some_iff] at hd
      obtain ⟨o, ho, rfl⟩ := hd
      have bo := hos o (List.mem_of_getElem? ho)
      refine dss_to (ds' := [.val (.adr a), t, .val (dicN m0), .val (.int (long : Int)), .val (ansT (freshA long)), far, .val (o.d CT), .lst [.bl true], .no, .no, .no, .no]) (ds_new (i := 7) (of_decide_eq_true rfl) rfl (.inl rfl) (P := (· = .lst [.bl true])) (dn_lst (dl_cons (DV.cast (de_lam (b := false) (S := (· = .ref CO)) (tv := .bl true) (fv := .bl false) (td := .bl true) (fd := .bl false) (T := tabT K) (fun _ => .bl) (fun _ => .bl) rfl hLF hLM hT (hr : Room (k + 2) _) (LamX.lamS_by rfl) rfl (fun _ _ _ _ _ => rfl) fun c2 A2 outer2 s2 H2 E2 fL c' hz2 hr2 hE => ?_) rfl) da_nil) (by simp)) fun s e => by subst e; rfl) ?_
      · exact DE.imp (dv_bin (dv_v 1) (dv_v 6) (o_addRef (E := E2) T O hr2 (by omega) bo (TkE.pass (L2.takes_of rfl rfl rfl rfl)) fun H' l => hE _ H' rfl rfl l)) fun d q => q.elim
      refine dss_to (ds' := [.val (.adr a), t, .val (dicN m0), .val (.int (long : Int)), .val (ansT (freshA long)), far, .val (o.d CT), .lst [.bl true, .bl true], .no, .no, .no, .no]) (ds_append (i := 7) (P := (· = .bl true)) rfl (.inl rfl) rfl (DV.cast (de_lam (b := false) (S := (· = .ref CO)) (tv := .bl true) (fv := .bl false) (td := .bl true) (fd := .bl false) (T := tabT K) (fun _ => .bl) (fun _ => .bl) rfl hLF hLM hT (hr : Room (k + 2) _) (LamX.lamS_by rfl) rfl (fun _ _ _ _ _ => rfl) fun c2 A2 outer2 s2 H2 E2 fL c' hz2 hr2 hE => ?_) rfl) (by rw [sizeLine_eq]; decide) fun d e => by subst e; rfl) ?_
      · exact DE.imp (dv_bin (dv_v 1) (dv_v 6) (o_subRef (E := E2) T O hr2 (by omega) bo (TkE.pass (L2.takes_of rfl rfl rfl rfl)) fun H' l => hE _ H' rfl rfl l)) fun d q => q.elim
      refine dss_to (ds' := [.val (.adr a), t, .val (dicN m0), .val (.int (long : Int)), .val (ansT (freshA long)), far, .val (o.d CT), .lst [.bl true, .bl true, .bl true], .no, .no, .no, .no]) (ds_append (i := 7) (P := (· = .bl true)) rfl (.inl rfl) rfl (DV.cast (de_lam (b := false) (S := (· = .ref CO)) (tv := .bl true) (fv := .bl false) (td := .bl true) (fd := .bl false) (T := tabT K) (fun _ => .bl) (fun _ => .bl) rfl hLF hLM hT (hr : Room (k + 2) _) (LamX.lamS_by rfl) rfl (fun _ _ _ _ _ => rfl) fun c2 A2 outer2 s2 H2 E2 fL c' hz2 hr2 hE => ?_) rfl) (by rw [sizeLine_eq]; decide) fun d e => by subst e; rfl) ?_
      · exact DE.imp (de_withinRef (E := E2) T hr2 (Nat.le_refl _) (by omega) (h.tally.ans hl) bo (TkE.pass (L2.takes_of rfl rfl rfl rfl)) (fun H' l => hE _ H' rfl rfl l) (dv_v 1) (dv_v 6)) fun d q => q.elim
      refine dss_guard (b := false) (dt_borrow (i := 7) rfl rfl (db_cmp (dv_v 7) (dv_bin (dv_lst (dl_cons de_bl da_nil) (by simp)) de_int (o_rep (by decide) (by decide) (by rw [sizeLine_eq]; decide))) ((o_neBs (rm hr 64) [true, true, true] [true, true, true]).imp fun d e => by rw [e]; rfl) rfl)) (fun z => by cases z) fun _ => dss_nil ⟨_, _, rfl⟩
    rintro ds ⟨v, l, rfl⟩
    refine dss_cons (N := fun ds => ∃ d2 ∈ facXs, ds = [.val (.adr a), t, .val (dicN m0), .val (.int (long : Int)), .val (ansT (freshA long)), far, v, l, .val d2, .no, .no, .no]) (ds_set (i := 8) (of_decide_eq_true rfl) rfl (.inr rfl) (P := (· ∈ facXs)) ?_ fun d h1 => ⟨d, h1, rfl⟩) ?_
    · exact dv_callZ (as := [.lst facXs]) hc (pick_of C3 facXs (by simp [facXs]) (by simp [facXs])) (hr : Room (k + 2) _) (Nat.le_refl _) rfl (dl_cons (dv_v 0) (dl_cons (dv_lst (dl_cons (dv_bin de_int de_int o_sub) (dl_cons (dv_bin de_int (dv_bin de_int de_int (o_pow ⟨by decide, by decide, by decide⟩)) (o_sub.imp fun d e => e.trans (congrArg D.int (by decide)))) (dl_cons de_non (dl_cons de_bl (dl_cons de_bl da_nil))))) (by simp [facXs])) da_nil)) ⟨a, rfl⟩ fun d z => z
    rintro ds ⟨d2, hd2, rfl⟩
    refine dss_cons (N := fun ds => ∃ d3 ∈ oddXs (talD CT (tallyOf m)), ds = [.val (.adr a), t, .val (dicN m0), .val (.int (long : Int)), .val (ansT (freshA long)), far, v, l, .val d2, .val d3, .no, .no]) (ds_set (i := 9) (of_decide_eq_true rfl) rfl (.inr rfl) (P := (· ∈ oddXs (talD CT (tallyOf m)))) ?_ fun d h1 => ⟨d, h1, rfl⟩) ?_
    · exact dv_callZ (as := [.lst (oddXs (talD CT (tallyOf m)))]) hc (pick_of C3 (oddXs (talD CT (tallyOf m))) (by simp [oddXs]) (by simp [oddXs])) (hr : Room (k + 2) _) (Nat.le_refl _) rfl (dl_cons (dv_v 0) (dl_cons (dv_lst (dl_cons de_str (dl_cons (dv_tup da_nil (by decide)) (dl_cons (dv_lst da_nil (by decide)) (dl_cons (dv_v 1) (dl_cons dv_dnil (dl_cons (dv_tup (dl_cons de_int da_nil) (by simp)) (dl_cons (dv_bin de_int de_int o_sub) da_nil))))))) (by simp [oddXs])) da_nil)) ⟨a, rfl⟩ fun d z => z
    rintro ds ⟨d3, hd3, rfl⟩
    obtain ⟨⟨k2, n2, hn2, c2'⟩, no2, sh2⟩ := fac_bad (CT := CT) (CC := CC) d2 hd2
    have ndt := nd_tally h.nd
    refine dss_to (ds' := [.val (.adr a), t, .val (dicN m0), .val (.int (long : Int)), .val (ansT (freshA long)), far, v, .lst [.bl true], .val d2, .val d3, .no, .no]) (ds_new (i := 7) (of_decide_eq_true rfl) rfl (.inl rfl) (P := (· = .lst [.bl true])) (dn_lst (dl_cons (DV.cast (de_lam (b := false) (S := (· = .ref CO)) (tv := .bl true) (fv := .bl false) (td := .bl true) (fd := .bl false) (T := tabT K) (fun _ => .bl) (fun _ => .bl) rfl hLF hLM hT (hr : Room (k + 2) _) (LamX.lamS_by rfl) rfl (fun _ _ _ _ _ => rfl) fun c2 A2 outer2 s2 H2 E2 fL c' hz2 hr2 hE => ?_) rfl) da_nil) (by simp)) fun s e => by subst e; rfl) ?_
    · exact DE.imp (dv_bin (dv_v 1) (dv_v 8) (o_mulRef (E := E2) T O hr2 (by omega) ndt k2 c2' hn2 no2 (TkE.pass (L2.takes_of rfl rfl rfl rfl)) fun H' l => hE _ H' rfl rfl l)) fun d q => q.elim
    refine dss_to (ds' := [.val (.adr a), t, .val (dicN m0), .val (.int (long : Int)), .val (ansT (freshA long)), far, v, .lst [.bl true, .bl true], .val d2, .val d3, .no, .no]) (ds_append (i := 7) (P := (· = .bl true)) rfl (.inl rfl) rfl (DV.cast (de_lam (b := false) (S := (· = .ref CO)) (tv := .bl true) (fv := .bl false) (td := .bl true) (fd := .bl false) (T := tabT K) (fun _ => .bl) (fun _ => .bl) rfl hLF hLM hT (hr : Room (k + 2) _) (LamX.lamS_by rfl) rfl (fun _ _ _ _ _ => rfl) fun c2 A2 outer2 s2 H2 E2 fL c' hz2 hr2 hE => ?_) rfl) (by rw [sizeLine_eq]; decide) fun d e => by subst e; rfl) ?_
    · exact DE.imp (dv_bin (dv_v 8) (dv_v 1) (o_rmulRef (E := E2) T hr2 (by omega) ndt sh2 no2 (TkE.pass (L2.takes_of rfl rfl rfl rfl)) fun H' l => hE _ H' rfl rfl l)) fun d q => q.elim
    refine dss_to (ds' := [.val (.adr a), t, .val (dicN m0), .val (.int (long : Int)), .val (ansT (freshA long)), far, v, .lst [.bl true, .bl true, .bl true], .val d2, .val d3, .no, .no]) (ds_append (i := 7) (P := (· = .bl true)) rfl (.inl rfl) rfl (DV.cast (de_lam (b := false) (S := (· = .ref CO)) (tv := .bl true) (fv := .bl false) (td := .bl true) (fd := .bl false) (T := tabT K) (fun _ => .bl) (fun _ => .bl) rfl hLF hLM hT (hr : Room (k + 2) _) (LamX.lamS_by rfl) rfl (fun _ _ _ _ _ => rfl) fun c2 A2 outer2 s2 H2 E2 fL c' hz2 hr2 hE => ?_) rfl) (by rw [sizeLine_eq]; decide) fun d e => by subst e; rfl) ?_
    · refine DE.imp (dv_bin (dv_v 1) (dv_v 9) (P := fun _ => False) ?_) fun d q => q.elim
      rcases odd_bad (CC := CC) (tallyOf m) d3 hd3 with e3 | ⟨⟨k3, n3, hn3, c3'⟩, no3⟩
      · rw [e3]
        exact o_mulRefT (E := E2) T hr2 (by omega) ndt (TkE.pass (L2.takes_of rfl rfl rfl rfl)) fun H' l => hE _ H' rfl rfl l
      · exact o_mulRef (E := E2) T O hr2 (by omega) ndt k3 c3' hn3 no3 (TkE.pass (L2.takes_of rfl rfl rfl rfl)) fun H' l => hE _ H' rfl rfl l
    let fr := freshA long
    have frl : fr.length ≤ 4 := by
      show (freshA long).length ≤ 4
      rw [fresh_len]
      omega
    have hf2 : Ct fr.length 1 3 [(fr, 2)] := ct_fresh long (by decide) (by decide)
    have hn0 : Ct fr.length 0 1 [] := ct_nil (by decide)
    have b2 : Bd fr.length 1 3 := ⟨frl, by decide, by decide, by decide⟩
    have b0 : Bd fr.length 0 1 := ⟨frl, by decide, by decide, by decide⟩
    refine dss_freeze (i := 7) rfl rfl (dss_to (ds' := [.val (.adr a), t, .val (dicN m0), .val (.int (long : Int)), .val (ansT (freshA long)), far, v, .val (.lst [.bl true, .bl true, .bl true]), .val d2, .val d3, .val (talD CT (tallyOf [])), .val (talD CT (tallyOf [(fr, 2)]))]) (ds_par (i := 10) (j := 11) rfl (of_decide_eq_true rfl) rfl rfl (by decide) rfl rfl (Pa := (· = talD CT (tallyOf []))) (Pb := (· = talD CT (tallyOf [(fr, 2)]))) ?_ ?_ fun x y e1 e2 => by subst e1 e2; rfl) ?_)
    · have e : tallyOf (combM m m (-1)) = tallyOf [] := tally_same (by rw [keys_comb]; exact nd_comb _ _) (by simp) fun a => by
        rw [numAt_comb, numAt_nil]
        omega
      exact DE.imp (dv_bin (dv_v 1) (dv_v 1) (o_subC T (hr.mono (by omega)) h h b b fun a => Int.le_refl _)) fun d q => q.trans (by rw [e])
    · exact dv_tallyD M (m := [(fr, 2)]) hf2 frl (by decide) (by decide) (hr : Room (k + 2) _) (Nat.le_refl _) rfl (dv_disp1 (rm hr 0) (DV.cast (dv_v 4) (kD_kI _).symm) de_int)
    have eA : tallyOf (combM [] [(fr, 2)] 1) = tallyOf [(fr, 2)] := tally_same (by rw [keys_comb]; exact nd_comb _ _) hf2.nd fun a => by
      rw [numAt_comb, numAt_nil]
      omega
    have eS : tallyOf (combM [(fr, 2)] [] (-1)) = tallyOf [(fr, 2)] := tally_same (by rw [keys_comb]; exact nd_comb _ _) hf2.nd fun a => by
      rw [numAt_comb, numAt_nil]
      omega
    have g0 : ∀ a, numAt [] a ≤ numAt [(fr, 2)] a := fun a => hf2.num0 a
    have w1 : leM (tallyOf []) (tallyOf [(fr, 2)]) = true := (leM_iff hn0 hf2).mpr g0
    have w2 : leM (tallyOf [(fr, 2)]) (tallyOf []) = false := Bool.eq_false_iff.mpr fun z => by
      have := (leM_iff hf2 hn0).mp z fr
      rw [numAt_cons, if_pos rfl, numAt_nil] at this
      omega
    have q1 : eqM (tallyOf [(fr, 2)]) (tallyOf [(fr, 2)]) = true := eqM_self (nd_tally hf2.nd)
    have l2 : (tallyOf [(fr, 2)]).length ≤ 1000 := Nat.le_trans hf2.tally.len (by decide)
    refine dss_to (ds' := [.val (.adr a), t, .val (dicN m0), .val (.int (long : Int)), .val (ansT (freshA long)), far, v, .val (.lst ([true, true, true, true, true, true, false, false].map .bl)), .val d2, .val d3, .val (talD CT (tallyOf [])), .val (talD CT (tallyOf [(fr, 2)]))]) (ds_set (i := 7) (of_decide_eq_true rfl) rfl (.inl rfl) (P := (· = .lst ([true, true, true, true, true, true, false, false].map .bl))) ?_ fun d e => by subst e; rfl) ?_
    · refine dv_bin (dv_v 7) (dv_lst (dl_cons (a := .bl true) ?_ (dl_cons (a := .bl true) ?_ (dl_cons (a := .bl true) ?_ (dl_cons (a := .bl false) ?_ (dl_cons (a := .bl false) ?_ da_nil))))) (by simp)) (o_cat (xs := [D.bl true, D.bl true, D.bl true]) (ys := [D.bl true, D.bl true, D.bl true, D.bl false, D.bl false]) (by rw [sizeLine_eq]; decide))
      · refine dv_cmp (dv_bin (dv_v 10) (dv_v 11) (o_addC T (hr.mono (by omega)) hn0 hf2 b0 b2)) (dv_v 11) ?_ rfl
        rw [eA]
        exact (o_eqC T O (hr.mono (by omega)) _ _ l2).imp fun d e => by rw [e, q1]
      · refine dv_cmp (dv_bin (dv_v 11) (dv_v 10) (o_subC T (hr.mono (by omega)) hf2 hn0 b2 b0 g0)) (dv_v 11) ?_ rfl
        rw [eS]
        exact (o_eqC T O (hr.mono (by omega)) _ _ l2).imp fun d e => by rw [e, q1]
      · exact DV.cast (dv_withinC T (hr : Room (k + 2) _) (by omega) hn0 hf2 b0 b2 (dv_v 10) (dv_v 11)) (by rw [w1])
      · exact dv_callTy rfl B.bool rfl (dl_cons (dv_v 10) da_nil) ((c_boolC T (hr : Room (k + 2) _) (tallyOf [])).imp fun d e => by
          rw [e]
          have := hn0.tally.len
          rw [List.length_eq_zero_iff.mp (Nat.le_zero.mp this)]
          rfl)
      · exact DV.cast (dv_withinC T (hr : Room (k + 2) _) (by omega) hf2 hn0 b2 b0 (dv_v 11) (dv_v 10)) (by rw [w2])
    · refine ds_retV (d := .bl true) (dv_cmp (dv_v 7) (dv_bin (dv_bin (dv_lst (dl_cons de_bl da_nil) (by simp)) de_int (o_rep (by decide) (by decide) (by rw [sizeLine_eq]; decide))) (dv_bin (dv_lst (dl_cons de_bl da_nil) (by simp)) de_int (o_rep (by decide) (by decide) (by rw [sizeLine_eq]; decide))) (o_cat (by rw [sizeLine_eq]; decide))) ((o_eqBs (rm hr 64) [true, true, true, true, true, true, false, false] [true, true, true, true, true, true, false, false]).imp fun d e => by rw [e]; rfl) rfl) rfl
end
end K31

set_option Elab.async false
set_option linter.all false
set_option maxRecDepth 100000
set_option maxHeartbeats 8000000
namespace K31
open PySem PyProof.Rows L2 Dt
/-! the hashes of the answers -/
def hI (a : List Int) : Int := reduceHash (Builtin.Tuple.tupleHashOf (a.map hashInt))
theorem hI_eq (P : Program) (w : World) (a : List Int) : hT P w (kI a) = hI a := by
  unfold hT hI kI
  show tupleKeyHash _ _ = _
  unfold tupleKeyHash
  rw [List.map_map]
  rfl
def all4 : Nat → List (List Int)
  | 0 => [[]]
  | n + 1 => (all4 n).flatMap fun a => ([0, 1, -7, 10 ^ 19] : List Int).map fun i => i :: a
theorem mem_all4 : ∀ (n : Nat) (a : List Int), a.length = n → (∀ i ∈ a, b4 i) → a ∈ all4 n
  | 0, a, h, _ => by
    rw [List.length_eq_zero_iff.mp h]
    exact List.mem_singleton.mpr rfl
  | n + 1, [], h, _ => by cases h
  | n + 1, i :: a, h, hi => by
    unfold all4
    rw [List.mem_flatMap]
    exact ⟨a, mem_all4 n a (by simpa using h) fun j m => hi j (List.mem_cons_of_mem _ m), List.mem_map.mpr ⟨i, hi i List.mem_cons_self, rfl⟩⟩
theorem hash4 : ∀ n, n ≤ 4 → ((all4 n).map hI).Nodup
  | 0, _ => by decide +kernel
  | 1, _ => by decide +kernel
  | 2, _ => by decide +kernel
  | 3, _ => by decide +kernel
  | 4, _ => by decide +kernel
  | n + 5, h => by omega
theorem nodup_inj {α β : Type} {f : α → β} : ∀ {l : List α}, (l.map f).Nodup → ∀ a ∈ l, ∀ b ∈ l, f a = f b → a = b
  | [], _, a, h, _, _, _ => by cases h
  | x :: l, n, a, ha, b, hb, e => by
    rw [List.map_cons, List.nodup_cons] at n
    rcases List.mem_cons.mp ha with e1 | h1 <;> rcases List.mem_cons.mp hb with e2 | h2
    · rw [e1, e2]
    · exact absurd (List.mem_map.mpr ⟨b, h2, e.symm.trans (congrArg f e1)⟩) n.1
    · exact absurd (List.mem_map.mpr ⟨a, h1, e.trans (congrArg f e2)⟩) n.1
    · exact nodup_inj n.2 a h1 b h2 e
theorem PrC.hash {long : Nat} {m : Tm} (h : PrC long m) (hl : long ≤ 4) (P : Program) (w : World) : ((m.map fun p => kI p.1).map (hT P w)).Nodup := by
  have e : (m.map fun p => kI p.1).map (hT P w) = (m.map (·.1)).map hI := by
    rw [List.map_map, List.map_map]
    exact List.map_congr_left fun p _ => hI_eq P w p.1
  rw [e]
  have all : ∀ a ∈ m.map (·.1), a ∈ all4 long := fun a ha => by
    obtain ⟨p, hp, rfl⟩ := List.mem_map.mp ha
    exact mem_all4 long p.1 (h.al p hp) (h.ai p hp)
  have inj := nodup_inj (hash4 long hl)
  have nd := h.nd
  unfold List.Nodup at nd ⊢
  rw [List.pairwise_map] at nd ⊢
  rw [List.pairwise_map]
  refine nd.imp_of_mem fun {p q} hp hq n e => n (inj _ (all _ (List.mem_map.mpr ⟨p, hp, rfl⟩)) _ (all _ (List.mem_map.mpr ⟨q, hq, rfl⟩)) e)
section
variable {P : Program} {w : World} {K : PySem.W.Frag} {mg : Str → Option Value} {base : Heap} {k : Nat} {f f2 : Addr} {fd fd2 : FuncData} {CT CC CI CO CG : Addr}
abbrev p_less (K : PySem.W.Frag) (CT : Addr) (m m' : Tm) : Sp := spT K (tabT K) false (· = [talD CT (tallyOf m), talD CT (tallyOf m'), dicN m, dicN m']) (fun _ r => r = .bl true) noX
abbrev p_others (K : PySem.W.Frag) (CT : Addr) (long : Nat) (m0 : Tm) : Sp := spT K (tabT K) true (fun as => ∃ a m, (∃ L N, Ct long L N m ∧ Bd long L N) ∧ as = [.adr a, talD CT (tallyOf m), dicN m0, .int (long : Int)]) (fun _ r => r = .bl true) noX
theorem t_law_right_too (B : Bi mg) (O : Ow P K mg CT CC CI CO) (T : Top P w K mg base k CT CC CI CO) (M : Mk2 P w K mg base (k + 3) CT CC CI) (C1 : ∀ n, 0 < n → n < 2 ^ 100 → Dt.Cl P w K mg base (k + 4) "_law_roll" (p_roll K n) []) (C3 : Dt.Cl P w K mg base (k + 4) "_law_pick" (p_pickA K) [])
    (C4 : ∀ long, long ≤ 4 → Dt.Cl P w K mg base (k + 4) "_law_counts" (p_counts K long) []) (C5 : ∀ m m' sg, m.length + m'.length ≤ 1000 → (∀ a, CMulW sg (numAt m' a)) → Dt.Cl P w K mg base (k + 4) "_law_added" (spV K [dicN m, dicN m', .int sg] (dicN (combM m m' sg))) [])
    (C6 : ∀ m n, m.length ≤ 1000 → (m.map (·.1)).Nodup → (∀ a, CMulW (numAt m a) n) → Dt.Cl P w K mg base (k + 4) "_law_times" (spV K [dicN m, .int n] (dicN (mulM m n))) []) (C7 : ∀ m m' : Tm, m.length ≤ 1000 → Dt.Cl P w K mg base (k + 4) "_law_within" (spV K [dicN m, dicN m'] (.bl (leW m m'))) [])
    (C2 : ∀ (long L : Nat) (N : Int) (m : Tm), Ct long L N m → long ≤ 4 → L ≤ 100 → 0 < N → N ≤ 10 ^ 290 → Dt.Cl P w K mg base (k + 4) "_law_shows" (spV K [talD CT (tallyOf m), dicN m] (.bl true)) [])
    (D8 : ∀ (long L L' : Nat) (N N' : Int) (m m' : Tm), Ct long L N m → Ct long L' N' m' → Bd long L N → Bd long L' N' → L + L' + L' ≤ 100 → N + N' ≤ 10 ^ 200 → Dt.Cl P w K mg base (k + 4) "_law_less_right" (p_less K CT m m') [])
    (C9 : ∀ (long L0 : Nat) (N0 : Int) (m0 : Tm), long ≤ 4 → Ct long L0 N0 m0 → L0 ≤ 1000 → ((m0.map fun p => kI p.1).map (hT P w)).Nodup → Dt.Cl P w K mg base (k + 4) "_law_others_right" (p_others K CT long m0) [])
    (F : FunOf K d__law_right_too f fd) : FnOk P w K mg base (L2.CX P w) (k + 5) f fd ["dice"] (spT K (tabT K) true (fun as => ∃ a, as = [.adr a]) (fun _ r => r = .bl true) noX) :=
  fn_dT (N := ["dice", "long", "first", "second", "third", "turn", "one", "other", "last", "both", "factor", "rising"]) F (C8.fnScope_by rfl) (fun as ⟨a, e⟩ => by subst e; rfl) fun c as cdv A outer s E hr ⟨a, e⟩ hz hT => by
    subst e
    have hc : c.Di a := hz a (List.mem_singleton.mpr rfl)
    have hR : Room (k + 4) (A.deeper (envOfC d__law_right_too.qual d__law_right_too.scope s.heap.objs.size f cdv)) := hr
    refine dss_cons (N := fun ds => ∃ long : Nat, long ≤ 4 ∧ ds = [.val (.adr a), .val (.int (long : Int)), .no, .no, .no, .no, .no, .no, .no, .no, .no, .no]) (ds_set (i := 1) (of_decide_eq_true rfl) rfl (.inr rfl) (P := rollOk 5) (dv_callZ hc (C1 5 (by decide) (by decide)) hR (Nat.le_refl _) rfl (dl_cons (dv_v 0) (dl_cons de_int da_nil)) ⟨a, rfl⟩ fun d h => h) fun d ⟨i, e, h1, h2⟩ => ⟨i.toNat, by omega, by subst e; rw [Int.toNat_of_nonneg h1]; rfl⟩) ?_
    rintro ds ⟨long, hl, rfl⟩
    let Q : D → Prop := fun r => ∃ m : Tm, PrC long m ∧ r = dicN m
    refine dss_cons (N := fun ds => ∃ m1 m2 m3 : Tm, PrC long m1 ∧ PrC long m2 ∧ PrC long m3 ∧ ds = [.val (.adr a), .val (.int (long : Int)), .val (dicN m1), .val (dicN m2), .val (dicN m3), .no, .no, .no, .no, .no, .no, .no]) (ds_unp3 (i := 2) (j := 3) (l := 4) (Pa := Q) (Pb := Q) (Pc := Q) rfl (of_decide_eq_true rfl) rfl rfl rfl (.inl rfl) (.inl rfl) (.inl rfl) ?_ fun u v z ⟨m1, h1, e1⟩ ⟨m2, h2, e2⟩ ⟨m3, h3, e3⟩ => ⟨m1, m2, m3, h1, h2, h3, by subst e1 e2 e3; rfl⟩) ?_
    · refine DE.imp (de_mapP (i := 5) (es := rngD 0 3) (Q := Q) rfl (of_decide_eq_true rfl) rfl (DI.imp (di_range1 (S := (· = (3 : Int))) rfl B.range (DV.to de_int ⟨3, rfl, rfl⟩) (fun z e => by subst e; decide)) fun es h => ?_) rfl rfl (fun d m s H C cl fp => ?_) ?_) fun d ⟨rs, e, h1, h2⟩ => ?_
      · obtain ⟨z, e, h⟩ := h
        subst e
        exact h
      · exact dv_callZ (as := [.int (long : Int)]) hc (C4 long hl) hR (Nat.le_refl _) rfl (dl_cons (dv_v 0) (dl_cons (dv_v 1) da_nil)) ⟨a, rfl⟩ fun d h => h
      · rw [sizeLine_eq]
        decide
      · match rs, h1 with
        | [u, v, z], _ => exact ⟨u, v, z, e, h2 u (by simp), h2 v (by simp), h2 z (by simp)⟩
    rintro ds ⟨m1, m2, m3, h1, h2, h3, rfl⟩
    have c1 := h1.ok.ct
    have c2 := h2.ok.ct
    have c3 := h3.ok.ct
    have b1 : Bd long 6 (10 ^ 40) := ⟨hl, by decide, by decide, by decide +kernel⟩
    let t1 := talD CT (tallyOf m1)
    let t2 := talD CT (tallyOf m2)
    let t3 := talD CT (tallyOf m3)
    refine dss_to (ds' := [.val (.adr a), .val (.int (long : Int)), .val (dicN m1), .val (dicN m2), .val (dicN m3), .no, .val t1, .val t2, .val t3, .no, .no, .no]) (ds_par3 (i := 6) (j := 7) (l := 8) rfl (of_decide_eq_true rfl) rfl rfl rfl (by decide) (by decide) (by decide) rfl rfl rfl (Pa := (· = t1)) (Pb := (· = t2)) (Pc := (· = t3)) ?_ ?_ ?_ fun u v z e1 e2 e3 => by subst e1 e2 e3; rfl) ?_
    · exact dv_tallyD M c1 hl (by decide) (by decide) hR (Nat.le_refl _) rfl (dv_callTy rfl B.dict rfl (dl_cons (dv_v 2) da_nil) (c_dictD (rm hR 2) (h1.hash hl _ _)))
    · exact dv_tallyD M c2 hl (by decide) (by decide) hR (Nat.le_refl _) rfl (dv_callTy rfl B.dict rfl (dl_cons (dv_v 3) da_nil) (c_dictD (rm hR 2) (h2.hash hl _ _)))
    · exact dv_tallyD M c3 hl (by decide) (by decide) hR (Nat.le_refl _) rfl (dv_callTy rfl B.dict rfl (dl_cons (dv_v 4) da_nil) (c_dictD (rm hR 2) (h3.hash hl _ _)))
    let mb := combM m1 m2 1
    have cb : Ct long 12 (2 * 10 ^ 40) mb := c1.add c2 (by decide) (by decide)
    have bb : Bd long 12 (2 * 10 ^ 40) := ⟨hl, by decide, by decide, by decide +kernel⟩
    let tb := talD CT (tallyOf mb)
    refine dss_cons (N := fun ds => ∃ n : Int, 0 ≤ n ∧ n < 10 ^ 40 ∧ ds = [.val (.adr a), .val (.int (long : Int)), .val (dicN m1), .val (dicN m2), .val (dicN m3), .no, .val t1, .val t2, .val t3, .val (dicN mb), .val (.int n), .no]) (ds_par (i := 9) (j := 10) rfl (of_decide_eq_true rfl) rfl rfl (by decide) rfl rfl (Pa := (· = dicN mb)) (Pb := fun d => ∃ n : Int, d = .int n ∧ 0 ≤ n ∧ n < 10 ^ 40) ?_ ?_ fun x y e1 ⟨n, e2, n0, n1⟩ => ⟨n, n0, n1, by subst e1 e2; rfl⟩) ?_
    · exact dv_callV (C5 m1 m2 1 (by have := h1.len; have := h2.len; omega) fun a => mul1_ok (c2.small b1.p b1.n3 a)) hR (Nat.le_refl _) rfl (dl_cons (dv_v 2) (dl_cons (dv_v 3) (dl_cons de_int da_nil)))
    · refine dv_callZ (as := [.lst ([0, 1, 2, 3, 10 ^ 40 - 1].map D.int)]) hc (pick_of C3 ([0, 1, 2, 3, 10 ^ 40 - 1].map D.int) (by simp) (by simp)) hR (Nat.le_refl _) rfl (dl_cons (dv_v 0) (dl_cons (DV.cast (dv_lst (dl_cons de_int (dl_cons de_int (dl_cons de_int (dl_cons de_int (dl_cons (dv_bin (dv_bin de_int de_int (o_pow ⟨by decide, by decide, by decide⟩)) de_int o_sub) da_nil))))) (by simp)) rfl) da_nil)) ⟨a, rfl⟩ fun d h => ?_
      obtain ⟨i, hi, e⟩ := List.mem_map.mp h
      have : ∀ i ∈ ([0, 1, 2, 3, 10 ^ 40 - 1] : List Int), 0 ≤ i ∧ i < 10 ^ 40 := by decide
      exact ⟨i, e.symm, this i hi⟩
    rintro ds ⟨n, n0, n1, rfl⟩
    refine dss_to (ds' := [.val (.adr a), .val (.int (long : Int)), .val (dicN m1), .val (dicN m2), .val (dicN m3), .no, .val t1, .val t2, .val t3, .val (dicN mb), .val (.int n), .val t1]) (ds_set (i := 11) (of_decide_eq_true rfl) rfl (.inl rfl) (P := (· = t1)) (dv_v 6) fun d e => by subst e; rfl) ?_
    refine dss_to (ds' := [.val (.adr a), .val (.int (long : Int)), .val (dicN m1), .val (dicN m2), .val (dicN m3), .no, .val t1, .val t2, .val t3, .val (dicN mb), .val (.int n), .val tb]) (ds_aug (i := 11) (P := (· = tb)) (of_decide_eq_true rfl) rfl (.inl rfl) rfl (dv_v 7) (o_iaddC T (hR.mono (by omega)) c1 c2 b1 b1) fun d e => by subst e; rfl) ?_
    have hr0 : Room k (A.deeper (envOfC d__law_right_too.qual d__law_right_too.scope s.heap.objs.size f cdv)) := hR.mono (by omega)
    -- sums
    refine dss_guard (b := false) (DB.cast (db_w (dw_or (x := false) (y := false) (DB.cast (db_not (x := true) (db_val ?_)) rfl) fun _ => dw_or (x := false) (y := false) (DB.cast (db_not (x := true) (db_val ?_)) rfl) fun _ => dw_or1 (DB.cast (db_not (x := true) (db_val ?_)) rfl))) rfl) (fun z => by cases z) fun _ => ?_
    · exact dv_callV (C2 _ _ _ mb cb hl bb.L bb.p (by decide +kernel)) hR (Nat.le_refl _) rfl (dl_cons (dv_bin (dv_v 6) (dv_v 7) (o_addC T hr0 c1 c2 b1 b1)) (dl_cons (dv_v 9) da_nil))
    · exact dv_callV (C2 _ _ _ mb cb hl bb.L bb.p (by decide +kernel)) hR (Nat.le_refl _) rfl (dl_cons (dv_v 11) (dl_cons (dv_v 9) da_nil))
    · exact dv_callV (C2 _ _ _ m1 c1 hl b1.L b1.p (by decide +kernel)) hR (Nat.le_refl _) rfl (dl_cons (dv_v 6) (dl_cons (dv_v 2) da_nil))
    have c23 : Ct long 12 (2 * 10 ^ 40) (combM m2 m3 1) := c2.add c3 (by decide) (by decide)
    have eq1 : tallyOf (combM mb m3 1) = tallyOf (combM m1 (combM m2 m3 1) 1) := tally_same (by rw [keys_comb]; exact nd_comb _ _) (by rw [keys_comb]; exact nd_comb _ _) fun a => by
      rw [numAt_comb, numAt_comb, numAt_comb, numAt_comb]
      omega
    have len1000 : ∀ {L N m}, Ct long L N m → L ≤ 1000 → (tallyOf m).length ≤ 1000 := fun h z => Nat.le_trans h.tally.len z
    refine dss_guard (b := false) (DB.cast (db_w (dw_or (x := false) (y := false) (db_cmp (a := talD CT (tallyOf (combM mb m3 1))) (b := talD CT (tallyOf (combM mb m3 1))) (dv_bin (dv_bin (dv_v 6) (dv_v 7) (o_addC T hr0 c1 c2 b1 b1)) (dv_v 8) (o_addC T hr0 cb c3 bb b1)) (DV.cast (dv_bin (dv_v 6) (dv_bin (dv_v 7) (dv_v 8) (o_addC T hr0 c2 c3 b1 b1)) (o_addC T hr0 c1 c23 b1 bb)) (by rw [eq1])) ((o_neC T O (hR.mono (by omega)) _ _ (len1000 (cb.add c3 (by decide) (by decide)) (by decide))).imp fun d e => by rw [e, eqM_self (nd_tally (cb.add c3 (by decide) (by decide)).nd)]; rfl) rfl) fun _ => dw_or1 (DB.cast (db_not (x := true) (db_val ?_)) rfl))) rfl) (fun z => by cases z) fun _ => ?_
    · have cm : Ct long 6 (10 ^ 40 * 2) (mulM m1 2) := c1.mul (by decide) (by decide) (by decide)
      have e2 : tallyOf (combM m1 m1 1) = tallyOf (mulM m1 2) := tally_same (by rw [keys_comb]; exact nd_comb _ _) (by rw [keys_mul]; exact c1.nd) fun a => by
        rw [numAt_comb, numAt_mul]
        omega
      exact dv_callV (C2 _ _ _ (mulM m1 2) cm hl (by decide) (by decide) (by decide +kernel)) hR (Nat.le_refl _) rfl (dl_cons (DV.cast (dv_bin (dv_v 6) (dv_v 6) (o_addC T hr0 c1 c1 b1 b1)) (by rw [e2])) (dl_cons (dv_callV (C6 m1 2 (by have := h1.len; omega) c1.nd fun a => mulW_of (c1.small b1.p b1.n3 a) (b := 2) (by decide) (by decide)) hR (Nat.le_refl _) rfl (dl_cons (dv_v 2) (dl_cons de_int da_nil))) da_nil))
    -- products
    have nn : n.natAbs < 2 ^ 1000 := log_small n0 (Int.lt_trans n1 (by decide +kernel))
    have n80 : n < 10 ^ 80 := Int.lt_trans n1 (by decide +kernel)
    have cm1 : Ct long 6 (10 ^ 40 * 10 ^ 40) (mulM m1 n) := c1.mul n0 (by omega) (by decide)
    have cm2 : Ct long 6 (10 ^ 40 * 10 ^ 40) (mulM m2 n) := c2.mul n0 (by omega) (by decide)
    have cmb : Ct long 12 (2 * 10 ^ 40 * 10 ^ 40) (mulM mb n) := cb.mul n0 (by omega) (by decide)
    have bm1 : Bd long 6 (10 ^ 40 * 10 ^ 40) := ⟨hl, by decide, by decide +kernel, by decide +kernel⟩
    refine dss_guard (b := false) (DB.cast (db_not (x := true) (db_val ?_)) rfl) (fun z => by cases z) fun _ => ?_
    · exact dv_callV (C2 _ _ _ (mulM m1 n) cm1 hl (by decide) (by decide +kernel) (by decide +kernel)) hR (Nat.le_refl _) rfl (dl_cons (dv_bin (dv_v 6) (dv_v 10) (o_mulC T O hr0 c1 b1 n0 n80)) (dl_cons (dv_callV (C6 m1 n (by have := h1.len; omega) c1.nd fun a => mulW_of (c1.small b1.p b1.n3 a) nn (by decide)) hR (Nat.le_refl _) rfl (dl_cons (dv_v 2) (dl_cons (dv_v 10) da_nil))) da_nil))
    refine dss_guard (b := false) (DB.cast (db_not (x := true) (db_val ?_)) rfl) (fun z => by cases z) fun _ => ?_
    · exact dv_callV (C2 _ _ _ (mulM mb n) cmb hl (by decide) (by decide +kernel) (by decide +kernel)) hR (Nat.le_refl _) rfl (dl_cons (dv_bin (dv_v 10) (dv_v 11) (o_rmulC T hr0 cb bb n0 n80)) (dl_cons (dv_callV (C6 mb n (by have := cb.len; omega) cb.nd fun a => mulW_of (cb.small bb.p bb.n3 a) nn (by decide)) hR (Nat.le_refl _) rfl (dl_cons (dv_v 9) (dl_cons (dv_v 10) da_nil))) da_nil))
    have eq3 : tallyOf (combM (mulM m1 n) (mulM m2 n) 1) = tallyOf (mulM mb n) := tally_same (by rw [keys_comb]; exact nd_comb _ _) (by rw [keys_mul]; exact cb.nd) fun a => by
      rw [numAt_comb, numAt_mul, numAt_mul, numAt_mul, numAt_comb, Int.add_mul, Int.one_mul, Int.one_mul]
    refine dss_guard (b := false) (db_cmp (a := talD CT (tallyOf (mulM mb n))) (b := talD CT (tallyOf (mulM mb n))) (DV.cast (dv_bin (dv_bin (dv_v 6) (dv_v 10) (o_mulC T O hr0 c1 b1 n0 n80)) (dv_bin (dv_v 10) (dv_v 7) (o_rmulC T hr0 c2 b1 n0 n80)) (o_addC T hr0 cm1 cm2 bm1 bm1)) (by rw [eq3])) (dv_bin (dv_v 10) (dv_v 11) (o_rmulC T hr0 cb bb n0 n80)) ((o_neC T O (hR.mono (by omega)) _ _ (len1000 cmb (by decide))).imp fun d e => by rw [e, eqM_self (nd_tally cmb.nd)]; rfl) rfl) (fun z => by cases z) fun _ => ?_
    -- comparisons
    have ew : leM (tallyOf m1) (tallyOf m2) = leW m1 m2 := Bool.eq_iff_iff.mpr ((leM_iff c1 c2).trans (leW_iff c2).symm)
    refine dss_guard (b := false) (DB.cast (db_w (dw_or (x := false) (y := false) (db_cmp (dv_withinC T hR (by omega) c1 c2 b1 b1 (dv_v 6) (dv_v 7)) (dv_callV (C7 m1 m2 (by have := h1.len; omega)) hR (Nat.le_refl _) rfl (dl_cons (dv_v 2) (dl_cons (dv_v 3) da_nil))) (o_neB.imp fun d e => by rw [e, ew]; simp) rfl) fun _ => dw_or (x := false) (y := false) (DB.cast (db_not (x := true) (db_val (DV.cast (dv_withinC T hR (by omega) c1 cb b1 bb (dv_v 6) (dv_v 11)) ?_))) rfl) fun _ => dw_or1 (DB.cast (db_not (x := true) (db_val (DV.cast (dv_withinC T hR (by omega) c1 c1 b1 b1 (dv_v 6) (dv_v 6)) ?_))) rfl))) rfl) (fun z => by cases z) fun _ => ?_
    · rw [(leM_iff c1 cb).mpr fun a => by rw [numAt_comb]; have := c2.num0 a; omega]
    · rw [(leM_iff c1 c1).mpr fun a => Int.le_refl _]
    -- differences
    refine dss_guard (b := false) (DB.cast (db_w (dw_or (x := false) (y := false) (DB.cast (db_not (x := true) (db_val ?_)) rfl) fun _ => dw_or1 (DB.cast (db_not (x := true) (db_val ?_)) rfl))) rfl) (fun z => by cases z) fun _ => ?_
    · exact dv_callT (D8 _ _ _ _ _ m1 m2 c1 c2 b1 b1 (by decide) (by decide +kernel)) hR (Nat.le_refl _) rfl (dl_cons (dv_v 6) (dl_cons (dv_v 7) (dl_cons (dv_v 2) (dl_cons (dv_v 3) da_nil)))) rfl (fun a h => by cases h) (fun d h => h) (.inr hT.symm)
    · exact dv_callT (D8 _ _ _ _ _ mb m2 cb c2 bb b1 (by decide) (by decide +kernel)) hR (Nat.le_refl _) rfl (dl_cons (dv_v 11) (dl_cons (dv_v 7) (dl_cons (dv_v 9) (dl_cons (dv_v 3) da_nil)))) rfl (fun a h => by cases h) (fun d h => h) (.inr hT.symm)
    -- others
    refine dss_guard (b := false) (DB.cast (db_not (x := true) (db_val ?_)) rfl) (fun z => by cases z) fun _ => ?_
    · refine de_callT (C9 long 6 (10 ^ 40) m1 hl c1 (by decide) (h1.hash hl _ _)) hR (Nat.le_refl _) rfl (Pa := fun as => ∃ m, (∃ L N, Ct long L N m ∧ Bd long L N) ∧ as = [.adr a, talD CT (tallyOf m), dicN m1, .int (long : Int)]) ?_ (fun as ⟨m, h, e⟩ => ⟨a, m, h, e⟩) (fun as ⟨m, h, e⟩ b hb => by subst e; rw [List.mem_singleton.mp hb]; exact hc) (fun as d _ h => h) (.inr hT.symm)
      refine DA.imp (da_cons (Pa := (· = .adr a)) (dv_v 0) (da_cons (Pa := fun d => d ∈ [t1, tb]) (dv_callZ (as := [.lst [t1, tb]]) hc (pick_of C3 [t1, tb] (by simp) (by simp)) hR (Nat.le_refl _) rfl (dl_cons (dv_v 0) (dl_cons (dv_lst (dl_cons (dv_v 6) (dl_cons (dv_v 11) da_nil)) (by simp)) da_nil)) ⟨a, rfl⟩ fun d h => h) (da_cons (Pa := (· = dicN m1)) (dv_v 2) (da_cons (Pa := (· = .int (long : Int))) (dv_v 1) da_nil)))) fun as h => ?_
      obtain ⟨_, _, rfl, rfl, d, _, rfl, hd, _, _, rfl, rfl, _, _, rfl, rfl, rfl⟩ := h
      rcases List.mem_cons.mp hd with rfl | hd
      · exact ⟨m1, ⟨_, _, c1, b1⟩, rfl⟩
      · rw [List.mem_singleton.mp hd]
        exact ⟨mb, ⟨_, _, cb, bb⟩, rfl⟩
    refine ds_retV (d := .bl true) (DV.cast (dv_and (x := true) (y := true) ?_ fun _ => dv_and (x := true) (y := true) ?_ fun _ => dv_one ?_) rfl) rfl
    · exact dv_callV (C2 _ _ _ m1 c1 hl b1.L b1.p (by decide +kernel)) hR (Nat.le_refl _) rfl (dl_cons (dv_v 6) (dl_cons (dv_v 2) da_nil))
    · exact dv_callV (C2 _ _ _ m2 c2 hl b1.L b1.p (by decide +kernel)) hR (Nat.le_refl _) rfl (dl_cons (dv_v 7) (dl_cons (dv_v 3) da_nil))
    · exact dv_callV (C2 _ _ _ m3 c3 hl b1.L b1.p (by decide +kernel)) hR (Nat.le_refl _) rfl (dl_cons (dv_v 8) (dl_cons (dv_v 4) da_nil))
end
end K31

set_option Elab.async false
set_option linter.all false
set_option maxRecDepth 100000
set_option maxHeartbeats 8000000
namespace K31
open PySem PyProof.Rows L2 Dt
/-! how long the texts are -/
theorem nat20 {i : Int} (h : okI i) : i.natAbs < 10 ^ 20 := by
  unfold okI at h
  omega
theorem log_of {n : Nat} (h : n < 10 ^ 100) : n.log2 < 1920 := log2_lt (Nat.lt_trans h (by decide +kernel))
theorem shI_of {i : Int} (h : i.natAbs < 10 ^ 100) : shI i := ⟨log_of h, Nat.le_trans (len_int (by decide) h) (by decide)⟩
theorem lt100 {n k : Nat} (h : n < 10 ^ k) (hk : k ≤ 100) : n < 10 ^ 100 := Nat.lt_of_lt_of_le h (Nat.pow_le_pow_right (by decide) hk)
theorem shA_of {a : Ans} (hl : a.length ≤ 4) (h : ∀ i ∈ a, okI i) : shA a := ⟨by omega, fun i m => shI_of (lt100 (nat20 (h i m)) (by decide))⟩
theorem inS_len {a : Ans} (hl : a.length ≤ 4) (h : ∀ i ∈ a, okI i) : (inS a).length ≤ 92 := by
  have h1 := len_txt (s := ", ") (ys := a.map iS) (n := 21) fun y hy => by
    obtain ⟨i, hi, rfl⟩ := List.mem_map.mp hy
    exact len_int (by decide) (nat20 (h i hi))
  have h2 : (", " : Str).length = 2 := by decide
  rw [h2, List.length_map] at h1
  unfold inS
  have : a.length * (21 + 2) ≤ 4 * 23 := Nat.mul_le_mul_right _ hl
  omega
theorem okS_iS (i : Int) : okS (iS i) := okS_of _
theorem okS_inS (a : Ans) : okS (inS a) := okS_txt (okS_of _) fun y hy => by
  obtain ⟨i, _, rfl⟩ := List.mem_map.mp hy
  exact okS_iS i
theorem okS_line (p : Ans × Int) : okS (lawLine p) := okS_app (okS_app (okS_app (okS_of _) (okS_inS _)) (okS_of _)) (okS_iS _)
theorem okS_text (m : Tm) : okS (lawText m) := by
  unfold lawText
  split
  · exact okS_of _
  · exact okS_txt (okS_of _) fun y hy => by
      obtain ⟨p, _, rfl⟩ := List.mem_map.mp hy
      exact okS_line p
theorem str_assoc (x y z : Str) : (x ++ y) ++ z = x ++ (y ++ z) := by
  obtain ⟨x⟩ := x
  obtain ⟨y⟩ := y
  obtain ⟨z⟩ := z
  show Str.mk ((x ++ y) ++ z) = Str.mk (x ++ (y ++ z))
  rw [Array.append_assoc]
theorem empty_app (x : Str) : Str.empty ++ x = x := Str.append_left_empty rfl
theorem line_eq {m : Tm} {p : Ans × Int} (h : numAt m p.1 = p.2) : lineS m p.1 = lawLine p := by
  unfold lineS lawLine txtA
  simp only [joinS]
  rw [h, empty_app, empty_app, str_assoc (("(" : Str) ++ inS p.1)]
  rfl
theorem text_eq {m : Tm} (h : (m.map (·.1)).Nodup) : strM m = lawText m := by
  unfold strM lawText
  rw [List.map_map]
  have e : m.map (lineS m ∘ fun x : Ans × Int => x.1) = m.map lawLine := List.map_congr_left fun p hp => line_eq (numAt_mem h hp)
  rw [e]
section
variable {long L : Nat} {N : Int} {m : Tm}
theorem Ct.num100 (h : Ct long L N m) (hN : N ≤ 10 ^ 100) {p : Ans × Int} (hp : p ∈ m) : p.2.natAbs < 10 ^ 100 := by
  have h1 := h.nn p hp
  have h2 := h.nb p hp
  omega
theorem Ct.shP (h : Ct long L N m) (hl : long ≤ 4) (hL : L ≤ 100) (hN : N ≤ 10 ^ 100) : shP m := ⟨Nat.le_trans h.len hL, fun p hp => by
  have a4 : p.1.length ≤ 4 := by rw [h.al p hp]; exact hl
  exact ⟨shA_of a4 (h.ai p hp), Nat.le_trans (inS_len a4 (h.ai p hp)) (by decide), shI_of (h.num100 hN hp)⟩⟩
theorem Ct.shM (h : Ct long L N m) (hl : long ≤ 4) (hL : L ≤ 100) (hN : N ≤ 10 ^ 100) : shM m := ⟨Nat.le_trans h.len hL, fun a ha => by
  obtain ⟨p, hp, rfl⟩ := List.mem_map.mp ha
  have a4 : p.1.length ≤ 4 := by rw [h.al p hp]; exact hl
  have i92 := inS_len a4 (h.ai p hp)
  have sI : shI (numAt m p.1) := by
    rw [numAt_mem h.nd hp]
    exact shI_of (h.num100 hN hp)
  have t94 : (txtA p.1).length ≤ 94 := by
    unfold txtA
    simp only [joinS]
    rw [Str.length_append, Str.length_append, Str.length_append]
    have h1 : Str.empty.length = 0 := rfl
    have h2 : ("(" : Str).length = 1 := by decide
    have h3 : (")" : Str).length = 1 := by decide
    omega
  refine ⟨shA_of a4 (h.ai p hp), by omega, by omega, sI, ?_⟩
  rw [line_eq (numAt_mem h.nd hp)]
  exact lawLine_len (by omega) (shI_of (h.num100 hN hp))⟩
theorem text_len (h : Ct long L N m) (hl : long ≤ 4) (hL : L ≤ 100) (hN : N ≤ 10 ^ 100) : (lawText m).length ≤ 100 * 302 := by
  unfold lawText
  split
  · decide
  · have h1 := len_txt (s := ", ") (ys := m.map lawLine) (n := 300) fun y hy => by
      obtain ⟨p, hp, rfl⟩ := List.mem_map.mp hy
      have a4 : p.1.length ≤ 4 := by rw [h.al p hp]; exact hl
      have i92 := inS_len a4 (h.ai p hp)
      have i101 : (iS p.2).length ≤ 101 := len_int (by decide) (h.num100 hN hp)
      unfold lawLine
      rw [Str.length_append, Str.length_append, Str.length_append]
      have h3 : ("(" : Str).length = 1 := by decide
      have h4 : (") * " : Str).length = 4 := by decide
      omega
    have h2 : (", " : Str).length = 2 := by decide
    rw [h2, List.length_map] at h1
    have : m.length * (300 + 2) ≤ 100 * 302 := Nat.mul_le_mul_right _ (Nat.le_trans h.len hL)
    omega
end
/-! repr of answers -/
theorem shw_A {a : Ans} (hl : a.length ≤ 5) (h : ∀ i ∈ a, i.natAbs < 10 ^ 100) : Shw 520 2 (pyA a) := by
  refine (shw_tup (n := 101) (d := 1) fun x hx => ?_).le ?_ (Nat.le_refl _)
  · obtain ⟨i, hi, rfl⟩ := List.mem_map.mp hx
    exact shw_int (by decide) (h i hi) (log_of (h i hi))
  · rw [List.length_map]
    have : a.length * (101 + 2) ≤ 5 * 103 := Nat.mul_le_mul_right _ hl
    omega
/-! strange values -/
theorem lookup_no {m : Tm} {a : Ans} (h : a ∉ m.map (·.1)) : m.lookup a = none := by
  induction m with
  | nil => rfl
  | cons p m ih =>
    rw [List.map_cons, List.mem_cons, not_or] at h
    rw [List.lookup_cons]
    have e : (a == p.1) = false := by simpa using h.1
    rw [e]
    exact ih h.2
structure Str0 (CT CC : Addr) (m : Tm) (d : D) : Prop where
  kn : KnT [CT, CC] d
  v0 : valAt m d = 0
  i0 : inAt m d = false
section
variable {CT CC : Addr} {long L : Nat} {N : Int} {m : Tm}
theorem str0_no {d : D} (kn : KnT [CT, CC] d) (h : ansD d = false) : Str0 CT CC m d := ⟨kn, by unfold valAt; rw [h]; rfl, by unfold inAt; rw [h]; rfl⟩
theorem knT_flat {d : D} (h : kc [CT, CC] d = true) (n : ∀ xs, d ≠ .tup xs) : KnT [CT, CC] d := ⟨h, fun xs e => (n xs e).elim⟩
theorem knT_tup {xs : List D} (h : xs.length ≤ 1000) (k : ∀ x ∈ xs, kc [CT, CC] x = true) : KnT [CT, CC] (.tup xs) := ⟨rfl, fun ys e => by cases e; exact ⟨h, k⟩⟩
theorem str0_ans {b : Ans} (hl : b.length ≤ 1000) (h : b ∉ m.map (·.1)) : Str0 CT CC m (ansT b) := by
  refine ⟨knT_tup (by rw [List.length_map]; exact hl) fun x hx => by obtain ⟨i, _, rfl⟩ := List.mem_map.mp hx; rfl, ?_, ?_⟩
  · unfold valAt
    split
    · rw [via_at ansT_inj]
      exact numAt_out h
    · rfl
  · unfold inAt
    rw [via_at ansT_inj, lookup_no h]
    exact Bool.and_false _
theorem Ct.notKey (h : Ct long L N m) {b : Ans} (n : b.length ≠ long) : b ∉ m.map (·.1) := fun z => n (h.keyL z).1
/-- the answer with True and False in the place of 1 and 0 -/
def twinD (i : Int) : D := if i = 0 ∨ i = 1 then .bl (decide (i = 1)) else .int i
def twinP (i : Int) : PyData := if i = 0 ∨ i = 1 then .bool (decide (i = 1)) else .int i
theorem py_twin (i : Int) : (twinD i).py = some (twinP i) := by
  unfold twinD twinP
  split <;> rfl
theorem twin_same : ∀ {a : Ans}, (∀ i ∈ a, ¬ (i = 0 ∨ i = 1)) → a.map twinP = a.map PyData.int
  | [], _ => rfl
  | i :: a, h => by
    rw [List.map_cons, List.map_cons, twin_same fun j m => h j (List.mem_cons_of_mem _ m)]
    unfold twinP
    rw [if_neg (h i List.mem_cons_self)]
theorem twin_no {a : Ans} (h : ∃ i ∈ a, i = 0 ∨ i = 1) : ansD (.tup (a.map twinD)) = false := by
  show (decide ((a.map twinD).length ≤ 4) && (a.map twinD).all int20) = false
  have : (a.map twinD).all int20 = false := by
    rw [Bool.eq_false_iff]
    intro z
    obtain ⟨i, hi, e⟩ := h
    have := List.all_eq_true.mp z (twinD i) (List.mem_map.mpr ⟨i, hi, rfl⟩)
    unfold twinD at this
    rw [if_pos e] at this
    cases this
  rw [this]
  exact Bool.and_false _
theorem shw_twin {a : Ans} (hl : a.length ≤ 5) (h : ∀ i ∈ a, i.natAbs < 10 ^ 100) : Shw 520 2 (.tuple (a.map twinP)) := by
  refine (shw_tup (n := 101) (d := 1) fun x hx => ?_).le ?_ (Nat.le_refl _)
  · obtain ⟨i, hi, rfl⟩ := List.mem_map.mp hx
    unfold twinP
    split
    · exact shw_bl.le (by decide) (Nat.le_refl _)
    · exact shw_int (by decide) (h i hi) (log_of (h i hi))
  · rw [List.length_map]
    have : a.length * (101 + 2) ≤ 5 * 103 := Nat.mul_le_mul_right _ hl
    omega
end
section
variable {P : Program} {w : World} {K : PySem.W.Frag} {mg : Str → Option Value} {base : Heap} {k : Nat} {f : Addr} {fd : FuncData} {CT CC CI CO : Addr} {long L : Nat} {N : Int}
abbrev p_strange (K : PySem.W.Frag) (CT CC : Addr) (m : Tm) : Sp := spT K [] false (· = [.lst (m.map prD)]) (fun _ r => ∃ ds, r = .lst ds ∧ ds.length ≤ 1000 ∧ ∀ d ∈ ds, Str0 CT CC m d) noX
theorem t_law_strange (B : Bi mg) (F : FunOf K d__law_strange f fd) (m : Tm) (h : Ct long L N m) (hl : long ≤ 4) (hL : L ≤ 100) : FnG P w K mg base (L2.CX P w) (k + 1) f fd ["pairs"] (p_strange K CT CC m) :=
  fn_dG (N := ["pairs", "found", "pair", "answer", "number", "twin", "integer"]) F (C8.fnScope_by rfl) (fun as e => by subst e; rfl) fun c as cdv A outer s E hr gd e hz hT => by
    subst e
    let xs0 : List D := [.non, .int 5, .str "none", .lst [], .dic [] [], .bl true, ansT [5, 5, 5, 5, 5], .tup [.str "a"], .tup [.tup []], .tup [.non], .lst (ansL m)]
    have hx0 : ∀ d ∈ xs0, Str0 CT CC m d := fun d hd => by
      simp only [xs0, List.mem_cons, List.not_mem_nil, or_false] at hd
      rcases hd with rfl | rfl | rfl | rfl | rfl | rfl | rfl | rfl | rfl | rfl | rfl
      · exact str0_no (knT_flat rfl fun _ e => by cases e) rfl
      · exact str0_no (knT_flat rfl fun _ e => by cases e) rfl
      · exact str0_no (knT_flat rfl fun _ e => by cases e) rfl
      · exact str0_no (knT_flat rfl fun _ e => by cases e) rfl
      · exact str0_no (knT_flat rfl fun _ e => by cases e) rfl
      · exact str0_no (knT_flat rfl fun _ e => by cases e) rfl
      · exact str0_ans (by decide) (h.notKey (by show 5 ≠ long; omega))
      · exact str0_no (knT_tup (by decide) (by simp [kc])) rfl
      · exact str0_no (knT_tup (by decide) (by simp [kc])) rfl
      · exact str0_no (knT_tup (by decide) (by simp [kc])) rfl
      · exact str0_no (knT_flat rfl fun _ e => by cases e) rfl
    have lm := h.len
    refine dss_to (ds' := [.val (.lst (m.map prD)), .lst xs0, .no, .no, .no, .no, .no]) (ds_new (i := 1) (of_decide_eq_true rfl) rfl (.inl rfl) (P := (· = .lst xs0)) (dn_lst (dl_cons de_non (dl_cons de_int (dl_cons de_str (dl_cons (dv_lst da_nil (by decide)) (dl_cons dv_dnil (dl_cons de_bl (dl_cons (a := ansT [5, 5, 5, 5, 5]) (dv_tup (dl_cons de_int (dl_cons de_int (dl_cons de_int (dl_cons de_int (dl_cons de_int da_nil))))) (by simp)) (dl_cons (dv_tup (dl_cons de_str da_nil) (by simp)) (dl_cons (dv_tup (dl_cons (dv_tup da_nil (by decide)) da_nil) (by simp)) (dl_cons (dv_tup (dl_cons de_non da_nil) (by simp)) (dl_cons (a := .lst (ansL m)) (dv_mapA (i := 2) (as := m) (kf := prD) prD_inj (r := fun p => ansT p.1) rfl (of_decide_eq_true rfl) rfl (di_list (DV.to (dv_v 0) ⟨_, rfl, rfl⟩)) rfl rfl (fun p hp s H C cl fp => dv_ix (dv_v 2) de_int (x_tup rfl) (fun _ _ => rfl)) (by rw [sizeLine_eq]; omega)) da_nil))))))))))) (by simp [xs0])) fun s e => by subst e; rfl) ?_
    refine dss_cons (N := fun ds => ∃ (l : List D) (t3 t4 t5 : Sl), l.length ≤ 1000 ∧ (∀ d ∈ l, Str0 CT CC m d) ∧ ds = [.val (.lst (m.map prD)), .lst l, .no, t3, t4, t5, .no])
      (ds_forP (i := 3) (j := 4) (as := m) (f1 := fun p => ansT p.1) (f2 := fun p => .int p.2) (fun kk ds => ∃ (l : List D) (t3 t4 t5 : Sl), l.length ≤ 11 + 5 * kk ∧ (∀ d ∈ l, Str0 CT CC m d) ∧ ds = [.val (.lst (m.map prD)), .lst l, .no, t3, t4, t5, .no]) PassesOwn.never rfl (of_decide_eq_true rfl) rfl (.inl rfl) rfl (.inl rfl)
        (di_list (DV.to (dv_v 0) ⟨_, rfl, rfl⟩)) ⟨xs0, .no, .no, .no, Nat.le_refl _, hx0, rfl⟩ ?_ ?_) ?_
    · rintro kk p ds hp ⟨l, t3, t4, t5, hl5, hs, rfl⟩
      have pm : p ∈ m := List.mem_of_getElem? hp
      have kkm : kk < m.length := (List.getElem?_eq_some_iff.mp hp).1
      have pl := h.al p pm
      have pi : ∀ i ∈ p.1, i.natAbs < 10 ^ 100 := fun i hi => lt100 (nat20 (h.ai p pm i hi)) (by decide)
      have sA := shw_A (a := p.1) (by omega) pi
      let l2 := l ++ [.lst (p.1.map .int), ansT (p.1 ++ [0]), .str (pyA p.1).shown]
      have hs2 : ∀ d ∈ l2, Str0 CT CC m d := fun d hd => by
        rcases List.mem_append.mp hd with hd | hd
        · exact hs d hd
        · simp only [List.mem_cons, List.not_mem_nil, or_false] at hd
          rcases hd with rfl | rfl | rfl
          · exact str0_no (knT_flat rfl fun _ e => by cases e) rfl
          · exact str0_ans (by rw [List.length_append, List.length_singleton]; omega) (h.notKey (by rw [List.length_append, List.length_singleton]; omega))
          · exact str0_no (knT_flat rfl fun _ e => by cases e) rfl
      have ll2 : l2.length ≤ 11 + 5 * kk + 3 := by
        rw [List.length_append]
        simp
        omega
      refine dss_to (ds' := [.val (.lst (m.map prD)), .lst l2, .no, .val (ansT p.1), .val (.int p.2), t5, .no]) (ds_extend (i := 1) (Pn := (· = .lst [.lst (p.1.map .int), ansT (p.1 ++ [0]), .str (pyA p.1).shown])) rfl (.inl rfl) rfl (dn_lst (dl_cons (dv_callTy rfl B.list rfl (dl_cons (dv_v 3) da_nil) c_listT) (dl_cons (a := ansT (p.1 ++ [0])) (dv_bin (dv_v 3) (dv_tup (dl_cons de_int da_nil) (by simp)) ((o_catT (by rw [sizeLine_eq, List.length_map]; simp; omega)).imp fun d e => by rw [e]; unfold ansT; rw [List.map_append]; rfl)) (dl_cons (dv_callTy rfl B.str rfl (dl_cons (dv_v 3) da_nil) (c_strW sA (by decide) (by decide) gd (rm hr 64) rfl (py_ansT p.1))) da_nil))) (by simp)) (fun s e => ⟨_, e, by rw [sizeLine_eq]; simp; omega⟩) fun rs e => by cases e; rfl) ?_
      refine dss_to (ds' := [.val (.lst (m.map prD)), .lst l2, .no, .val (ansT p.1), .val (.int p.2), .val (.tup (p.1.map twinD)), .no]) (ds_set (i := 5) (of_decide_eq_true rfl) rfl (.inl rfl) (P := (· = .tup (p.1.map twinD))) ?_ fun d e => by subst e; rfl) ?_
      · refine dv_callTy rfl B.tuple rfl (dl_cons (dv_mapA (i := 6) (as := p.1) (kf := .int) int_inj (r := twinD) rfl (of_decide_eq_true rfl) rfl (di_tup (DV.to (dv_v 3) ⟨_, rfl, rfl⟩)) rfl rfl (fun i hi s H C cl fp => ?_) (by rw [sizeLine_eq]; omega)) da_nil) c_tupL
        refine de_ifExp (Pt := (· = decide (i = 0 ∨ i = 1))) (db_cmp (b := .tup (D.ints [0, 1])) (dv_v 6) (dv_tup (dl_cons de_int (dl_cons de_int da_nil)) (by decide)) (o_inT.imp fun d e => ?_) rfl) (fun hb => ?_) fun hb => ?_
        · rw [e]
          congr 1
          by_cases h0 : i = 0
          · subst h0
            rfl
          · by_cases h1 : i = 1
            · subst h1
              rfl
            · have e0 : ((0 : Int) == i) = false := by simpa using fun z => h0 z.symm
              have e1 : ((1 : Int) == i) = false := by simpa using fun z => h1 z.symm
              show ((0 : Int) == i || ((1 : Int) == i || false)) = _
              rw [e0, e1]
              simp [h0, h1]
        · have hb := of_decide_eq_true hb.symm
          unfold twinD
          rw [if_pos hb]
          exact dv_cmp (dv_v 6) de_int o_eqI rfl
        · have hb := of_decide_eq_false hb.symm
          unfold twinD
          rw [if_neg hb]
          exact dv_v 6
      have sT := shw_twin (a := p.1) (by omega) pi
      refine dss_cons (N := fun ds => ∃ l3 : List D, l3.length ≤ 11 + 5 * kk + 4 ∧ (∀ d ∈ l3, Str0 CT CC m d) ∧ ds = [.val (.lst (m.map prD)), .lst l3, .no, .val (ansT p.1), .val (.int p.2), .val (.tup (p.1.map twinD)), .no]) (ds_if (Pt := (· = !decide ((PyData.tuple (p.1.map twinP)).shown = (pyA p.1).shown))) (db_cmp (dv_callB rfl B.repr rfl (dl_cons (dv_v 5) da_nil) (c_reprW sT (by decide) (by decide) gd (rm hr 64) rfl (py_tup fun i _ => py_twin i))) (dv_callB rfl B.repr rfl (dl_cons (dv_v 3) da_nil) (c_reprW sA (by decide) (by decide) gd (rm hr 64) rfl (py_ansT p.1))) o_neS rfl) (fun hb => ?_) fun hb => dss_nil ⟨l2, by omega, hs2, rfl⟩) ?_
      · refine dss_one (ds_append (i := 1) (P := (· = .tup (p.1.map twinD))) rfl (.inl rfl) rfl (dv_v 5) (by rw [sizeLine_eq]; omega) fun d e => ⟨l2 ++ [.tup (p.1.map twinD)], by rw [List.length_append, List.length_singleton]; omega, fun d hd => ?_, by subst e; rfl⟩)
        rcases List.mem_append.mp hd with hd | hd
        · exact hs2 d hd
        · rw [List.mem_singleton.mp hd]
          refine str0_no (knT_tup (by rw [List.length_map]; omega) fun x hx => by obtain ⟨i, _, rfl⟩ := List.mem_map.mp hx; unfold twinD; split <;> rfl) (twin_no (Decidable.byContradiction fun n => ?_))
          have e := twin_same (a := p.1) fun i hi z => n ⟨i, hi, z⟩
          rw [e] at hb
          have e2 : (PyData.tuple (p.1.map PyData.int)).shown = (pyA p.1).shown := rfl
          rw [decide_eq_true e2] at hb
          cases hb
      rintro ds ⟨l3, ll3, hs3, rfl⟩
      refine dss_one (ds_if (Pt := (· = !decide (p.1 = []))) (db_cmp (dv_v 3) (dv_tup da_nil (by decide)) ((o_neD (rm hr 64) (py_ansT p.1) (show (ansT []).py = some (pyA []) from py_ansT []) ((shN_A p.1).shaped (by decide)) ((shN_A []).shaped (by decide))).imp fun d e => by rw [e, eqv_A]) rfl) (fun hb => ?_) fun hb => dss_nil ⟨l3, _, _, _, by omega, hs3, rfl⟩)
      have ne : p.1 ≠ [] := by simpa using hb
      refine dss_one (ds_append (i := 1) (P := (· = ansT (p.1.drop 1))) rfl (.inl rfl) rfl (DE.imp (dv_slice (dv_v 3) (do_some de_int) do_none s_tupA) fun d e => ?_) (by rw [sizeLine_eq]; omega) fun d e => ⟨l3 ++ [ansT (p.1.drop 1)], _, _, _, by rw [List.length_append, List.length_singleton]; omega, fun d hd => ?_, by subst e; rfl⟩)
      · rw [e]
        unfold ansT Dt.cutD
        rw [List.length_map]
        match p.1, ne with
        | i :: r, _ =>
          rw [List.map_cons]
          show D.tup (((D.int i :: r.map D.int).drop (HT.sIx (i :: r).length 0 (some 1))).take _) = _
          have e1 : HT.sIx (i :: r).length 0 (some 1) = 1 := by
            unfold HT.sIx
            simp
          have e2 : HT.sIx (i :: r).length (i :: r).length none = (i :: r).length := rfl
          rw [e1, e2]
          show D.tup ((r.map D.int).take (r.length + 1 - 1)) = D.tup (r.map D.int)
          rw [List.take_of_length_le (by simp)]
      · rcases List.mem_append.mp hd with hd | hd
        · exact hs3 d hd
        · rw [List.mem_singleton.mp hd]
          refine str0_ans (by rw [List.length_drop]; omega) (h.notKey ?_)
          rw [List.length_drop]
          have : 0 < p.1.length := List.length_pos_iff.mpr ne
          omega
    · rintro ds ⟨l, t3, t4, t5, hl5, hs, rfl⟩
      exact ⟨l, t3, t4, t5, by omega, hs, rfl⟩
    · rintro ds ⟨l, t3, t4, t5, hl5, hs, rfl⟩
      exact dss_freeze (i := 1) rfl rfl (ds_retV (dv_v 1) ⟨l, rfl, hl5, hs⟩)
end
end K31

set_option Elab.async false
set_option linter.all false
set_option maxRecDepth 100000
set_option maxHeartbeats 8000000
namespace K31
open PySem PyProof.Rows L2 Dt
/-! what no tally can be made of -/
structure BadP (CT CC : Addr) (d : D) : Prop where
  kn : KnC CT CC d
  no : cntOk CC d = false
def fr (long : Nat) : Ans := [8, 9, 11, 12].take long
theorem fr_len {long : Nat} (h : long ≤ 4) : (fr long).length = long := by
  unfold fr
  rw [List.length_take]
  simp
  omega
theorem fr_okI (long : Nat) : ∀ i ∈ fr long, okI i := fun i m => by
  have := List.mem_of_mem_take m
  unfold okI
  revert this
  simp only [List.mem_cons, List.not_mem_nil, or_false]
  omega
def ends (long : Nat) : List D := [D.bl true, .str "1", .non, .tup [.int 1], .int (10 ^ 20)].map fun d => .tup (((fr long).take 3).map .int ++ [d])
def badK (long : Nat) : List D := ends long ++ [.int 5, .str "ab", .non, .tup ((fr long ++ List.replicate (5 - long) 0).map .int)]
def numsOf : List NestedKey → Option Ans
  | [] => some []
  | .num i :: ks => (numsOf ks).map (i :: ·)
  | _ :: _ => none
theorem numsOf_num : ∀ a : Ans, numsOf (a.map .num) = some a
  | [] => rfl
  | i :: a => by
    rw [List.map_cons, numsOf, numsOf_num a]
    rfl
def ansOf : NestedKey → Option Ans
  | .tup ks => numsOf ks
  | _ => none
def okE (k : NestedKey) (p : PyData) : Bool := match ansOf k with
  | some a => PyData.eqv (pyA a) p
  | none => true
theorem okE_of {k : NestedKey} {p : PyData} (h : okE k p = true) (a : Ans) (e : k = .tup (a.map .num)) : PyData.eqv (pyA a) p = true := by
  subst e
  have e : okE (.tup (a.map .num)) p = PyData.eqv (pyA a) p := by
    unfold okE
    rw [show ansOf (.tup (a.map .num)) = some a from numsOf_num a]
  rw [← e]
  exact h
/-- a key that is no answer -/
structure BKey (q : D) (k : NestedKey) (p : PyData) : Prop where
  ans : ansD q = false
  kn : ∀ CT CC, KnT [CT, CC] q
  nk : q.nk = some k
  py : q.py = some p
  dp : k.depth ≤ 8
  sh : SeqAt.shaped p = true
  ex : okE k p = true
theorem badK_ok : ∀ long ≤ 4, ∀ q ∈ badK long, ∃ k p, BKey q k p := fun long hl q m => by
  have h : long = 0 ∨ long = 1 ∨ long = 2 ∨ long = 3 ∨ long = 4 := by omega
  unfold badK ends at m
  simp only [List.map_cons, List.map_nil, List.cons_append, List.nil_append, List.mem_cons, List.not_mem_nil, or_false] at m
  rcases h with rfl | rfl | rfl | rfl | rfl <;> rcases m with rfl | rfl | rfl | rfl | rfl | rfl | rfl | rfl | rfl <;>
  first
  | exact ⟨_, _, by decide +kernel, fun CT CC => knT_tup (by decide) (by simp [kc, fr]), rfl, rfl, by decide +kernel, by decide +kernel, by decide +kernel⟩
  | exact ⟨_, _, by decide +kernel, fun CT CC => knT_flat rfl (fun _ e => by cases e), rfl, rfl, by decide +kernel, by decide +kernel, by decide +kernel⟩
/-- a dict of answers and data -/
theorem bad_dic {CT CC : Addr} {xs : List (List L2.Key × D)} (hn : (xs.map (·.1)).Nodup) (hl : xs.length ≤ 1000) (hk : ∀ x ∈ xs, x.1.length ≤ 1000) (hv : ∀ x ∈ xs, kc [CT, CC] x.2 = true) (hb : (∃ x ∈ xs, numOk x.2 = false) ∨ (∃ x ∈ xs, ∃ y ∈ xs, x.1.length ≠ y.1.length)) : BadP CT CC (.dic (xs.map (·.1)) (xs.map (·.2))) := by
  refine ⟨⟨⟨rfl, fun _ e => (by cases e), fun ks es e => ?_⟩, fun e => (by cases e)⟩, ?_⟩
  · cases e
    refine ⟨by rw [List.length_map]; exact hl, by rw [List.length_map, List.length_map], hn, fun k m => ?_, fun e m => ?_⟩
    · obtain ⟨x, hx, rfl⟩ := List.mem_map.mp m
      exact hk x hx
    · obtain ⟨x, hx, rfl⟩ := List.mem_map.mp m
      exact hv x hx
  · show (false || false || ((xs.map (·.1)).all (fun k => ansD (kD k)) && (xs.map (·.2)).all numOk && decide (diffs ((xs.map (·.1)).map fun k => (k.length : Int)) ≤ 1))) = false
    rw [Bool.eq_false_iff]
    intro z
    simp only [Bool.false_or, Bool.and_eq_true, List.all_eq_true, decide_eq_true_eq] at z
    rcases hb with ⟨x, hx, e⟩ | ⟨x, hx, y, hy, e⟩
    · rw [z.1.2 x.2 (List.mem_map.mpr ⟨x, hx, rfl⟩)] at e
      cases e
    · have := diffs_two (ns := (xs.map (·.1)).map fun k => (k.length : Int)) (x := (x.1.length : Int)) (y := (y.1.length : Int)) (by rw [List.map_map]; exact List.mem_map.mpr ⟨x, hx, rfl⟩) (by rw [List.map_map]; exact List.mem_map.mpr ⟨y, hy, rfl⟩) (by omega)
      omega
theorem bad_mix {CT CC : Addr} {ks : List D} (hl : ks.length ≤ 1000) (hk : ∀ k ∈ ks, KnT [CT, CC] k) (hb : ∃ k ∈ ks, ansD k = false) : BadP CT CC (.mix ks) :=
  ⟨⟨⟨rfl, fun _ e => (by cases e; exact ⟨hl, hk, hb⟩), fun _ _ e => (by cases e)⟩, fun e => (by cases e)⟩, rfl⟩
end K31

set_option Elab.async false
set_option linter.all false
set_option maxRecDepth 100000
set_option maxHeartbeats 8000000
namespace K31
open PySem PyProof.Rows L2 Dt
theorem cut_to {xs : List D} {n : Nat} : Dt.cutD xs none (some (n : Int)) = xs.take n := by
  unfold Dt.cutD
  rw [HT.sIx_nat, HT.sIx_none, List.drop_zero, Nat.sub_zero]
  rcases Nat.le_total n xs.length with h | h
  · rw [Nat.min_eq_left h]
  · rw [Nat.min_eq_right h, List.take_of_length_le (Nat.le_refl _), List.take_of_length_le h]
theorem cut_from {xs : List D} {n : Nat} : Dt.cutD xs (some (n : Int)) none = xs.drop n := by
  unfold Dt.cutD
  rw [HT.sIx_nat, HT.sIx_none]
  rcases Nat.le_total n xs.length with h | h
  · rw [Nat.min_eq_left h, List.take_of_length_le (by rw [List.length_drop]; exact Nat.le_refl _)]
  · rw [Nat.min_eq_right h, Nat.sub_self, List.take_zero, List.drop_eq_nil_of_le h]
theorem nd_mid {α : Type} {l r : List α} {x : α} (h : (l ++ r).Nodup) (n : x ∉ l ++ r) : (l ++ [x] ++ r).Nodup := by
  rw [List.append_assoc, List.singleton_append]
  exact (List.perm_middle.nodup_iff).mpr (List.nodup_cons.mpr ⟨n, h⟩)
theorem app_mid {α β : Type} {f : α → β} {xs : List α} {x : α} (i : Nat) : ((xs.map f).take i ++ [f x] ++ (xs.map f).drop i) = (xs.take i ++ [x] ++ xs.drop i).map f := by
  rw [List.map_append, List.map_append, List.map_take, List.map_drop]
  rfl
theorem len_mid {α : Type} {xs : List α} {x : α} (i : Nat) : (xs.take i ++ [x] ++ xs.drop i).length = xs.length + 1 := by
  rw [List.append_assoc, List.length_append, List.length_append, List.length_take, List.length_drop, List.length_singleton]
  omega
theorem mem_mid {α : Type} {xs : List α} {x y : α} (i : Nat) : y ∈ xs.take i ++ [x] ++ xs.drop i ↔ y = x ∨ y ∈ xs := by
  constructor
  · intro h
    rcases List.mem_append.mp h with h | h
    · rcases List.mem_append.mp h with h | h
      · exact .inr (List.mem_of_mem_take h)
      · exact .inl (List.mem_singleton.mp h)
    · exact .inr (List.mem_of_mem_drop h)
  · rintro (rfl | h)
    · exact List.mem_append_left _ (List.mem_append_right _ List.mem_cons_self)
    · rw [← List.take_append_drop i xs] at h
      rcases List.mem_append.mp h with h | h
      · exact List.mem_append_left _ (List.mem_append_left _ h)
      · exact List.mem_append_right _ h
theorem nd_ins {α β : Type} {f : α → β} {xs : List α} {x : α} (i : Nat) (h : (xs.map f).Nodup) (n : f x ∉ xs.map f) : ((xs.take i ++ [x] ++ xs.drop i).map f).Nodup := by
  rw [← app_mid]
  exact nd_mid (by rw [List.take_append_drop]; exact h) (by rw [List.take_append_drop]; exact n)
/-- whatever the place of q among ps, the dict of them makes no tally -/
def Fin (CT CC : Addr) (ps : List D) (q : D) : Prop := ∀ (X : Cx) (c : Fx) (i : Nat), X.calm = true → X.A.units + 10 < cLine → CallD X (.type "dict") c [.lst (ps.take i ++ [q] ++ ps.drop i)] (BadP CT CC)
def prA (p : Ans × Int) : D × D := (ansT p.1, .int p.2)
def prN (p : Ans × Int) : List L2.Key × D := (kI p.1, .int p.2)
theorem prA_eq (p : Ans × Int) : pr2 (prA p) = prD p := rfl
theorem prN_eq (p : Ans × Int) : Dt.pairD (prN p) = prD p := by
  show D.tup [kD (kI p.1), .int p.2] = _
  rw [kD_kI]
  rfl
theorem nk_ans (a : Ans) : (ansT a).nk = some (.tup (a.map .num)) := by
  have e : D.nkAll (a.map D.int) = some (a.map .num) := D.nkAll_map (fun i => rfl) a
  show (D.nkAll (a.map D.int)).map NestedKey.tup = _
  rw [e]
  rfl
theorem dp_nums : ∀ a : Ans, NestedKey.depthAll (a.map .num) = 0
  | [] => rfl
  | i :: a => by
    rw [List.map_cons, NestedKey.depthAll, dp_nums a]
    rfl
section
variable {CT CC : Addr} {m : Tm}
theorem fin_mix {q x : D} {k : NestedKey} {p : PyData} (h : BKey q k p) (nd : (m.map (·.1)).Nodup) (hl : m.length ≤ 999) (ha : ∀ r ∈ m, r.1.length ≤ 1000) (hn : ∀ r ∈ m, PyData.eqv (pyA r.1) p = false) : Fin CT CC (m.map prD) (.tup [q, x]) := fun X c i hc hu => by
  have e1 : m.map prD = (m.map prA).map pr2 := by rw [List.map_map]; rfl
  have e2 : D.tup [q, x] = pr2 (q, x) := rfl
  rw [e1, e2, app_mid]
  have ek : D.nkAll (((m.map prA).take i ++ [(q, x)] ++ (m.map prA).drop i).map (·.1)) = some (((m.map fun r : Ans × Int => NestedKey.tup (r.1.map .num)).take i ++ [k] ++ (m.map fun r : Ans × Int => NestedKey.tup (r.1.map .num)).drop i)) := by
    have f : (m.map prA).map (·.1) = m.map fun r => ansT r.1 := by rw [List.map_map]; rfl
    rw [← app_mid, f, ← List.map_take, ← List.map_drop, ← List.map_take, ← List.map_drop]
    refine D.nkAll_app (D.nkAll_app (D.nkAll_map (fun r : Ans × Int => nk_ans r.1) _) ?_) (D.nkAll_map (fun r : Ans × Int => nk_ans r.1) _)
    rw [D.nkAll, h.nk]
    rfl
  refine (c_dictM hc hu ek ?_ ?_).imp fun d e => ?_
  · have key : ((m.map fun r : Ans × Int => NestedKey.tup (r.1.map .num))).Nodup := by
      have z : ((m.map (·.1)).map fun a : Ans => NestedKey.tup (a.map .num)).Nodup := nd.map _ fun a b n y => n (by
        injection y with y
        exact map_inj (fun a b z => by injection z) a b y)
      rw [List.map_map] at z
      exact z
    refine nd_mid (by rw [List.take_append_drop]; exact key) ?_
    rw [List.take_append_drop]
    intro z
    obtain ⟨r, hr, e⟩ := List.mem_map.mp z
    have := okE_of h.ex r.1 e.symm
    rw [hn r hr] at this
    cases this
  · intro k' hk'
    rcases (mem_mid i).mp hk' with rfl | hk'
    · exact h.dp
    · obtain ⟨r, hr, rfl⟩ := List.mem_map.mp hk'
      show NestedKey.depthAll _ + 1 ≤ 8
      rw [dp_nums]
      decide
  · subst e
    refine bad_mix (by rw [List.length_map, len_mid, List.length_map]; omega) (fun k' hk' => ?_) ⟨q, List.mem_map.mpr ⟨(q, x), (mem_mid i).mpr (.inl rfl), rfl⟩, h.ans⟩
    obtain ⟨y, hy, rfl⟩ := List.mem_map.mp hk'
    rcases (mem_mid i).mp hy with rfl | hy
    · exact h.kn CT CC
    · obtain ⟨r, hr, rfl⟩ := List.mem_map.mp hy
      exact knT_tup (by rw [List.length_map]; exact ha r hr) fun x hx => by
        obtain ⟨i, _, rfl⟩ := List.mem_map.mp hx
        rfl
theorem fin_dic {b : Ans} {x : D} (nd : (m.map (·.1)).Nodup) (nb : b ∉ m.map (·.1)) (hl : m.length ≤ 999) (ha : ∀ r ∈ m, r.1.length ≤ 1000) (hb : b.length ≤ 1000) (hx : kc [CT, CC] x = true) (hbad : numOk x = false ∨ ∃ r ∈ m, r.1.length ≠ b.length) : Fin CT CC (m.map prD) (.tup [ansT b, x]) := fun X c i hc hu => by
  have e1 : m.map prD = (m.map prN).map Dt.pairD := by
    rw [List.map_map]
    exact List.map_congr_left fun p _ => (prN_eq p).symm
  have e2 : D.tup [ansT b, x] = Dt.pairD (kI b, x) := by
    show _ = D.tup [kD (kI b), x]
    rw [kD_kI]
  have n1 : (((m.map prN).take i ++ [(kI b, x)] ++ (m.map prN).drop i).map (·.1)).Nodup := by
    have e3 : (m.map prN).map (·.1) = (m.map (·.1)).map kI := by rw [List.map_map, List.map_map]; rfl
    refine nd_ins i (by rw [e3]; exact nd.map kI fun a b z y => z (kI_inj _ _ y)) ?_
    rw [e3]
    intro z
    obtain ⟨a, h1, h2⟩ := List.mem_map.mp z
    exact nb (kI_inj _ _ h2 ▸ h1)
  rw [e1, e2, app_mid]
  refine (c_dictPN hc (by omega) n1).imp fun d e => ?_
  subst e
  refine bad_dic n1 (by rw [len_mid, List.length_map]; omega) (fun y hy => ?_) (fun y hy => ?_) ?_
  · rcases (mem_mid i).mp hy with rfl | hy
    · show (b.map _).length ≤ 1000
      rw [List.length_map]
      exact hb
    · obtain ⟨r, hr, rfl⟩ := List.mem_map.mp hy
      show (r.1.map _).length ≤ 1000
      rw [List.length_map]
      exact ha r hr
  · rcases (mem_mid i).mp hy with rfl | hy
    · exact hx
    · obtain ⟨r, hr, rfl⟩ := List.mem_map.mp hy
      rfl
  · rcases hbad with h | ⟨r, hr, h⟩
    · exact .inl ⟨_, (mem_mid i).mpr (.inl rfl), h⟩
    · refine .inr ⟨_, (mem_mid i).mpr (.inr (List.mem_map.mpr ⟨r, hr, rfl⟩)), _, (mem_mid i).mpr (.inl rfl), ?_⟩
      show (r.1.map _).length ≠ (b.map _).length
      rw [List.length_map, List.length_map]
      exact h
end
def badV : List D := [.bl true, .int (-1), .int (-(10 ^ 39)), .non, .str "1", .tup [.int 1], .lst [.int 1]]
theorem badV_ok : ∀ x ∈ badV, numOk x = false ∧ ∀ CT CC, kc [CT, CC] x = true := fun x m => by
  unfold badV at m
  simp only [List.mem_cons, List.not_mem_nil, or_false] at m
  rcases m with rfl | rfl | rfl | rfl | rfl | rfl | rfl <;> exact ⟨by decide +kernel, fun _ _ => rfl⟩
section
variable {P : Program} {w : World} {K : PySem.W.Frag} {mg : Str → Option Value} {base : Heap} {k : Nat} {f : Addr} {fd : FuncData} {CT CC : Addr} {long : Nat}
abbrev p_bad (K : PySem.W.Frag) (CT CC : Addr) (long : Nat) (m : Tm) : Sp := spD K true (fun as => ∃ a, as = [.adr a, .lst (m.map prD), .int (long : Int)]) (fun _ r => BadP CT CC r) noX
theorem t_law_bad (B : Bi mg) (C1 : ∀ n, 0 < n → n < 2 ^ 100 → Dt.Cl P w K mg base k "_law_roll" (p_roll K n) []) (C2 : ∀ xs : List D, xs ≠ [] → xs.length ≤ 1000 → Dt.Cl P w K mg base (k + 1) "_law_pick" (p_pick K xs) [])
    (F : FunOf K d__law_bad f fd) (m : Tm) (h : PrOk long m) (hl : long ≤ 4) : FnOk P w K mg base (L2.CX P w) (k + 2) f fd ["dice", "pairs", "long"] (p_bad K CT CC long m) :=
  fn_d (N := ["dice", "pairs", "long", "fresh", "way", "pair", "ends", "some", "at", "one"]) F (C8.fnScope_by rfl) (fun as ⟨a, e⟩ => by subst e; rfl) fun c as cdv A outer s E hr ⟨a, e⟩ hz => by
    subst e
    have hc : c.Di a := hz a (List.mem_singleton.mpr rfl)
    have fl := fr_len hl
    have ml := h.len
    refine dss_cons (N := fun ds => ∃ n : Int, 0 ≤ n ∧ n < 3 ∧ ds = [.val (.adr a), .val (.lst (m.map prD)), .val (.int long), .val (ansT (fr long)), .val (.int n), .no, .no, .no, .no, .no]) (ds_parC (i := 3) (j := 4) rfl (of_decide_eq_true rfl) rfl rfl (.inr rfl) (.inl rfl) (Pa := (· = ansT (fr long))) (Pb := rollOk 3) ?_ ?_ fun x y e ⟨n, e2, h1, h2⟩ => ⟨n, h1, h2, by subst e e2; rfl⟩) ?_
    · refine DE.imp (dv_slice (a := .tup (D.ints [8, 9, 11, 12])) (dv_tup (dl_cons de_int (dl_cons de_int (dl_cons de_int (dl_cons de_int da_nil)))) (by decide)) do_none (do_some (dv_v 2)) s_tupA) fun d e => ?_
      rw [e, cut_to]
      unfold ansT fr D.ints
      rw [List.map_take]
    · exact dv_callZ hc (C1 3 (by decide) (by decide)) (hr : Room (k + 1) _) (Nat.le_succ _) rfl (dl_cons (dv_v 0) (dl_cons de_int da_nil)) ⟨a, rfl⟩ fun d h => h
    rintro ds ⟨n, n0, n3, rfl⟩
    refine dss_cons (N := fun ds => ∃ x ∈ badV, ds = [.val (.adr a), .val (.lst (m.map prD)), .val (.int long), .val (ansT (fr long)), .val (.int n), .val (.tup [ansT (fr long), x]), .no, .no, .no, .no]) (ds_set (i := 5) (of_decide_eq_true rfl) rfl (.inr rfl) (P := fun d => ∃ x ∈ badV, d = .tup [ansT (fr long), x]) ?_ fun d ⟨x, h1, h2⟩ => ⟨x, h1, by subst h2; rfl⟩) ?_
    · refine DE.imp (de_tup (P := fun as => ∃ d r, as = d :: r ∧ d = ansT (fr long) ∧ ∃ d2 r2, r = d2 :: r2 ∧ d2 ∈ badV ∧ r2 = []) (da_cons (Pa := (· = ansT (fr long))) (dv_v 3) (da_cons (Pa := (· ∈ badV)) ?_ da_nil)) fun as h => ?_) fun d h => ?_
      · exact dv_callZ hc (C2 badV (by decide) (by decide)) (hr : Room (k + 1) _) (Nat.le_refl _) rfl (dl_cons (dv_v 0) (dl_cons (dv_lst (dl_cons de_bl (dl_cons (dv_bin de_int de_int o_sub) (dl_cons (dv_bin de_int (dv_bin de_int de_int (o_pow ⟨by decide, by decide, by decide⟩)) o_sub) (dl_cons de_non (dl_cons de_str (dl_cons (dv_tup (dl_cons de_int da_nil) (by simp)) (dl_cons (dv_lst (dl_cons de_int da_nil) (by simp)) da_nil))))))) (by simp)) da_nil)) ⟨a, rfl⟩ fun d h => h
      · obtain ⟨d, r, rfl, _, d2, r2, rfl, _, rfl⟩ := h
        exact small_line (by simp)
      · obtain ⟨as, rfl, d, r, rfl, rfl, d2, r2, rfl, h1, rfl⟩ := h
        exact ⟨d2, h1, rfl⟩
    rintro ds ⟨x, hx, rfl⟩
    refine dss_cons (N := fun ds => ∃ (t6 : Sl) (q v : D) (pk : PyData), q.py = some pk ∧ SeqAt.shaped pk = true ∧ ((n ≠ 1 ∧ q = ansT (fr long) ∧ v = x) ∨ (n = 1 ∧ ∃ kk, BKey q kk pk)) ∧ ds = [.val (.adr a), .val (.lst (m.map prD)), .val (.int long), .val (ansT (fr long)), .val (.int n), .val (.tup [q, v]), t6, .no, .no, .no])
      (ds_if (Pt := (· = decide (n = 1))) (db_cmp (dv_v 4) de_int o_eqI rfl) (fun hb => ?_) fun hb => dss_nil ⟨.no, ansT (fr long), x, _, py_ansT _, (shN_A _).shaped (by decide), .inl ⟨of_decide_eq_false hb.symm, rfl, rfl⟩, rfl⟩) ?_
    · have n1 := of_decide_eq_true hb.symm
      refine dss_to (ds' := [.val (.adr a), .val (.lst (m.map prD)), .val (.int long), .val (ansT (fr long)), .val (.int n), .val (.tup [ansT (fr long), x]), .val (.lst (ends long)), .no, .no, .no]) (ds_setMapA (j := 6) (i := 9) (as := [D.bl true, .str "1", .non, .tup [.int 1], .int (10 ^ 20)]) (kf := fun d => d) (fun _ _ h => h) (r := fun d => .tup (((fr long).take 3).map .int ++ [d])) rfl rfl (L2.sw_true rfl rfl rfl rfl) rfl (of_decide_eq_true rfl) rfl (di_tup (DV.to (dv_tup (dl_cons de_bl (dl_cons de_str (dl_cons de_non (dl_cons (dv_tup (dl_cons de_int da_nil) (by simp)) (dl_cons (dv_bin de_int de_int (o_pow ⟨by decide, by decide, by decide⟩)) da_nil))))) (by simp)) ⟨_, rfl, rfl⟩)) rfl rfl (fun d hd s H C cl fp => ?_) (by rw [sizeLine_eq]; simp) rfl) ?_
      · refine dv_bin (a := .tup (((fr long).take 3).map .int)) (b := .tup [d]) (DE.imp (dv_slice (dv_v 3) do_none (do_some de_int) s_tupA) fun d e => ?_) (dv_tup (dl_cons (dv_v 9) da_nil) (by simp)) (o_catT (by rw [sizeLine_eq, List.length_map, List.length_take]; simp; omega))
        rw [e, show (3 : Int) = ((3 : Nat) : Int) from rfl, cut_to, List.map_take]
      refine dss_one (ds_set (i := 5) (of_decide_eq_true rfl) rfl (.inr rfl) (P := fun d => ∃ q r, q ∈ badK long ∧ d = .tup [q, r]) ?_ fun d ⟨q, r, hq, e⟩ => ?_)
      · refine DE.imp (de_tup (P := fun as => ∃ d r, as = d :: r ∧ d ∈ badK long ∧ ∃ d2 r2, r = d2 :: r2 ∧ rollOk 3 d2 ∧ r2 = []) (da_cons (Pa := (· ∈ badK long)) ?_ (da_cons (Pa := rollOk 3) (dv_callZ hc (C1 3 (by decide) (by decide)) (hr : Room (k + 1) _) (Nat.le_succ _) rfl (dl_cons (dv_v 0) (dl_cons de_int da_nil)) ⟨a, rfl⟩ fun d h => h) da_nil)) fun as h => ?_) fun d h => ?_
        · refine dv_callZ hc (C2 (badK long) (by simp [badK, ends]) (by simp [badK, ends])) (hr : Room (k + 1) _) (Nat.le_refl _) rfl (dl_cons (dv_v 0) (dl_cons (dv_bin (a := .lst (ends long)) (b := .lst [.int 5, .str "ab", .non, .tup ((fr long ++ List.replicate (5 - long) 0).map .int)]) (dv_v 6) (dv_lst (dl_cons de_int (dl_cons de_str (dl_cons de_non (dl_cons ?_ da_nil)))) (by simp)) (o_cat (by rw [sizeLine_eq]; simp [ends]))) da_nil)) ⟨a, rfl⟩ fun d h => h
          refine dv_bin (a := ansT (fr long)) (b := .tup (List.replicate (5 - long) (D.int 0))) (dv_v 3) (dv_bin (b := .int ((5 - long : Nat) : Int)) (dv_tup (dl_cons de_int da_nil) (by simp)) (DV.cast (dv_bin de_int (dv_v 2) o_sub) (congrArg D.int (by omega))) ((o_repT (by simp) (by omega) (by simp)).imp fun d e => ?_)) ((o_catT (by rw [sizeLine_eq, List.length_map, fl, List.length_replicate]; omega)).imp fun d e => ?_)
          · rw [e]
            congr 1
            generalize 5 - long = z
            induction z with
            | zero => rfl
            | succ z ih => rw [List.replicate_succ, List.flatten_cons, ih]; rfl
          · rw [e, List.map_append, List.map_replicate]
        · obtain ⟨d, r, rfl, _, d2, r2, rfl, _, rfl⟩ := h
          exact small_line (by simp)
        · obtain ⟨as, rfl, d, r, rfl, h1, d2, r2, rfl, h2, rfl⟩ := h
          exact ⟨d, d2, h1, rfl⟩
      · obtain ⟨kk, pk, bk⟩ := badK_ok long hl q hq
        exact ⟨_, q, r, pk, bk.py, bk.sh, .inr ⟨n1, kk, bk⟩, by subst e; rfl⟩
    rintro ds ⟨t6, q, v, pk, hpy, hsh, hcase, rfl⟩
    refine dss_to (ds' := [.val (.adr a), .val (.lst (m.map prD)), .val (.int long), .val (ansT (fr long)), .val (.int n), .val (.tup [q, v]), t6, .val (.lst ((m.filter fun p => !PyData.eqv (pyA p.1) pk).map prD)), .no, .no]) (ds_setFilterA (j := 7) (i := 9) (as := m) (kf := prD) prD_inj (t := fun p => !PyData.eqv (pyA p.1) pk) (r := prD) rfl rfl (L2.sw_true rfl rfl rfl rfl) rfl (of_decide_eq_true rfl) rfl (di_list (DV.to (dv_v 1) ⟨_, rfl, rfl⟩)) rfl rfl (fun p hp s H C cl fp => db_cmp (a := ansT p.1) (b := q) (dv_ix (dv_v 9) de_int (x_tup rfl) (fun _ _ => rfl)) (dv_ix (dv_v 5) de_int (x_tup rfl) (fun _ _ => rfl)) (o_neD (rm hr 64) (py_ansT p.1) hpy ((shN_A p.1).shaped (by decide)) hsh) rfl) (fun p hp _ s H C cl fp => dv_v 9) (by rw [sizeLine_eq]; omega) rfl) ?_
    have fnd : ∀ t : Ans × Int → Bool, ((m.filter t).map (·.1)).Nodup := fun t => (List.Sublist.map _ List.filter_sublist).nodup h.nd
    have fln : ∀ t : Ans × Int → Bool, (m.filter t).length ≤ 6 := fun t => Nat.le_trans (List.length_filter_le _ _) ml
    have fal : ∀ t : Ans × Int → Bool, ∀ r ∈ m.filter t, r.1.length = long := fun t r hr => h.al r (List.mem_filter.mp hr).1
    refine dss_cons (N := fun ds => ∃ (t6 t8 t9 : Sl) (ps : List D) (q : D), ps.length ≤ 7 ∧ Fin CT CC ps q ∧ ds = [.val (.adr a), .val (.lst (m.map prD)), .val (.int long), .val (ansT (fr long)), .val (.int n), .val q, t6, .val (.lst ps), t8, t9])
      (ds_if (Pt := (· = decide (n = 2))) (db_cmp (dv_v 4) de_int o_eqI rfl) (fun hb => ?_) fun hb => dss_nil ⟨t6, .no, .no, _, _, by rw [List.length_map]; have := fln fun p => !PyData.eqv (pyA p.1) pk; omega, ?_, rfl⟩) ?_
    · have n2 := of_decide_eq_true hb.symm
      let b : Ans := if long < 4 then fr long ++ [0] else (fr long).take 2
      have bl : b.length ≤ 4 ∧ b.length ≠ long := by
        show (if long < 4 then fr long ++ [0] else (fr long).take 2).length ≤ 4 ∧ (if long < 4 then fr long ++ [0] else (fr long).take 2).length ≠ long
        split
        · rw [List.length_append, fl, List.length_singleton]; omega
        · rw [List.length_take, fl]; omega
      refine dss_cons (N := fun ds => ∃ r : Int, ds = [.val (.adr a), .val (.lst (m.map prD)), .val (.int long), .val (ansT (fr long)), .val (.int n), .val (.tup [ansT b, .int r]), t6, .val (.lst ((m.filter fun p => !PyData.eqv (pyA p.1) pk).map prD)), .no, .no]) (ds_set (i := 5) (of_decide_eq_true rfl) rfl (.inr rfl) (P := fun d => ∃ r : Int, d = .tup [ansT b, .int r]) ?_ fun d ⟨r, e⟩ => ⟨r, by subst e; rfl⟩) ?_
      · refine DE.imp (de_tup (P := fun as => ∃ d r, as = d :: r ∧ d = ansT b ∧ ∃ d2 r2, r = d2 :: r2 ∧ rollOk 2 d2 ∧ r2 = []) (da_cons (Pa := (· = ansT b)) ?_ (da_cons (Pa := rollOk 2) (dv_callZ hc (C1 2 (by decide) (by decide)) (hr : Room (k + 1) _) (Nat.le_succ _) rfl (dl_cons (dv_v 0) (dl_cons de_int da_nil)) ⟨a, rfl⟩ fun d h => h) da_nil)) fun as h => ?_) fun d h => ?_
        · refine de_ifExp (Pt := (· = decide ((long : Int) < 4))) (db_cmp (dv_v 2) de_int o_lt rfl) (fun hb => ?_) fun hb => ?_
          · have lt := of_decide_eq_true hb.symm
            have e : b = fr long ++ [0] := if_pos (by omega)
            rw [e]
            refine dv_bin (a := ansT (fr long)) (b := .tup [.int 0]) (dv_v 3) (dv_tup (dl_cons de_int da_nil) (by simp)) ((o_catT (by rw [sizeLine_eq, List.length_map, fl]; simp; omega)).imp fun d e => ?_)
            rw [e]
            unfold ansT
            rw [List.map_append]
            rfl
          · have lt := of_decide_eq_false hb.symm
            have e : b = (fr long).take 2 := if_neg (by omega)
            rw [e]
            refine DE.imp (dv_slice (dv_v 3) do_none (do_some de_int) s_tupA) fun d e => ?_
            rw [e, show (2 : Int) = ((2 : Nat) : Int) from rfl, cut_to]
            unfold ansT
            rw [List.map_take]
        · obtain ⟨d, r, rfl, _, d2, r2, rfl, _, rfl⟩ := h
          exact small_line (by simp)
        · obtain ⟨as, rfl, d, r, rfl, rfl, d2, r2, rfl, ⟨z, rfl, _⟩, rfl⟩ := h
          exact ⟨z, rfl⟩
      rintro ds ⟨r, rfl⟩
      let m2 : Tm := m.filter (fun p => !PyData.eqv (pyA p.1) (pyA (fr long))) ++ [(fr long, 1)]
      have m2l : m2.length ≤ 7 := by
        have := fln fun p => !PyData.eqv (pyA p.1) (pyA (fr long))
        show ((_ ++ _ : Tm)).length ≤ 7
        rw [List.length_append, List.length_singleton]
        omega
      have m2a : ∀ r ∈ m2, r.1.length = long := fun r hr => by
        rcases List.mem_append.mp hr with hr | hr
        · exact fal _ r hr
        · rw [List.mem_singleton.mp hr]; exact fl
      refine dss_one (ds_set (i := 7) (of_decide_eq_true rfl) rfl (.inl rfl) (P := (· = .lst (m2.map prD))) ?_ fun d e => ⟨t6, .no, .no, m2.map prD, .tup [ansT b, .int r], by rw [List.length_map]; exact m2l, ?_, by subst e; rfl⟩)
      · refine dv_bin (a := .lst ((m.filter fun p => !PyData.eqv (pyA p.1) (pyA (fr long))).map prD)) (b := .lst [prD (fr long, 1)]) (dv_filterA (i := 9) (as := m) (kf := prD) prD_inj (t := fun p => !PyData.eqv (pyA p.1) (pyA (fr long))) (r := prD) rfl (of_decide_eq_true rfl) rfl (di_list (DV.to (dv_v 1) ⟨_, rfl, rfl⟩)) rfl rfl (fun p hp s H C cl fp => db_cmp (a := ansT p.1) (b := ansT (fr long)) (dv_ix (dv_v 9) de_int (x_tup rfl) (fun _ _ => rfl)) (dv_v 3) (o_neD (rm hr 64) (py_ansT p.1) (py_ansT (fr long)) ((shN_A p.1).shaped (by decide)) ((shN_A _).shaped (by decide))) rfl) (fun p hp _ s H C cl fp => dv_v 9) (by rw [sizeLine_eq]; omega))
          (dv_lst (dl_cons (dv_tup (dl_cons (dv_v 3) (dl_cons de_int da_nil)) (by simp)) da_nil) (by simp)) ((o_cat ?_).imp fun d e => ?_)
        · rw [sizeLine_eq, List.length_map]
          have := fln fun p => !PyData.eqv (pyA p.1) (pyA (fr long))
          simp only [List.length_cons, List.length_nil]
          omega
        · rw [e]
          show _ = D.lst ((_ ++ _ : Tm).map prD)
          rw [List.map_append]
          rfl
      · refine fin_dic ?_ (fun z => ?_) (by omega) (fun r hr => by rw [m2a r hr]; omega) (by omega) rfl (.inr ⟨(fr long, 1), List.mem_append_right _ List.mem_cons_self, by show (fr long).length ≠ _; rw [fl]; exact fun z => bl.2 z.symm⟩)
        · show ((_ ++ _ : Tm).map _).Nodup
          rw [List.map_append, List.nodup_append]
          refine ⟨fnd _, by simp, fun y hy z hz e => ?_⟩
          obtain ⟨p, hp, rfl⟩ := List.mem_map.mp hy
          have hp := (List.mem_filter.mp hp).2
          rw [eqv_A] at hp
          have ez : z = fr long := by simpa using hz
          have hp : p.1 ≠ fr long := by simpa using hp
          exact hp (e.trans ez)
        · obtain ⟨p, hp, e⟩ := List.mem_map.mp z
          exact bl.2 (by rw [← e]; exact m2a p hp)
    · rcases hcase with ⟨n1, rfl, rfl⟩ | ⟨n1, kk, bk⟩
      · have ep : pk = pyA (fr long) := Option.some.inj (hpy.symm.trans (py_ansT _))
        subst ep
        obtain ⟨v1, v2⟩ := badV_ok _ hx
        refine fin_dic (fnd _) (fun z => ?_) (by have := fln fun p => !PyData.eqv (pyA p.1) (pyA (fr long)); omega) (fun r hr => by rw [fal _ r hr]; omega) (by omega) (v2 CT CC) (.inl v1)
        obtain ⟨p, hp, e⟩ := List.mem_map.mp z
        have hp := (List.mem_filter.mp hp).2
        rw [eqv_A] at hp
        have hp : p.1 ≠ fr long := by simpa using hp
        exact hp e
      · exact fin_mix bk (fnd _) (by have := fln fun p => !PyData.eqv (pyA p.1) pk; omega) (fun r hr => by rw [fal _ r hr]; omega) fun r hr => by simpa using (List.mem_filter.mp hr).2
    rintro ds ⟨t6', t8, t9, ps, q2, pl, fin, rfl⟩
    refine dss_cons (N := fun ds => ∃ i : Nat, ds = [.val (.adr a), .val (.lst (m.map prD)), .val (.int long), .val (ansT (fr long)), .val (.int n), .val q2, t6', .val (.lst ps), .val (.int i), t9]) (ds_set (i := 8) (of_decide_eq_true rfl) rfl (.inl rfl) (P := rollOk ((ps.length : Int) + 1)) (dv_callZ hc (C1 ((ps.length : Int) + 1) (by omega) (by omega)) (hr : Room (k + 1) _) (Nat.le_succ _) rfl (dl_cons (dv_v 0) (dl_cons (dv_bin (dv_callB rfl B.len rfl (dl_cons (dv_v 7) da_nil) c_lenL) de_int o_add) da_nil)) ⟨a, rfl⟩ fun d h => h) fun d ⟨i, e, h0, h1⟩ => ⟨i.toNat, by subst e; rw [Int.toNat_of_nonneg h0]; rfl⟩) ?_
    rintro ds ⟨i, rfl⟩
    refine dss_one (ds_ret (de_callTy rfl B.dict rfl (dl_cons (a := .lst (ps.take i ++ [q2] ++ ps.drop i)) (dv_bin (a := .lst (ps.take i ++ [q2])) (b := .lst (ps.drop i)) (dv_bin (a := .lst (ps.take i)) (b := .lst [q2]) (DE.imp (dv_slice (dv_v 7) do_none (do_some (dv_v 8)) s_list) fun d e => by rw [e, cut_to]) (dv_lst (dl_cons (dv_v 5) da_nil) (by simp)) (o_cat (by rw [sizeLine_eq, List.length_take]; simp; omega))) (DE.imp (dv_slice (dv_v 7) (do_some (dv_v 8)) do_none s_list) fun d e => by rw [e, cut_from]) (o_cat (by rw [sizeLine_eq, List.length_append, List.length_take, List.length_drop]; simp; omega))) da_nil) fun as e => by subst e; exact fin _ _ i rfl (rm hr 10)))
end
end K31

set_option Elab.async false
set_option linter.all false
set_option maxRecDepth 100000
set_option maxHeartbeats 8000000
namespace K31
open PySem PyProof.Rows L2 Dt
/-! a tally of a dict that is changed later -/
theorem nodA (as : List Ans) : D.nodAll (as.map ansT) = true := by
  have hints : ∀ a : List Int, D.nodAll (a.map D.int) = true := fun a => by
    induction a with
    | nil => rfl
    | cons i a ih => rw [List.map_cons, D.nodAll, ih]; rfl
  induction as with
  | nil => rfl
  | cons a as ih =>
    rw [List.map_cons, D.nodAll, ih]
    show (D.nodAll (a.map D.int) && true) = true
    rw [hints]
    rfl
theorem nodI (a : List Int) : D.nodAll (a.map D.int) = true := by
  induction a with
  | nil => rfl
  | cons i a ih => rw [List.map_cons, D.nodAll, ih]; rfl
section
variable {P : Program} {w : World} {K : PySem.W.Frag} {mg : Str → Option Value} {base : Heap} {k : Nat} {f : Addr} {fd : FuncData} {CT CC CI CO : Addr}
abbrev p_TallyH (K : PySem.W.Frag) (CT : Addr) (m : Tm) : Sp := spIh K CT (· = [dicN m]) (fun _ r => r = talD CT (tallyOf m))
theorem t_TallyH (B : Bi mg) (O : Ow P K mg CT CC CI CO) (C1 : Dt.Cl P w K mg base (k + 2) "counts_in" (p_counts_in K CT CC CI) []) (F : FunOf K d_Tally_init f fd) (m : Tm) (kn : KnC CT CC (dicN m)) (hok : cntOk CC (dicN m) = true) (tw : Tw m) : FnOk P w K mg base (L2.CX P w) (k + 3) f fd ["self", "counts"] (p_TallyH K CT m) :=
  fn_iH (N := ["self", "counts", "told", "answer"]) F (C8.fnScope_by rfl) (fun as e => by subst e; rfl) fun x0 c as cdv A outer s H E hr e hz => by
    subst e
    refine dsF_to (ds' := [.obj x0 CT [] [], .val (dicN m), .val (dicN m), .no]) (ds_set (i := 2) (of_decide_eq_true rfl) rfl (.inr rfl) (de_callX (E := EF) C1 (hr : Room (k + 2) _) (Nat.le_refl _) rfl passF (dl_cons (dv_v 1) da_nil) ⟨dicN m, rfl, kn⟩ rfl fun H' hk l => by
      have hk : cntOk CC (dicN m) = false := hk
      rw [hok] at hk
      cases hk) fun r hr => ?_) ?_
    · obtain ⟨h1, rfl⟩ := hr
      rfl
    refine dsF_to (ds' := [.obj x0 CT ["own_answers"] [.tup ((sortA (posA m)).map ansT)], .val (dicN m), .val (dicN m), .no]) (ds_fldNew (i := 0) rfl (.inl rfl) rfl (P := (· = .tup ((sortA (posA m)).map ansT))) ?_ O.clT O.na1 (by decide) (by decide) fun d' z => by subst z; rfl) (DSsF.imp (dsF_fldDict (i := 0) (ks := (sortA (posA m)).map kI) (os := (sortA (posA m)).map fun a => .int (numAt m a)) rfl (.inl rfl) rfl ?_ ?_ ?_ O.clT O.na2 (by decide) (by decide)) fun H hH g kvs hg nz => ⟨_, ?_, hH g kvs hg nz⟩)
    · refine dv_callTy rfl B.tuple rfl (dl_cons (dv_callB rfl B.sorted rfl (dl_cons (de_lock (i := 2) rfl fun c' _ => dv_filterA (i := 3) (as := m.map (·.1)) (kf := ansT) (t := fun a => decide (0 < numAt m a)) (r := ansT) ansT_inj rfl (of_decide_eq_true rfl) rfl ((di_K 2).imp fun es e => ?_) rfl rfl (fun a ha s H C cl fp => ?_) (fun a ha ht s H C cl fp => ?_) ?_) da_nil) (c_sortA (rm hr 64) ?_)) da_nil) c_tupL
      · rw [e, List.map_map, List.map_map]
        exact List.map_congr_left fun p _ => kD_kI p.1
      · refine db_cmp (dv_dget (rm hr 1) (dv_L 2) (DV.cast (dv_v 3) (kD_kI a).symm) (d := .int (numAt m a)) ?_) de_int (o_gt.imp fun d e => e) rfl
        rw [look_dicN, look_mem ha]
        rfl
      · exact dv_v 3
      · have := tw.len
        rw [sizeLine_eq, List.length_map]
        omega
      · rcases tw.one with h | h
        · exact .inl (Nat.le_trans (posA_len m) h)
        · exact .inr h
    · refine dn_dcA (i := 3) (as := sortA (posA m)) (kf0 := ansT) (kf := kI) (vf := fun a => .int (numAt m a)) ansT_inj (rm hr 0) rfl (of_decide_eq_true rfl) rfl (di_tup (DV.to (dv_fldOwn (i := 0) (j := 0) rfl (.inl rfl) rfl rfl O.clT O.na1 (fun vs hl => match vs, hl with | [_], _ => rfl) rfl) ⟨_, rfl, rfl⟩)) rfl rfl (fun a ha s H C cl fp => ?_) (fun a ha s H C cl fp => ?_) ?_ ?_
      · exact DV.cast (dv_v 3) (kD_kI a).symm
      · refine dv_dget (rm hr 1) (dv_v 2) (DV.cast (dv_v 3) (kD_kI a).symm) ?_
        rw [look_dicN, look_mem (sortA_mem ha)]
        rfl
      · exact (posA_nd tw).map _ fun a b h z => h (kI_inj _ _ z)
      · rw [sizeLine_eq, (sortA_perm _).length_eq]
        have := tw.len
        have := posA_len m
        omega
    · show (D.nodAll ((sortA (posA m)).map ansT) && true) = true
      rw [nodA]
      rfl
    · have e : ((sortA (posA m)).map fun a => D.int (numAt m a)) = ((sortA (posA m)).map (numAt m)).map D.int := by rw [List.map_map]; rfl
      rw [e]
      exact nodI _
    · unfold talD ansL tallyOf dicN D.ints
      rw [List.map_map, List.map_map, List.map_map, List.map_map]
      rfl
end
/-! plain facts -/
theorem numAt_lk {m : Tm} {a : Ans} {n : Int} (h : m.lookup a = some n) : numAt m a = n := by
  unfold numAt
  rw [h]
  rfl
theorem perm_num {m m' : Tm} (h : (m.map (·.1)).Nodup) (p : m'.Perm m) (a : Ans) : numAt m' a = numAt m a := by
  have h' : (m'.map (·.1)).Nodup := (p.map (·.1)).nodup_iff.mpr h
  by_cases z : a ∈ m'.map (·.1)
  · obtain ⟨q, hq, rfl, e⟩ := numAt_in z
    rw [e, numAt_mem h (p.mem_iff.mp hq)]
  · rw [numAt_out z, numAt_out fun y => z ((p.map (·.1)).mem_iff.mpr y)]
theorem perm_tally {m m' : Tm} (h : (m.map (·.1)).Nodup) (p : m'.Perm m) : tallyOf m' = tallyOf m := tally_same ((p.map (·.1)).nodup_iff.mpr h) h (perm_num h p)
theorem PrOk.perm {long : Nat} {m m' : Tm} (h : PrOk long m) (p : m'.Perm m) : PrOk long m' := ⟨(p.map (·.1)).nodup_iff.mpr h.nd, by rw [p.length_eq]; exact h.len, fun q hq => h.al q (p.mem_iff.mp hq), fun q hq => h.ai q (p.mem_iff.mp hq), fun q hq => h.nu q (p.mem_iff.mp hq)⟩
theorem tal_pos {m : Tm} : ∀ p ∈ tallyOf m, 0 < p.2 := fun p hp => by
  obtain ⟨a, ha, rfl⟩ := List.mem_map.mp hp
  exact mem_posA.mp (mem_sortA.mp ha)
theorem tally_tally {m : Tm} (h : (m.map (·.1)).Nodup) (nn : ∀ p ∈ m, 0 ≤ p.2) : tallyOf (tallyOf m) = tallyOf m := tally_same (nd_tally h) h fun a => numAt_tallyN nn a
theorem lk_tally {m : Tm} (h : (m.map (·.1)).Nodup) {p : Ans × Int} (hp : p ∈ m) : ((tallyOf m).lookup p.1).isSome = decide (0 < p.2) := by
  by_cases z : p.1 ∈ (tallyOf m).map (·.1)
  · rw [look_mem z]
    have : p.1 ∈ posA m := by
      rw [keys_tally] at z
      exact mem_sortA.mp z
    have := mem_posA.mp this
    rw [numAt_mem h hp] at this
    simpa using this
  · rw [lookup_no z]
    rw [keys_tally, mem_sortA, mem_posA, numAt_mem h hp] at z
    simpa using z
theorem sum_tally {m : Tm} (h : (m.map (·.1)).Nodup) : (((m.map (·.1)).map (numAt m))).sum = (m.map (·.2)).sum := by
  rw [List.map_map]
  exact congrArg List.sum (List.map_congr_left fun p hp => numAt_mem h hp)
/-- the tally with one number changed -/
def bI (b : Bool) : Int := if b then 1 else 0
def more1 (q : Ans × Int) (i : Nat) : Int := q.2 + bI (decide ((i : Int) = 0)) * (1 - 2 * bI (decide (1 < q.2)))
def moreM (t : Tm) : Tm := t.zipIdx.map fun q => (q.1.1, more1 q.1 q.2)
theorem more_keys (t : Tm) : (moreM t).map (·.1) = t.map (·.1) := by
  unfold moreM
  rw [List.map_map]
  have : ∀ (t : Tm) (n : Nat), (t.zipIdx n).map (fun q : (Ans × Int) × Nat => q.1.1) = t.map (·.1) := fun t => by
    induction t with
    | nil => exact fun _ => rfl
    | cons p t ih => exact fun n => by rw [List.zipIdx_cons, List.map_cons, List.map_cons, ih]
  exact this t 0
theorem more1_nn {q : Ans × Int} {i : Nat} (h : 0 < q.2) : 0 ≤ more1 q i ∧ (q.2 < 10 ^ 40 → more1 q i < 10 ^ 40) := by
  unfold more1 bI
  by_cases h1 : (i : Int) = 0 <;> by_cases h2 : 1 < q.2 <;> simp [h1, h2] <;> omega
theorem more_ct {long L : Nat} {t : Tm} (h : Ct long L (10 ^ 40) t) (hp : ∀ p ∈ t, 0 < p.2) : Ct long L (10 ^ 40) (moreM t) := by
  have ks : ∀ p ∈ moreM t, p.1 ∈ t.map (·.1) := fun p hp => by
    rw [← more_keys t]
    exact List.mem_map.mpr ⟨p, hp, rfl⟩
  have at_ : ∀ p ∈ moreM t, ∃ q ∈ t, ∃ i, p.2 = more1 q i := fun p hp => by
    unfold moreM at hp
    obtain ⟨q, hq, rfl⟩ := List.mem_map.mp hp
    exact ⟨q.1, List.fst_mem_of_mem_zipIdx hq, q.2, rfl⟩
  refine ⟨by rw [more_keys]; exact h.nd, ?_, fun p hp => (h.keyL (ks p hp)).1, fun p hp => (h.keyL (ks p hp)).2, fun p hp' => ?_, fun p hp' => ?_⟩
  · unfold moreM
    rw [List.length_map, List.length_zipIdx]
    exact h.len
  · obtain ⟨q, hq, i, e⟩ := at_ p hp'
    rw [e]
    exact (more1_nn (hp q hq)).1
  · obtain ⟨q, hq, i, e⟩ := at_ p hp'
    rw [e]
    exact (more1_nn (hp q hq)).2 (h.nb q hq)
theorem more_ne {long L : Nat} {t : Tm} (h : Ct long L (10 ^ 40) t) (hp : ∀ p ∈ t, 0 < p.2) : eqM t (tallyOf (moreM t)) = t.isEmpty := by
  cases t with
  | nil => decide +kernel
  | cons p r =>
    show _ = false
    rw [← Bool.not_eq_true, eqM_iff]
    rintro ⟨_, z⟩
    have z := numAt_lk (z p List.mem_cons_self)
    have c := more_ct h hp
    rw [numAt_tallyN c.nn] at z
    have e : numAt (moreM (p :: r)) p.1 = more1 p 0 := numAt_mem (p := (p.1, more1 p 0)) c.nd List.mem_cons_self
    rw [e] at z
    have h0 := hp p List.mem_cons_self
    revert z
    unfold more1 bI
    by_cases h2 : 1 < p.2 <;> simp [h2] <;> omega
theorem odd_no {CT CC : Addr} (ne : CT ≠ CC) {d : D} (h1 : kc [CT, CC] d = true) (h2 : ∀ ks, d ≠ .mix ks) (h3 : ∀ ks es, d ≠ .dic ks es) (h4 : d ≠ .non) (h5 : isO CC d = false) : BadP CT CC d := by
  refine ⟨⟨⟨h1, fun ks e => (h2 ks e).elim, fun ks es e => (h3 ks es e).elim⟩, fun e => by rw [h5] at e; cases e⟩, ?_⟩
  unfold cntOk
  rw [h5]
  cases d with
  | non => exact (h4 rfl).elim
  | dic ks es => exact (h3 ks es rfl).elim
  | _ => rfl
def oddV (CT : Addr) (m t : Tm) : List D := [.lst (m.map prD), .tup (m.map prD), .int 0, .str "none", .tup [], .lst [], .bl true, .bl false, talD CT t, .lst [dicN m], .str "", .int 5]
theorem oddV_bad {CT CC : Addr} (ne : CT ≠ CC) (m t : Tm) : ∀ d ∈ oddV CT m t, BadP CT CC d := fun d hd => by
  unfold oddV at hd
  simp only [List.mem_cons, List.not_mem_nil, or_false] at hd
  rcases hd with rfl | rfl | rfl | rfl | rfl | rfl | rfl | rfl | rfl | rfl | rfl | rfl
  case _ => exact odd_no ne rfl (fun _ e => by cases e) (fun _ _ e => by cases e) (fun e => by cases e) rfl
  case _ => exact odd_no ne rfl (fun _ e => by cases e) (fun _ _ e => by cases e) (fun e => by cases e) rfl
  case _ => exact odd_no ne rfl (fun _ e => by cases e) (fun _ _ e => by cases e) (fun e => by cases e) rfl
  case _ => exact odd_no ne rfl (fun _ e => by cases e) (fun _ _ e => by cases e) (fun e => by cases e) rfl
  case _ => exact odd_no ne rfl (fun _ e => by cases e) (fun _ _ e => by cases e) (fun e => by cases e) rfl
  case _ => exact odd_no ne rfl (fun _ e => by cases e) (fun _ _ e => by cases e) (fun e => by cases e) rfl
  case _ => exact odd_no ne rfl (fun _ e => by cases e) (fun _ _ e => by cases e) (fun e => by cases e) rfl
  case _ => exact odd_no ne rfl (fun _ e => by cases e) (fun _ _ e => by cases e) (fun e => by cases e) rfl
  case _ => exact odd_no ne (decide_eq_true (by simp)) (fun _ e => by cases e) (fun _ _ e => by cases e) (fun e => by cases e) (decide_eq_false ne)
  case _ => exact odd_no ne rfl (fun _ e => by cases e) (fun _ _ e => by cases e) (fun e => by cases e) rfl
  case _ => exact odd_no ne rfl (fun _ e => by cases e) (fun _ _ e => by cases e) (fun e => by cases e) rfl
  case _ => exact odd_no ne rfl (fun _ e => by cases e) (fun _ _ e => by cases e) (fun e => by cases e) rfl
/-! sorted pairs, in data -/
theorem c_sortP {X : Cx} {c : Fx} (hu : X.A.units + 64 < cLine) (m : Tm) : CallD X (.builtin "sorted") c [.lst (m.map prD)] (· = .lst ((m.mergeSort (PySem.W.dataLe false pyP)).map prD)) := by
  have e1 : m.map prD = (m.map fun p => (prD p, pyP p)).map (·.1) := by rw [List.map_map]; rfl
  have e2 : (m.map fun p => (prD p, pyP p)).map (·.2) = m.map pyP := by rw [List.map_map]; rfl
  rw [e1]
  refine (c_sort hu (fun p hp => ?_) ?_ ?_ fun p hp => ?_).imp fun d z => ?_
  · obtain ⟨a, _, rfl⟩ := List.mem_map.mp hp
    exact py_prD a
  · rw [e2]
    refine PySem.W.AllAlike.of fun a b => ?_
    unfold pyP PySem.W.alike
    unfold PySem.W.alikeAll
    rw [alike_P a b]
    rfl
  · rw [e2]
    refine .inl fun d hd => ?_
    obtain ⟨a, ha, rfl⟩ := List.mem_map.mp hd
    exact ⟨_, _, rfl⟩
  · obtain ⟨a, _, rfl⟩ := List.mem_map.mp hp
    unfold pyP PyData.depth PyData.depthAll
    have h1 := depth_all a.1
    have h2 : (pyA a.1).depth ≤ 2 := by unfold pyA PyData.depth; omega
    have h3 : PyData.depthAll [PyData.int a.2] ≤ 1 := depth_all [a.2]
    omega
  · rw [z]
    unfold sortDs
    have e := List.map_mergeSort (r := PySem.W.dataLe false pyP) (s := PySem.W.dataLe false fun x : D × PyData => x.2) (f := fun a => (prD a, pyP a)) (l := m) (fun a _ b _ => rfl)
    rw [← e, List.map_map]
    rfl
end K31

set_option Elab.async false
set_option linter.all false
set_option maxRecDepth 100000
set_option maxHeartbeats 16000000
namespace K31
open PySem PyProof.Rows L2 Dt
section
variable {P : Program} {w : World} {K : PySem.W.Frag} {mg : Str → Option Value} {base : Heap} {k : Nat} {f : Addr} {fd : FuncData} {CT CC CI CO : Addr}
def dicS (m : Tm) : Sl := .dic (m.map fun p => kI p.1) (D.ints (m.map (·.2)))
theorem prN_keys (m : Tm) : (m.map prN).map (·.1) = m.map fun p => kI p.1 := by rw [List.map_map]; rfl
theorem prN_vals (m : Tm) : (m.map prN).map (·.2) = D.ints (m.map (·.2)) := by unfold D.ints; rw [List.map_map, List.map_map]; rfl
theorem prN_map (m : Tm) : (m.map prN).map Dt.pairD = m.map prD := by
  rw [List.map_map]
  exact List.map_congr_left fun p _ => prN_eq p
theorem prN_nd {m : Tm} (h : (m.map (·.1)).Nodup) : ((m.map prN).map (·.1)).Nodup := by
  have e : (m.map prN).map (·.1) = (m.map (·.1)).map kI := by rw [List.map_map, List.map_map]; rfl
  rw [e]
  exact h.map kI fun a b z y => z (kI_inj _ _ y)
abbrev p_refused (K : PySem.W.Frag) (CT CC : Addr) : Sp := spD K false (fun as => ∃ d, as = [d] ∧ BadP CT CC d) (fun _ r => r = .bl true) noX
abbrev p_right (K : PySem.W.Frag) : Sp := spD K true (fun as => ∃ a, as = [.adr a]) (fun _ r => r = .bl true) noX
theorem py_told {m : Tm} {n s : Int} {b : Bool} {x : Str} : (D.lst [.lst (ansL m), .int n, .bl b, .int s, .str x]).py = some (.list [.list ((m.map (·.1)).map pyA), .int n, .bool b, .int s, .str x]) := by
  have e : (D.lst (ansL m)).py = some (.list ((m.map (·.1)).map pyA)) := by
    unfold ansL
    have : m.map (fun p => ansT p.1) = (m.map (·.1)).map ansT := by rw [List.map_map]; rfl
    rw [this]
    exact py_lst fun a _ => py_ansT a
  show (D.pyAll [D.lst (ansL m), .int n, .bl b, .int s, .str x]).map PyData.list = _
  unfold D.pyAll
  rw [e]
  rfl
theorem shw_told {long : Nat} {m : Tm} (h : Ct long 6 (10 ^ 40) m) (hl : long ≤ 4) {n s : Int} {b : Bool} {x : Str} (hn : n.natAbs < 10 ^ 100) (hs : s.natAbs < 10 ^ 100) (hx : okS x) (lx : x.length ≤ 30200) : Shw 1600000 4 (.list [.list ((m.map (·.1)).map pyA), .int n, .bool b, .int s, .str x]) := by
  refine (shw_list (n := 302002) (d := 3) fun y hy => ?_).le (by simp) (Nat.le_refl _)
  simp only [List.mem_cons, List.not_mem_nil, or_false] at hy
  rcases hy with rfl | rfl | rfl | rfl | rfl
  · refine (shw_list (n := 520) (d := 2) fun z hz => ?_).le ?_ (Nat.le_refl _)
    · obtain ⟨a, ha, rfl⟩ := List.mem_map.mp hz
      exact shw_A (by rw [(h.keyL ha).1]; omega) fun i hi => lt100 (nat20 ((h.keyL ha).2 i hi)) (by decide)
    · rw [List.length_map, List.length_map]
      have := h.len
      have : m.length * (520 + 2) ≤ 6 * 522 := Nat.mul_le_mul_right _ this
      omega
  · exact (shw_int (k := 100) (by decide) hn (log_of hn)).le (by decide) (by decide)
  · exact shw_bl.le (by decide) (by decide)
  · exact (shw_int (k := 100) (by decide) hs (log_of hs)).le (by decide) (by decide)
  · exact (shw_str hx).le (by omega) (by decide)
theorem py_two {n : Int} {b : Bool} : (D.lst [.int n, .bl b]).py = some (.list [.int n, .bool b]) := rfl
theorem shw_two {n : Int} {b : Bool} (hn : n.natAbs < 10 ^ 100) : Shw 300 2 (.list [.int n, .bool b]) := by
  refine (shw_list (n := 101) (d := 1) fun y hy => ?_).le (by simp) (Nat.le_refl _)
  simp only [List.mem_cons, List.not_mem_nil, or_false] at hy
  rcases hy with rfl | rfl
  · exact shw_int (by decide) hn (log_of hn)
  · exact shw_bl.le (by decide) (Nat.le_refl _)
theorem nil_shown : (PyData.list [.int 0, .bool false]).shown = "[0, False]" := by decide +kernel
theorem t_law_right (B : Bi mg) (O : Ow P K mg CT CC CI CO) (T : Top P w K mg base k CT CC CI CO) (M : Mk2 P w K mg base (k + 1) CT CC CI) (MH : ∀ m : Tm, KnC CT CC (dicN m) → cntOk CC (dicN m) = true → Tw m → Mkr P w K mg base (k + 1) "Tally" CT (p_TallyH K CT m) [])
    (C1 : ∀ n, 0 < n → n < 2 ^ 100 → Dt.Cl P w K mg base (k + 2) "_law_roll" (p_roll K n) []) (C2 : ∀ long : Nat, long ≤ 4 → Dt.Cl P w K mg base (k + 2) "_law_pairs" (p_pairs K long) []) (C3 : ∀ m : Tm, m.length ≤ 1000 → Dt.Cl P w K mg base (k + 2) "_law_mixed" (p_mixed K m) [])
    (C4 : ∀ m, shP m → Dt.Cl P w K mg base (k + 2) "_law_text" (spV K [.lst (m.map prD)] (.str (lawText m))) []) (C5 : ∀ (long : Nat) (m : Tm), Ct long 6 (10 ^ 40) m → long ≤ 4 → ClG P w K mg base (k + 2) "_law_strange" (p_strange K CT CC m) []) (C6 : ∀ xs : List D, xs ≠ [] → xs.length ≤ 1000 → Dt.Cl P w K mg base (k + 2) "_law_pick" (p_pick K xs) [])
    (C7 : Dt.Cl P w K mg base (k + 2) "_law_refused" (p_refused K CT CC) []) (Cb : ∀ (long : Nat) (m : Tm), PrOk long m → long ≤ 4 → Dt.Cl P w K mg base (k + 2) "_law_bad" (p_bad K CT CC long m) [])
    (F : FunOf K d__law_right f fd) : FnG P w K mg base (L2.CX P w) (k + 3) f fd ["dice"] (p_right K) :=
  fn_dG (N := ["dice", "long", "pairs", "given", "tally", "due", "told", "total", "answer", "number", "more", "odd", "pair", "value", "at"]) F (C8.fnScope_by rfl) (fun as ⟨a, e⟩ => by subst e; rfl) fun c as cdv A outer s E hr gd ⟨a, e⟩ hz hT => by
    subst e
    have hc : c.Di a := hz a (List.mem_singleton.mpr rfl)
    refine dss_cons (N := fun ds => ∃ long : Nat, long ≤ 4 ∧ ds = [.val (.adr a), .val (.int long), .no, .no, .no, .no, .no, .no, .no, .no, .no, .no, .no, .no, .no]) (ds_set (i := 1) (of_decide_eq_true rfl) rfl (.inl rfl) (P := rollOk 5) (dv_callZ hc (C1 5 (by decide) (by decide)) (hr : Room (k + 2) _) (Nat.le_refl _) rfl (dl_cons (dv_v 0) (dl_cons de_int da_nil)) ⟨a, rfl⟩ fun d h => h) fun d ⟨i, e, h0, h1⟩ => ⟨i.toNat, by omega, by subst e; rw [Int.toNat_of_nonneg h0]; rfl⟩) ?_
    rintro ds ⟨long, hl, rfl⟩
    refine dss_cons (N := fun ds => ∃ m : Tm, PrOk long m ∧ ds = [.val (.adr a), .val (.int long), .val (.lst (m.map prD)), .no, .no, .no, .no, .no, .no, .no, .no, .no, .no, .no, .no]) (ds_set (i := 2) (of_decide_eq_true rfl) rfl (.inl rfl) (P := fun d => ∃ m : Tm, PrOk long m ∧ d = .lst (m.map prD)) (dv_callZ hc (C2 long hl) (hr : Room (k + 2) _) (Nat.le_refl _) rfl (dl_cons (dv_v 0) (dl_cons (dv_v 1) da_nil)) ⟨a, rfl⟩ fun d h => h) fun d ⟨m, h, e⟩ => ⟨m, h, by subst e; rfl⟩) ?_
    rintro ds ⟨m, hm, rfl⟩
    have ml := hm.len
    have ct := hm.ct
    refine dss_cons (N := fun ds => ∃ m' : Tm, m'.Perm m ∧ ds = [.val (.adr a), .val (.int long), .val (.lst (m.map prD)), dicS m', .no, .no, .no, .no, .no, .no, .no, .no, .no, .no, .no]) (ds_new (i := 3) (of_decide_eq_true rfl) rfl (.inl rfl) (dn_dictE (Ps := fun ps => ∃ m' : Tm, m'.Perm m ∧ ps = m'.map prN) rfl B.dict rfl (rm hr 2) (fun ps ⟨m', p, e⟩ => by subst e; exact prN_nd (hm.perm p).nd) (dv_callZ hc (C3 m (by omega)) (hr : Room (k + 2) _) (Nat.le_refl _) rfl (dl_cons (dv_v 0) (dl_cons (dv_v 2) da_nil)) ⟨a, rfl⟩ fun d ⟨m', p, e⟩ => ⟨m'.map prN, ⟨m', p, rfl⟩, by rw [e, prN_map]⟩)) fun s ⟨ps, ⟨m', p, e1⟩, e2⟩ => ⟨m', p, by subst e1 e2; rw [prN_keys, prN_vals]; rfl⟩) ?_
    rintro ds ⟨m', pm, rfl⟩
    have hm' := hm.perm pm
    have tt := ct.tally
    have t0 : ∀ p ∈ tallyOf m, 0 < p.2 := tal_pos
    have et : tallyOf (tallyOf m) = tallyOf m := tally_tally hm.nd ct.nn
    have tl : (tallyOf m).length ≤ 6 := tt.len
    refine dss_to (ds' := [.val (.adr a), .val (.int long), .val (.lst (m.map prD)), dicS m', .val (talD CT (tallyOf m)), .val (.lst ((tallyOf m).map prD)), .no, .no, .no, .no, .no, .no, .no, .no, .no]) (ds_parC (i := 4) (j := 5) rfl (of_decide_eq_true rfl) rfl rfl (.inr rfl) (.inl rfl) (Pa := (· = talD CT (tallyOf m))) (Pb := (· = .lst ((tallyOf m).map prD))) ?_ ?_ fun x y e1 e2 => by subst e1 e2; rfl) ?_
    · refine de_makeH (i := 3) (MH m' (knC_dic hm'.ct hl (by decide)) (cntOk_dic hm'.ct hl (Int.le_refl _)) (hm'.ct.tw (by decide))) (hr : Room (k + 2) _) (Nat.le_refl _) rfl rfl (.inl rfl) rfl rfl fun d e => ?_
      rw [e, perm_tally hm.nd pm]
    · refine dv_callB rfl B.sorted rfl (dl_cons (a := .lst ((m.filter fun p => decide (0 < p.2)).map prD)) (dv_filterA (i := 12) (as := m) (kf := prD) prD_inj (t := fun p => decide (0 < p.2)) (r := prD) rfl (of_decide_eq_true rfl) rfl (di_list (DV.to (dv_v 2) ⟨_, rfl, rfl⟩)) rfl rfl (fun p hp s H C cl fp => db_cmp (a := .int p.2) (b := .int 0) (dv_ix (dv_v 12) de_int (x_tup rfl) (fun _ _ => rfl)) de_int (o_gt.imp fun d e => e) rfl) (fun p hp _ s H C cl fp => dv_v 12) (by rw [sizeLine_eq]; omega)) da_nil) ((c_sortP (rm hr 64) _).imp fun d e => by rw [e, sortP_eq hm.nd])
    let t := tallyOf m
    have tl2 : t.length ≤ 6 := tl
    refine dss_to (ds' := [.val (.adr a), .val (.int long), .val (.lst (m.map prD)), .dic [] [], .val (talD CT t), .val (.lst (t.map prD)), .no, .no, .no, .no, .no, .no, .no, .no, .no]) (ds_dclear (i := 3) rfl (.inl rfl) rfl rfl) ?_
    let S : Int := (t.map (·.2)).sum
    let told : D := .lst [.lst (ansL t), .int t.length, .bl (!t.isEmpty), .int S, .str (lawText t)]
    refine dss_to (ds' := [.val (.adr a), .val (.int long), .val (.lst (m.map prD)), .dic [] [], .val (talD CT t), .val (.lst (t.map prD)), .val told, .no, .no, .no, .no, .no, .no, .no, .no]) (ds_set (i := 6) (of_decide_eq_true rfl) rfl (.inl rfl) (P := (· = told)) ?_ fun d e => by subst e; rfl) ?_
    · refine dv_lst (dl_cons (dv_callTy rfl B.list rfl (dl_cons (dv_prop (T.t.listed t) (hr : Room (k + 2) _) (Nat.le_succ _) (dv_v 4) rfl (fun d e => e)) da_nil) c_listT) (dl_cons (dv_callB rfl B.len rfl (dl_cons (dv_v 4) da_nil) (c_lenOwn (E := EF) (T.t.len t) (Room.mono hr (by omega)) passF ⟨by omega, by omega⟩ rfl (fun d e => e) fun _ _ z => z.elim)) (dl_cons (dv_callTy rfl B.bool rfl (dl_cons (dv_v 4) da_nil) (c_boolC T (hr : Room (k + 2) _) t)) (dl_cons (DE.imp (dv_prop (T.t.total t (by omega)) (hr : Room (k + 2) _) (Nat.le_succ _) (dv_v 4) rfl (fun d e => e)) fun d e => e.trans (congrArg D.int (sum_tally tt.nd))) (dl_cons (dv_callTy rfl B.str rfl (dl_cons (dv_v 4) da_nil) (c_strOwn (E := EF) (T.str t (tt.shM hl (by decide) (by decide +kernel))) (hr : Room (k + 2) _) passF rfl (fun d e => by rw [e, text_eq tt.nd]) fun _ _ z => z.elim)) da_nil))))) (by simp)
    refine dss_to (ds' := [.val (.adr a), .val (.int long), .val (.lst (m.map prD)), .dic [] [], .val (talD CT t), .val (.lst (t.map prD)), .val told, .val (.int S), .no, .no, .no, .no, .no, .no, .no]) (ds_set (i := 7) (of_decide_eq_true rfl) rfl (.inl rfl) (P := (· = .int S)) (dv_callB rfl B.sum rfl (dl_cons (DV.cast (dv_mapA (i := 12) (as := t) (kf := prD) prD_inj (r := fun p => .int p.2) rfl (of_decide_eq_true rfl) rfl (di_list (DV.to (dv_v 5) ⟨_, rfl, rfl⟩)) rfl rfl (fun p hp s H C cl fp => dv_ix (dv_v 12) de_int (x_tup rfl) (fun _ _ => rfl)) (by rw [sizeLine_eq]; omega)) (by unfold D.ints; rw [List.map_map]; rfl)) da_nil) (c_sum rfl)) fun d e => by subst e; rfl) ?_
    have hS := sum_lt (f := numAt t) (N := 10 ^ 40) (by decide +kernel) (as := t.map (·.1)) fun a _ => ⟨tt.num0 a, tt.numN (by decide +kernel) a⟩
    rw [sum_tally tt.nd] at hS
    have hS1 : S.natAbs < 10 ^ 100 := by
      have h1 : (((t.map (·.1)).length : Nat) : Int) ≤ 6 := by rw [List.length_map]; omega
      have h2 : (((t.map (·.1)).length : Nat) : Int) * 10 ^ 40 ≤ 6 * 10 ^ 40 := Int.mul_le_mul_of_nonneg_right h1 (by decide +kernel)
      have h3 : (6 : Int) * 10 ^ 40 < 10 ^ 100 := by decide +kernel
      have h4 : S ≤ 6 * 10 ^ 40 := Int.le_trans hS.2 h2
      have h5 : 0 ≤ S := hS.1
      omega
    have lx : (lawText t).length ≤ 30200 := text_len tt hl (by decide) (by decide +kernel)
    have sh := shw_told tt hl (n := (t.length : Nat)) (b := !t.isEmpty) (by have : t.length < 10 ^ 100 := Nat.lt_of_le_of_lt tl2 (by decide +kernel); omega) hS1 (okS_text t) lx
    refine dss_guard (b := false) (db_cmp (dv_callB rfl B.repr rfl (dl_cons (dv_v 6) da_nil) (c_reprW sh (by decide) (by decide) gd (rm hr 64) rfl py_told)) (dv_callB rfl B.repr rfl (dl_cons (a := told) (dv_lst (dl_cons (DV.cast (dv_mapA (i := 12) (as := t) (kf := prD) prD_inj (r := fun p => ansT p.1) rfl (of_decide_eq_true rfl) rfl (di_list (DV.to (dv_v 5) ⟨_, rfl, rfl⟩)) rfl rfl (fun p hp s H C cl fp => dv_ix (dv_v 12) de_int (x_tup rfl) (fun _ _ => rfl)) (by rw [sizeLine_eq]; omega)) rfl) (dl_cons (dv_callB rfl B.len rfl (dl_cons (dv_v 5) da_nil) (c_lenL.imp fun d e => by rw [e, List.length_map])) (dl_cons (dv_cmp (dv_v 5) (dv_lst da_nil (by decide)) ((o_neN (rm hr 0)).imp fun d e => by rw [e, List.isEmpty_map]) rfl) (dl_cons (dv_v 7) (dl_cons (dv_callV (C4 t (tt.shP hl (by decide) (by decide +kernel))) (hr : Room (k + 2) _) (Nat.le_refl _) rfl (dl_cons (dv_v 5) da_nil)) da_nil))))) (by simp)) da_nil) (c_reprW sh (by decide) (by decide) gd (rm hr 64) rfl py_told)) (o_neS.imp fun d e => by rw [e]; simp) rfl) (fun z => by cases z) fun _ => ?_
    refine dss_cons (N := fun ds => ∃ t8 t9 : Sl, ds = [.val (.adr a), .val (.int long), .val (.lst (m.map prD)), .dic [] [], .val (talD CT t), .val (.lst (t.map prD)), .val told, .val (.int S), t8, t9, .no, .no, .no, .no, .no]) (ds_forP (i := 8) (j := 9) (as := m) (f1 := fun p => ansT p.1) (f2 := fun p => .int p.2) (fun kk ds => ∃ t8 t9 : Sl, ds = [.val (.adr a), .val (.int long), .val (.lst (m.map prD)), .dic [] [], .val (talD CT t), .val (.lst (t.map prD)), .val told, .val (.int S), t8, t9, .no, .no, .no, .no, .no]) PassesOwn.never rfl (of_decide_eq_true rfl) rfl (.inl rfl) rfl (.inl rfl)
        (di_list (DV.to (dv_v 2) ⟨_, rfl, rfl⟩)) ⟨.no, .no, rfl⟩ ?_ fun ds h => h) ?_
    · rintro kk p ds hp ⟨t8, t9, rfl⟩
      have pm := List.mem_of_getElem? hp
      have al := hm.al p pm
      have an : ansD (ansT p.1) = true := ansD_of (by omega) (hm.ai p pm)
      have kn : KnT [CT, CC] (ansT p.1) := knT_ans an
      have nb := hm.nu p pm
      have n1 : p.2.natAbs < 10 ^ 100 := by
        have h3 : (10 : Int) ^ 40 < 10 ^ 100 := by decide +kernel
        omega
      have sh2 := shw_two (n := p.2) (b := decide (0 < p.2)) n1
      have v1 : valAt t (ansT p.1) = p.2 := by rw [valAt_at _ an, numAt_tallyN ct.nn, numAt_mem hm.nd pm]
      have v2 : inAt t (ansT p.1) = decide (0 < p.2) := by
        unfold inAt
        rw [an, via_at ansT_inj, Bool.true_and]
        exact lk_tally hm.nd pm
      refine dss_guard (b := false) (db_cmp (dv_callB rfl B.repr rfl (dl_cons (a := .lst [.int p.2, .bl (decide (0 < p.2))]) (dv_lst (dl_cons (DE.imp (de_ixOwn (E := EF) (T.t.get t (ansT p.1) kn) T.t.gi (Room.mono hr (by omega)) passF (dv_v 4) (dv_v 8) rfl (fun d e => e) fun _ _ z => z.elim) fun d e => by rw [e, v1]) (dl_cons (DE.imp (dv_cmp (dv_v 8) (dv_v 4) (o_inOwn (E := EF) (T.cont t (ansT p.1) kn) (Room.mono hr (by omega)) passF rfl (fun d e => e) fun _ _ z => z.elim) rfl) fun d e => by rw [e, v2]) da_nil)) (by simp)) da_nil) (c_reprW sh2 (by decide) (by decide) gd (rm hr 64) rfl py_two)) (dv_callB rfl B.repr rfl (dl_cons (a := .lst [.int p.2, .bl (decide (0 < p.2))]) (dv_lst (dl_cons (dv_v 9) (dl_cons (dv_cmp (dv_v 9) de_int (o_gt.imp fun d e => e) rfl) da_nil)) (by simp)) da_nil) (c_reprW sh2 (by decide) (by decide) gd (rm hr 64) rfl py_two)) (o_neS.imp fun d e => by rw [e]; simp) rfl) (fun z => by cases z) fun _ => dss_nil ⟨_, _, rfl⟩
    rintro ds ⟨t8, t9, rfl⟩
    refine dss_guard (b := false) (db_cmp (a := .lst []) (b := .lst []) (dv_filterNo (i := 13) (Ps := fun es => es.length ≤ 1000 ∧ ∀ d ∈ es, Str0 CT CC t d) rfl (of_decide_eq_true rfl) rfl (di_list (DE.imp (dv_callG (C5 long t tt hl) gd (hr : Room (k + 2) _) (Nat.le_refl _) rfl (dl_cons (dv_v 5) da_nil) rfl (fun a h => by cases h) fun d h => h) fun d ⟨es, e, h1, h2⟩ => ⟨es, e, h1, h2⟩)) rfl rfl (fun es d ⟨_, h2⟩ m s H C cl fp => ?_) (fun d s H C cl fp => DE.imp (P := (· = .int 1)) de_int fun _ _ => trivial) fun es h => by rw [sizeLine_eq]; have := h.1; omega) (dv_lst da_nil (by decide)) ((o_neN (rm hr 0)).imp fun d e => e) rfl) (fun z => by cases z) fun _ => ?_
    · have sd := h2 d m
      refine db_cmp (dv_callB rfl B.repr rfl (dl_cons (a := .lst [.int 0, .bl false]) (dv_lst (dl_cons (DE.imp (de_ixOwn (E := EF) (T.t.get t d sd.kn) T.t.gi (Room.mono hr (by omega)) passF (dv_v 4) (dv_v 13) rfl (fun d e => e) fun _ _ z => z.elim) fun d e => by rw [e, sd.v0]) (dl_cons (DE.imp (dv_cmp (dv_v 13) (dv_v 4) (o_inOwn (E := EF) (T.cont t d sd.kn) (Room.mono hr (by omega)) passF rfl (fun d e => e) fun _ _ z => z.elim) rfl) fun d e => by rw [e, sd.i0]) da_nil)) (by simp)) da_nil) (c_reprW (shw_two (by decide)) (by decide) (by decide) gd (rm hr 64) rfl py_two)) de_str (o_neS.imp fun d e => by rw [e, nil_shown]; simp) rfl
    have mc := more_ct tt t0
    refine dss_to (ds' := [.val (.adr a), .val (.int long), .val (.lst (m.map prD)), .dic [] [], .val (talD CT t), .val (.lst (t.map prD)), .val told, .val (.int S), t8, t9, .val (.lst ((moreM t).map prD)), .no, .no, .no, .no]) ?_ ?_
    · refine ds_setMapP (l := 10) (i := 14) (j := 12) (as := t.zipIdx) (f1 := fun q => .int (q.2 : Nat)) (f2 := fun q => prD q.1) (r := fun q => prD (q.1.1, more1 q.1 q.2)) (fun x y e => ?_) rfl rfl (L2.sw_true rfl rfl rfl rfl) rfl (of_decide_eq_true rfl) rfl rfl (DI.imp (di_enum (Ps := (· = t.map prD)) rfl B.enumerate (DV.to (dv_v 5) ⟨_, rfl, rfl⟩)) fun es h => ?_) rfl rfl rfl (fun q hq s H C cl fp => ?_) (by rw [sizeLine_eq, List.length_zipIdx]; omega) ?_
      · injection e with e
        injection e with e1 e2
        injection e2 with e2 _
        injection e1 with e1
        exact Prod.ext (prD_inj _ _ e2) (by omega)
      · obtain ⟨es', e1, e2⟩ := h
        subst e1
        rw [e2]
        have go : ∀ (t : Tm) (n : Nat), enumD n (t.map prD) = (t.zipIdx n).map fun q => D.tup [.int (q.2 : Nat), prD q.1] := fun t => by
          induction t with
          | nil => exact fun _ => rfl
          | cons p t ih => exact fun n => by rw [List.zipIdx_cons, List.map_cons, List.map_cons, ← ih]; rfl
        exact go t 0
      · refine dv_tup (dl_cons (dv_ix (dv_v 12) de_int (x_tup rfl) (fun _ _ => rfl)) (dl_cons (dv_bin (a := .int q.1.2) (b := .int (bI (decide (((q.2 : Nat) : Int) = 0)) * (1 - 2 * bI (decide (1 < q.1.2))))) (dv_ix (dv_v 12) de_int (x_tup rfl) (fun _ _ => rfl)) (dv_bin (a := .int (bI (decide (((q.2 : Nat) : Int) = 0)))) (b := .int (1 - 2 * bI (decide (1 < q.1.2)))) (DE.imp (dv_callTy rfl B.int rfl (dl_cons (dv_cmp (dv_v 14) de_int (o_eqI.imp fun d e => e) rfl) da_nil) c_intB) fun d e => e) (dv_bin (a := .int 1) (b := .int (2 * bI (decide (1 < q.1.2)))) de_int (dv_bin (a := .int 2) (b := .int (bI (decide (1 < q.1.2)))) de_int (DE.imp (dv_callTy rfl B.int rfl (dl_cons (dv_cmp (dv_ix (dv_v 12) de_int (x_tup rfl) (fun _ _ => rfl)) de_int (o_gt.imp fun d e => e) rfl) da_nil) c_intB) fun d e => e) (o_mulS (.inl (by decide)))) o_sub) (o_mulS (.inl (by unfold bI; split <;> decide)))) o_add) da_nil)) (by simp)
      · have e : t.zipIdx.map (fun q => prD (q.1.1, more1 q.1 q.2)) = (moreM t).map prD := by unfold moreM; rw [List.map_map]; rfl
        rw [e]
        rfl
    have dicE : ∀ x : Tm, D.dic ((x.map prN).map (·.1)) ((x.map prN).map (·.2)) = dicN x := fun x => by rw [prN_keys, prN_vals]; rfl
    refine dss_guard (b := false) (DB.cast (db_w (dw_or (x := false) (y := false) ?_ fun _ => dw_or (x := false) (y := false) ?_ fun _ => dw_or1 ?_)) rfl) (fun z => by cases z) fun _ => ?_
    · refine db_cmp (dv_v 4) (dv_tallyD M tt hl (by decide) (Int.le_refl _) (hr : Room (k + 2) _) (Nat.le_refl _) rfl (DE.imp (dv_callTy rfl B.dict rfl (dl_cons (a := .lst ((t.map prN).map Dt.pairD)) (DV.cast (dv_v 5) (by rw [prN_map])) da_nil) (c_dictPN rfl (rm hr 2) (prN_nd tt.nd))) fun d e => e.trans (dicE t))) ((o_neC T O (Room.mono hr (by omega)) t (tallyOf t) (by rw [et]; omega)).imp fun d e => ?_) rfl
      rw [e, et, eqM_self tt.nd]
      rfl
    · refine db_cmp (a := .bl (eqM t (tallyOf (moreM t)))) (b := .bl t.isEmpty) (dv_cmp (dv_v 4) (dv_tallyD M mc hl (by decide) (Int.le_refl _) (hr : Room (k + 2) _) (Nat.le_refl _) rfl (DE.imp (dv_callTy rfl B.dict rfl (dl_cons (a := .lst (((moreM t).map prN).map Dt.pairD)) (DV.cast (dv_v 10) (by rw [prN_map])) da_nil) (c_dictPN rfl (rm hr 2) (prN_nd mc.nd))) fun d e => e.trans (dicE _))) (o_eqC T O (Room.mono hr (by omega)) t (tallyOf (moreM t)) (Nat.le_trans mc.tally.len (by decide))) rfl) (dv_cmp (dv_v 5) (dv_lst da_nil (by decide)) ((o_eqN (rm hr 0)).imp fun d e => by rw [e, List.isEmpty_map]) rfl) (o_neB.imp fun d e => ?_) rfl
      have z : eqM t (tallyOf (moreM t)) = t.isEmpty := more_ne tt t0
      rw [e, z]
      simp
    · have gd : (Oth.no (dicN t)).good CT CC := (bad_no (CT := CT) (CC := CC) t (d := dicN t) rfl rfl ⟨"dict", by simp, rfl⟩).good
      exact db_cmp (b := dicN t) (dv_v 4) (DE.imp (dv_callTy rfl B.dict rfl (dl_cons (a := .lst ((t.map prN).map Dt.pairD)) (DV.cast (dv_v 5) (by rw [prN_map])) da_nil) (c_dictPN rfl (rm hr 2) (prN_nd tt.nd))) fun d e => e.trans (dicE t)) (o_cmpOwn (E := EF) (L := [CT, CC]) O.kl rfl rfl (T.nf "dict" (by simp)) (fun _ _ => rfl) (T.eq t (.no (dicN t)) gd) (Room.mono hr (by omega)) passF rfl (fun d q => q) fun cls H' q _ => q.elim) rfl
    refine dss_cons (N := fun ds => ∃ o ∈ oddV CT m t, ds = [.val (.adr a), .val (.int long), .val (.lst (m.map prD)), .dic [] [], .val (talD CT t), .val (.lst (t.map prD)), .val told, .val (.int S), t8, t9, .val (.lst ((moreM t).map prD)), .val o, .no, .no, .no]) (ds_set (i := 11) (of_decide_eq_true rfl) rfl (.inl rfl) (P := (· ∈ oddV CT m t)) (dv_callZ hc (C6 (oddV CT m t) (by simp [oddV]) (by simp [oddV])) (hr : Room (k + 2) _) (Nat.le_refl _) rfl (dl_cons (dv_v 0) (dl_cons (dv_lst (as := oddV CT m t) (dl_cons (dv_callTy rfl B.list rfl (dl_cons (dv_v 2) da_nil) c_listL) (dl_cons (dv_callTy rfl B.tuple rfl (dl_cons (dv_v 2) da_nil) c_tupL) (dl_cons de_int (dl_cons de_str (dl_cons (dv_tup da_nil (by decide)) (dl_cons (dv_lst da_nil (by decide)) (dl_cons de_bl (dl_cons de_bl (dl_cons (dv_v 4) (dl_cons (dv_lst (dl_cons (DE.imp (dv_callTy rfl B.dict rfl (dl_cons (a := .lst ((m.map prN).map Dt.pairD)) (DV.cast (dv_v 2) (by rw [prN_map])) da_nil) (c_dictPN rfl (rm hr 2) (prN_nd hm.nd))) fun d e => e.trans (dicE m)) da_nil) (by simp)) (dl_cons de_str (dl_cons de_int da_nil)))))))))))) (by simp [oddV])) da_nil)) ⟨a, rfl⟩ fun d h => h) fun d h => ⟨d, h, by rfl⟩) ?_
    rintro ds ⟨o, ho, rfl⟩
    refine ds_retV (d := .bl true) (DV.cast (dv_and (x := true) (y := true) (dv_callT C7 (hr : Room (k + 2) _) (Nat.le_refl _) rfl (dl_cons (dv_v 11) da_nil) ⟨o, rfl, oddV_bad O.ne m t o ho⟩ (fun a h => by cases h) fun d h => h) fun _ => dv_one (de_callT (Pa := fun as => ∃ d, as = [d] ∧ BadP CT CC d) C7 (hr : Room (k + 2) _) (Nat.le_refl _) rfl (DA.imp (da_cons (Pa := BadP CT CC) (dv_callZ hc (Cb long m hm hl) (hr : Room (k + 2) _) (Nat.le_refl _) rfl (dl_cons (dv_v 0) (dl_cons (dv_v 2) (dl_cons (dv_v 1) da_nil))) ⟨a, rfl⟩ fun d h => h) da_nil) fun as h => ?_) (fun as h => h) (fun as ⟨d, e, _⟩ a h => by subst e; cases h) fun as d _ h => h)) rfl) rfl
    obtain ⟨d, r, e, hd, e2⟩ := h
    subst e2
    exact ⟨d, e, hd⟩
end
end K31

set_option Elab.async false
set_option linter.all false
set_option maxRecDepth 100000
set_option maxHeartbeats 16000000
namespace K31
open PySem PyProof.Rows L2 Dt
section
variable {P : Program} {w : World} {K : PySem.W.Frag} {mg : Str → Option Value} {base : Heap} {k : Nat} {f : Addr} {fd : FuncData} {CT CC CI CO : Addr}
abbrev p_die (K : PySem.W.Frag) (ns : List Int) (i : Nat) : Sp := spN K (· = [.scr ns, .int (i : Int)]) (fun _ es => ∃ a b d : Int, es = [.int a, .int b, .int d])
theorem t_law_die (B : Bi mg) (F : FunOf K d__law_dice f fd) (ns : List Int) (i : Nat) (hi : i < 1000) : FnOk P w K mg base (L2.CX P w) (k + 1) f fd ["script", "spot"] (p_die K ns i) :=
  fn_N (N := ["script", "spot", "cell", "great", "blend"]) F (C8.fnScope_by rfl) (fun as e => by subst e; rfl) fun c as cdv A outer s E hr e => by
    subst e
    let x := cellOf ns i
    let g : Int := (if x < 0 then -x else x) % ((10 ^ 59) ^ 11)
    refine dsR_to (ds' := [.val (.scr ns), .val (.int (i : Int)), .val (.int x), .no, .no]) (ds_set (i := 2) (of_decide_eq_true rfl) rfl (.inl rfl) (P := (· = .int x)) ?_ fun d e => by subst e; rfl) ?_
    · refine de_ifExp (Pt := (· = decide ((i : Int) < ns.length))) (db_cmp (dv_v 1) (dv_callB rfl B.len rfl (dl_cons (dv_v 0) da_nil) c_lenR) o_lt rfl) (fun h => ?_) fun h => ?_
      · have h := of_decide_eq_true h.symm
        have hl : i < ns.length := by omega
        have e : ns[i]? = some x := by
          show ns[i]? = some ((ns[i]?).getD (41 * (i : Int) + 9))
          rw [List.getElem?_eq_getElem hl]
          rfl
        exact dv_ix (dv_v 0) (dv_v 1) (x_scr e) (fun _ _ => rfl)
      · have h := of_decide_eq_false h.symm
        have e : x = 41 * (i : Int) + 9 := by
          show (ns[i]?).getD (41 * (i : Int) + 9) = _
          rw [List.getElem?_eq_none (by omega)]
          rfl
        rw [e]
        exact dv_bin (dv_bin de_int (dv_v 1) (o_mul (mulW_of (a := 6) (b := 10) (by decide) (by omega) (by decide)))) de_int o_add
    refine dsR_to (ds' := [.val (.scr ns), .val (.int (i : Int)), .val (.int x), .val (.int g), .no]) (ds_set (i := 3) (of_decide_eq_true rfl) rfl (.inl rfl) (P := (· = .int g)) ?_ fun d e => by subst e; rfl) ?_
    · refine dv_bin (dv_callTy rfl B.int rfl (dl_cons (dv_callB rfl B.abs rfl (dl_cons (dv_v 2) da_nil) c_abs) da_nil) c_intI) (dv_bin (dv_bin de_int de_int (o_pow ?_)) de_int (o_powW ?_)) (o_mod ?_)
      · exact ⟨by decide, by decide, by decide⟩
      · exact ⟨by decide, by decide +kernel⟩
      · decide +kernel
    have g0 : 0 ≤ g := Int.emod_nonneg _ (by decide +kernel)
    have g1 : g < 10 ^ 649 := by
      have h := Int.emod_lt_of_pos (if x < 0 then -x else x) (show (0 : Int) < (10 ^ 59) ^ 11 by decide +kernel)
      have e : ((10 : Int) ^ 59) ^ 11 = 10 ^ 649 := by decide +kernel
      exact e ▸ h
    have g2 : g.natAbs < 2 ^ 2160 := by
      have : (10 : Int) ^ 649 < 2 ^ 2160 := by decide +kernel
      have h : (g.natAbs : Int) < ((2 ^ 2160 : Nat) : Int) := by
        rw [Int.natAbs_of_nonneg g0]
        exact Int.lt_trans g1 (by decide +kernel)
      exact Int.ofNat_lt.mp h
    let b : Int := g * 3202034522624059733 + 83 * (i : Int) + 19 * (if decide (x < 0) = true then 1 else 0) + 5
    refine dsR_to (ds' := [.val (.scr ns), .val (.int (i : Int)), .val (.int x), .val (.int g), .val (.int b)]) (ds_set (i := 4) (of_decide_eq_true rfl) rfl (.inl rfl) (P := (· = .int b)) ?_ fun d e => by subst e; rfl) ?_
    · refine dv_bin (dv_bin (dv_bin (dv_bin (dv_v 3) de_int (o_mul ?_)) (dv_bin de_int (dv_v 1) (o_mul ?_)) o_add) (dv_bin de_int (dv_callTy rfl B.int rfl (dl_cons (dv_cmp (dv_v 2) de_int o_lt rfl) da_nil) c_intB) (o_mul ?_)) o_add) de_int o_add
      · exact mulW_of (a := 2160) (b := 62) g2 (by decide) (by decide)
      · exact mulW_of (a := 7) (b := 10) (by decide) (by omega) (by decide)
      · exact mulW_of (a := 5) (b := 1) (by decide) (by split <;> decide) (by decide)
    refine dsR_ret (DN.imp (dn_lst (dl_cons (dv_callB rfl B.max rfl (dl_cons de_int (dl_cons (dv_bin (dv_v 3) (dv_bin de_int de_int (o_pow ?_)) o_sub) da_nil)) (c_max2 rfl)) (dl_cons (dv_bin (dv_callTy rfl B.int rfl (dl_cons (dv_v 4) da_nil) c_intI) de_int (o_mod ?_)) (dl_cons de_int da_nil))) ?_) fun s e => ⟨_, ⟨_, _, _, rfl⟩, e⟩)
    · exact ⟨by decide, by decide, by decide⟩
    · decide
    · show 3 ≤ 1000
      decide
/-! tallies that are written -/
theorem tally_zero (a : Ans) : tallyOf [(a, 0)] = [] := by
  have e : tallyOf [(a, 0)] = tallyOf [] := tally_same (by simp) (by simp) fun b => by
    rw [numAt_cons, numAt_nil]
    split <;> rfl
  rw [e]
  decide +kernel
theorem tally_nil : tallyOf [] = [] := by decide +kernel
theorem str_unit : strM [([], 2)] = "() * 2" := by decide +kernel
abbrev T0 (P : Program) (w : World) (K : PySem.W.Frag) (mg : Str → Option Value) (base : Heap) (k : Nat) (CT CI : Addr) : Prop := Mkr P w K mg base k "Tally" CT (p_Tally K CT CI .non true []) [.non]
theorem dv_tally0 {X : Cx} {c : Fx} {ds : List Sl} {pos p : Pos} {j : Nat} (M0 : T0 X.prog X.w X.K X.mg X.base k CT CI) (hr : Room j X.A) (hk : k + 1 ≤ j) (hg : Gl X "Tally") : DV X c ds (.Call (.Name "Tally" p) [] [] pos) (talD CT []) :=
  de_make0 (das := [.non]) (E := EF) M0 (fun _ => .cons .non .nil) hr hk hg passF rfl (fun d h => h.2.trans (by rw [tally_nil])) (fun _ _ z _ => by cases z.1) (by decide)
theorem kn_non : KnC CT CC .non := ⟨⟨rfl, fun _ e => (by cases e), fun _ _ e => (by cases e)⟩, fun e => (by cases e)⟩
theorem tw_nil : Tw [] := ⟨.nil, by decide, .inl (by decide)⟩
abbrev p_one (K : PySem.W.Frag) (ns : List Int) : Sp := spD K false (· = [.scr ns]) (fun _ r => r = .bl true) noX
def spots (n : Nat) : Nat := if 1 < (if n < 5 then n else 5) then (if n < 5 then n else 5) else 1
theorem rng_at {n i : Nat} {d : D} (h : (rngD 0 n)[i]? = some d) : i < n ∧ d = .int (i : Int) := by
  unfold rngD at h
  rw [List.getElem?_map, Option.map_eq_some_iff] at h
  obtain ⟨q, h1, h2⟩ := h
  obtain ⟨hl, e⟩ := List.getElem?_eq_some_iff.mp h1
  rw [List.getElem_range] at e
  subst e
  exact ⟨by simpa using hl, by rw [← h2]; simp⟩
theorem spots_le (n : Nat) : spots n ≤ 5 := by
  unfold spots
  split <;> split <;> omega
theorem t_law_one (B : Bi mg) (O : Ow P K mg CT CC CI CO) (T : Top P w K mg base k CT CC CI CO) (M : Mk2 P w K mg base (k + 1) CT CC CI) (M0 : T0 P w K mg base (k + 1) CT CI) (ns : List Int)
    (C1 : ∀ i : Nat, i < 1000 → Dt.Cl P w K mg base (k + 3) "_law_dice" (p_die K ns i) []) (C2 : ClG P w K mg base (k + 3) "_law_right" (p_right K) []) (F : FunOf K d__law_one f fd) : FnG P w K mg base (L2.CX P w) (k + 4) f fd ["script"] (p_one K ns) :=
  fn_dG (N := ["script", "spot", "dice", "turn", "told"]) F (C8.fnScope_by rfl) (fun as e => by subst e; rfl) fun c as cdv A outer s E hr gd e hz hT => by
    subst e
    refine dss_cons (N := fun ds => ∃ t1 t2 t3 : Sl, ds = [.val (.scr ns), t1, t2, t3, .no]) (ds_forL (i := 1) (es := rngD 0 (spots ns.length)) (fun kk ds => ∃ t1 t2 t3 : Sl, ds = [.val (.scr ns), t1, t2, t3, .no]) PassesOwn.never rfl (of_decide_eq_true rfl) rfl (.inl rfl) (DI.imp (di_range1 (S := (· = (spots ns.length : Int))) rfl B.range ?_ fun j e => ?_) fun es h => ?_) ⟨_, _, _, rfl⟩ ?_ fun ds h => h) ?_
    · refine DE.imp (dv_callB rfl B.max rfl (dl_cons de_int (dl_cons (dv_callB rfl B.min rfl (dl_cons de_int (dl_cons (dv_callB rfl B.len rfl (dl_cons (dv_v 0) da_nil) c_lenR) da_nil)) (c_min2 rfl)) da_nil)) (c_max2 rfl)) fun d e => ⟨_, e, ?_⟩
      unfold spots
      split <;> split <;> split <;> split <;> omega
    · subst e
      unfold spots
      split <;> split <;> omega
    · obtain ⟨j, e, h⟩ := h
      subst e
      rw [h, Int.toNat_natCast]
    · rintro i d ds hd ⟨t1, t2, t3, rfl⟩
      obtain ⟨hi, rfl⟩ := rng_at hd
      have h5 := spots_le ns.length
      refine dss_cons (N := fun ds => ∃ a b d : Int, ds = [.val (.scr ns), .val (.int (i : Int)), .lst [.int a, .int b, .int d], t3, .no]) (ds_new (i := 2) (of_decide_eq_true rfl) rfl (.inl rfl) (dn_callN (C1 i (by omega)) (hr : Room (k + 3) _) (Nat.le_refl _) rfl (dl_cons (dv_v 0) (dl_cons (dv_v 1) da_nil)) rfl) fun s ⟨rs, ⟨a, b, d, e1⟩, e2⟩ => ⟨a, b, d, by subst e1 e2; rfl⟩) ?_
      rintro ds ⟨a, b, d, rfl⟩
      refine dss_one (ds_asDie (i := 2) rfl fun p c' hp htb => ds_forL (i := 3) (es := rngD 0 3) (fun kk ds => ∃ t3 : Sl, ds = [.val (.scr ns), .val (.int (i : Int)), .val (.adr p), t3, .no]) PassesOwn.never rfl (of_decide_eq_true rfl) rfl (.inl rfl) (DI.imp (di_range1 (S := (· = (3 : Int))) rfl B.range (DV.to de_int ⟨3, rfl, rfl⟩) fun z e => by subst e; decide) fun es h => ?_) ⟨_, rfl⟩ ?_ fun ds ⟨t3, e⟩ => ⟨_, _, _, e⟩)
      · obtain ⟨z, e, h⟩ := h
        subst e
        exact h
      · rintro l d2 ds h2 ⟨t3, rfl⟩
        refine dss_guard (b := false) (DB.cast (db_not (x := true) (db_val (dv_callG C2 gd (hr : Room (k + 3) _) (Nat.le_refl _) rfl (dl_cons (dv_v 2) da_nil) ⟨p, rfl⟩ (fun a h => ?_) fun d h => h))) rfl) (fun z => by cases z) fun _ => dss_nil ⟨_, rfl⟩
        rw [List.mem_singleton.mp h]
        exact hp
    rintro ds ⟨t1, t2, t3, rfl⟩
    have hr2 : Room (k + 2) (A.deeper (envOfC d__law_one.qual d__law_one.scope s.heap.objs.size f cdv)) := Room.mono hr (by omega)
    have hrk : Room k (A.deeper (envOfC d__law_one.qual d__law_one.scope s.heap.objs.size f cdv)) := Room.mono hr (by omega)
    have c0 : Ct 2 1 1 [([1, 2], 0)] := ct_one (a := [1, 2]) (by decide) (by decide) (by unfold okI; decide)
    have cU : Ct 0 1 3 [([], 2)] := ct_one (a := []) (by decide) (by decide) (by unfold okI; decide)
    have c10 : ∀ n : Int, 0 ≤ n → n < 3 → Ct 1 1 3 [([10], n)] := fun n h0 h1 => ct_one (a := [10]) h0 h1 (by unfold okI; decide)
    have cN : Ct 0 0 1 [] := ct_nil (by decide)
    refine dss_to (ds' := [.val (.scr ns), t1, t2, t3, .val (.lst [.bl true, .bl true, .bl false])]) (ds_set (i := 4) (of_decide_eq_true rfl) rfl (.inl rfl) (P := (· = .lst [.bl true, .bl true, .bl false])) (dv_lst (dl_cons (dv_cmp (dv_tally0 M0 hr2 (Nat.le_refl _) rfl) (dv_tallyD M cN (by decide) (by decide) (by decide +kernel) hr2 (Nat.le_refl _) rfl dv_dnil) ((o_eqC T O hrk [] (tallyOf []) (by rw [tally_nil]; decide)).imp fun d e => ?_) rfl) (dl_cons (dv_cmp (a := talD CT (tallyOf [])) (dv_tally (M.T .non [] kn_non fun _ => ⟨rfl, tw_nil⟩) rfl hr2 (Nat.le_refl _) rfl de_non) (dv_tallyD M c0 (by decide) (by decide) (by decide +kernel) hr2 (Nat.le_refl _) rfl (dv_disp1 (k := kI [1, 2]) (rm hr 0) (DV.cast (dv_tup (dl_cons de_int (dl_cons de_int da_nil)) (by decide)) rfl) de_int)) ((o_eqC T O hrk (tallyOf []) (tallyOf [([1, 2], 0)]) (by rw [tally_zero]; decide)).imp fun d e => ?_) rfl) (dl_cons (dv_callTy rfl B.bool rfl (dl_cons (dv_tally0 M0 hr2 (Nat.le_refl _) rfl) da_nil) (c_boolC T hr2 [])) da_nil))) (by simp)) fun d e => by subst e; rfl) ?_
    · rw [e, tally_nil]
      rfl
    · rw [e, tally_nil, tally_zero]
      rfl
    refine dss_to (ds' := [.val (.scr ns), t1, t2, t3, .lst [.bl true, .bl true, .bl false, .str "() * 2", .int 0]]) (ds_new (i := 4) (of_decide_eq_true rfl) rfl (.inl rfl) (dn_cat (xs := [.bl true, .bl true, .bl false]) (ys := [.str "() * 2", .int 0]) (by rw [sizeLine_eq]; decide) (dv_v 4) (dv_lst (dl_cons (dv_callTy rfl B.str rfl (dl_cons (a := talD CT [([], 2)]) (DV.cast (dv_tallyD M cU (by decide) (by decide) (by decide +kernel) hr2 (Nat.le_refl _) rfl (dv_disp1 (k := kI []) (rm hr 0) (DV.cast (dv_tup da_nil (by decide)) rfl) de_int)) (by rw [tally_pos (by decide)])) da_nil) (c_strOwn (E := EF) (T.str [([], 2)] (cU.shM (by decide) (by decide) (by decide +kernel))) hr2 passF rfl (fun d e => by rw [e, str_unit]) fun _ _ z => z.elim)) (dl_cons (dv_callB rfl B.len rfl (dl_cons (dv_tally0 M0 hr2 (Nat.le_refl _) rfl) da_nil) (c_lenOwn (E := EF) (T.t.len []) (Room.mono hr (by omega)) passF ⟨by decide, by decide⟩ rfl (fun d e => e) fun _ _ z => z.elim)) da_nil)) (by simp))) fun s e => by subst e; rfl) ?_
    refine dss_to (ds' := [.val (.scr ns), t1, t2, t3, .lst [.bl true, .bl true, .bl false, .str "() * 2", .int 0, .bl false]]) (ds_append (i := 4) (P := (· = .bl false)) rfl (.inl rfl) rfl (dv_cmp (a := talD CT [([10], 1)]) (b := talD CT [([10], 2)]) (DV.cast (dv_tallyD M (c10 1 (by decide) (by decide)) (by decide) (by decide) (by decide +kernel) hr2 (Nat.le_refl _) rfl (dv_disp1 (k := kI [10]) (rm hr 0) (DV.cast (dv_tup (dl_cons de_int da_nil) (by decide)) rfl) de_int)) (by rw [tally_pos (by decide)])) (DV.cast (dv_tallyD M (c10 2 (by decide) (by decide)) (by decide) (by decide) (by decide +kernel) hr2 (Nat.le_refl _) rfl (dv_disp1 (k := kI [10]) (rm hr 0) (DV.cast (dv_tup (dl_cons de_int da_nil) (by decide)) rfl) de_int)) (by rw [tally_pos (by decide)])) ((o_eqC T O hrk [([10], 1)] [([10], 2)] (by decide)).imp fun d e => ?_) rfl) (by rw [sizeLine_eq]; decide) fun d e => by subst e; rfl) ?_
    · rw [e]
      exact congrArg D.bl (show eqM [([10], 1)] [([10], 2)] = false by decide +kernel)
    refine dss_freeze (i := 4) rfl rfl (ds_retV (d := .bl true) (DV.cast (dv_and (x := true) (y := true) (dv_cmp (dv_v 4) (dv_lst (as := [.bl true, .bl true, .bl false, .str "() * 2", .int 0, .bl false]) (dl_cons de_bl (dl_cons de_bl (dl_cons de_bl (dl_cons de_str (dl_cons de_int (dl_cons de_bl da_nil)))))) (by simp)) ((o_eqD (rm hr 64) (show (D.lst [.bl true, .bl true, .bl false, .str "() * 2", .int 0, .bl false]).py = some (.list [.bool true, .bool true, .bool false, .str "() * 2", .int 0, .bool false]) from rfl) rfl (by decide +kernel) (by decide +kernel)).imp fun d e => ?_) rfl) fun _ => dv_one ?_) rfl) rfl)
    · rw [e]
      exact congrArg D.bl (by decide +kernel)
    · refine dv_cmp (a := .int 2) (DE.imp (de_ixOwn (E := EF) (T.t.get [([], 2)] (ansT []) (knT_ans (by decide +kernel))) T.t.gi (Room.mono hr (by omega)) passF (DV.cast (dv_tallyD M cU (by decide) (by decide) (by decide +kernel) hr2 (Nat.le_refl _) rfl (dv_disp1 (k := kI []) (rm hr 0) (DV.cast (dv_tup da_nil (by decide)) rfl) de_int)) (by rw [tally_pos (by decide)]; rfl)) (dv_tup da_nil (by decide)) rfl (fun d e => e) fun _ _ z => z.elim) fun d e => ?_) de_int (o_eqI.imp fun d e => by rw [e]; rfl) rfl
      rw [e, valAt_at _ (by decide +kernel)]
      rfl
end
end K31

set_option Elab.async false
set_option linter.all false
set_option maxRecDepth 100000
set_option maxHeartbeats 16000000
namespace K31
open PySem PyProof.Rows L2 Dt
/-! written tallies of the second law -/
def sM : Tm := [([1], 2), ([2], 1)]
theorem ct_two {x y N : Int} (h0 : 0 ≤ x) (h1 : x < N) (h2 : 0 ≤ y) (h3 : y < N) : Ct 1 2 N [([1], x), ([2], y)] := by
  have ok1 : okI 1 := by unfold okI; decide
  have ok2 : okI 2 := by unfold okI; decide
  refine ⟨show ([[1], [2]] : List Ans).Nodup by decide, by simp, fun p hp => ?_, fun p hp => ?_, fun p hp => ?_, fun p hp => ?_⟩ <;> (simp only [List.mem_cons, List.not_mem_nil, or_false] at hp; rcases hp with rfl | rfl)
  · rfl
  · rfl
  · exact fun i hi => by rw [List.mem_singleton.mp hi]; exact ok1
  · exact fun i hi => by rw [List.mem_singleton.mp hi]; exact ok2
  · exact h0
  · exact h2
  · exact h1
  · exact h3
theorem sort12 : sortA [[1], [2]] = [[1], [2]] := List.mergeSort_of_pairwise (by decide +kernel)
theorem tally12 {x y : Int} (hx : 0 < x) (hy : 0 < y) : tallyOf [([1], x), ([2], y)] = [([1], x), ([2], y)] := by
  have n1 : numAt [([1], x), ([2], y)] [1] = x := by rw [numAt_cons]; rfl
  have n2 : numAt [([1], x), ([2], y)] [2] = y := by rw [numAt_cons, numAt_cons]; rfl
  have e : posA [([1], x), ([2], y)] = [[1], [2]] := by
    unfold posA
    show List.filter _ [[1], [2]] = _
    rw [List.filter_cons, List.filter_cons, n1, n2, decide_eq_true hx, decide_eq_true hy]
    rfl
  unfold tallyOf
  rw [e, sort12]
  show [([1], numAt _ [1]), ([2], numAt _ [2])] = _
  rw [n1, n2]
theorem tally_zeros : tallyOf (mulM sM 0) = [] := by
  have e : tallyOf (mulM sM 0) = tallyOf [] := tally_same (by decide) (by decide) fun a => by rw [numAt_mul, numAt_nil, Int.mul_zero]
  rw [e, tally_nil]
theorem str1 : strM [([2], 1)] = "(2) * 1" := by decide +kernel
theorem str2 : strM [([1], 6), ([2], 3)] = "(1) * 6, (2) * 3" := by decide +kernel
theorem str3 : strM [] = "none" := by decide +kernel
theorem less_one : tallyOf (combM sM [([1], 2)] (-1)) = [([2], 1)] := by
  have e : tallyOf (combM sM [([1], 2)] (-1)) = tallyOf [([2], 1)] := tally_same (by rw [keys_comb]; exact nd_comb _ _) (by decide) fun a => by
    rw [numAt_comb]
    unfold sM
    rw [numAt_cons, numAt_cons, numAt_cons, numAt_nil]
    show (if a = [1] then (2 : Int) else if a = [2] then 1 else 0) + -1 * (if a = [1] then 2 else 0) = if a = [2] then 1 else 0
    by_cases h : a = [1]
    · subst h
      decide
    · rw [if_neg h, if_neg h]
      omega
  rw [e]
  exact tally_pos (by decide)
section
variable {P : Program} {w : World} {K : PySem.W.Frag} {mg : Str → Option Value} {base : Heap} {k : Nat} {f : Addr} {fd : FuncData} {CT CC CI CO : Addr}
abbrev p_rightToo (K : PySem.W.Frag) : Sp := spT K (tabT K) true (fun as => ∃ a, as = [.adr a]) (fun _ r => r = .bl true) noX
abbrev p_other (K : PySem.W.Frag) (ns : List Int) : Sp := spT K (tabT K) false (· = [.scr ns]) (fun _ r => r = .bl true) noX
theorem t_law_other (B : Bi mg) (O : Ow P K mg CT CC CI CO) (T : Top P w K mg base k CT CC CI CO) (M : Mk2 P w K mg base (k + 1) CT CC CI) (ns : List Int)
    (C1 : ∀ i : Nat, i < 1000 → Dt.Cl P w K mg base (k + 5) "_law_dice" (p_die K ns i) []) (C2 : Dt.Cl P w K mg base (k + 5) "_law_right_too" (p_rightToo K) []) (F : FunOf K d__law_other f fd) : FnOk P w K mg base (L2.CX P w) (k + 6) f fd ["script"] (p_other K ns) :=
  fn_dT (N := ["script", "spot", "dice", "turn", "some", "zero", "told"]) F (C8.fnScope_by rfl) (fun as e => by subst e; rfl) fun c as cdv A outer s E hr e hz hT => by
    subst e
    refine dss_cons (N := fun ds => ∃ t1 t2 t3 : Sl, ds = [.val (.scr ns), t1, t2, t3, .no, .no, .no]) (ds_forL (i := 1) (es := rngD 0 (spots ns.length)) (fun kk ds => ∃ t1 t2 t3 : Sl, ds = [.val (.scr ns), t1, t2, t3, .no, .no, .no]) PassesOwn.never rfl (of_decide_eq_true rfl) rfl (.inl rfl) (DI.imp (di_range1 (S := (· = (spots ns.length : Int))) rfl B.range ?_ fun j e => ?_) fun es h => ?_) ⟨_, _, _, rfl⟩ ?_ fun ds h => h) ?_
    · refine DE.imp (dv_callB rfl B.max rfl (dl_cons de_int (dl_cons (dv_callB rfl B.min rfl (dl_cons de_int (dl_cons (dv_callB rfl B.len rfl (dl_cons (dv_v 0) da_nil) c_lenR) da_nil)) (c_min2 rfl)) da_nil)) (c_max2 rfl)) fun d e => ⟨_, e, ?_⟩
      unfold spots
      split <;> split <;> split <;> split <;> omega
    · subst e
      unfold spots
      split <;> split <;> omega
    · obtain ⟨j, e, h⟩ := h
      subst e
      rw [h, Int.toNat_natCast]
    · rintro i d ds hd ⟨t1, t2, t3, rfl⟩
      obtain ⟨hi, rfl⟩ := rng_at hd
      have h5 := spots_le ns.length
      refine dss_cons (N := fun ds => ∃ a b d : Int, ds = [.val (.scr ns), .val (.int (i : Int)), .lst [.int a, .int b, .int d], t3, .no, .no, .no]) (ds_new (i := 2) (of_decide_eq_true rfl) rfl (.inl rfl) (dn_callN (C1 i (by omega)) (hr : Room (k + 5) _) (Nat.le_refl _) rfl (dl_cons (dv_v 0) (dl_cons (dv_v 1) da_nil)) rfl) fun s ⟨rs, ⟨a, b, d, e1⟩, e2⟩ => ⟨a, b, d, by subst e1 e2; rfl⟩) ?_
      rintro ds ⟨a, b, d, rfl⟩
      refine dss_one (ds_asDie (i := 2) rfl fun p c' hp htb => ds_forL (i := 3) (es := rngD 0 3) (fun kk ds => ∃ t3 : Sl, ds = [.val (.scr ns), .val (.int (i : Int)), .val (.adr p), t3, .no, .no, .no]) PassesOwn.never rfl (of_decide_eq_true rfl) rfl (.inl rfl) (DI.imp (di_range1 (S := (· = (3 : Int))) rfl B.range (DV.to de_int ⟨3, rfl, rfl⟩) fun z e => by subst e; decide) fun es h => ?_) ⟨_, rfl⟩ ?_ fun ds ⟨t3, e⟩ => ⟨_, _, _, e⟩)
      · obtain ⟨z, e, h⟩ := h
        subst e
        exact h
      · rintro l d2 ds h2 ⟨t3, rfl⟩
        refine dss_guard (b := false) (DB.cast (db_not (x := true) (db_val (dv_callT C2 (hr : Room (k + 5) _) (Nat.le_refl _) rfl (dl_cons (dv_v 2) da_nil) ⟨p, rfl⟩ (fun a h => ?_) (fun d h => h) (.inr (htb.trans hT).symm)))) rfl) (fun z => by cases z) fun _ => dss_nil ⟨_, rfl⟩
        rw [List.mem_singleton.mp h]
        exact hp
    rintro ds ⟨t1, t2, t3, rfl⟩
    have hr2 : Room (k + 2) (A.deeper (envOfC d__law_other.qual d__law_other.scope s.heap.objs.size f cdv)) := Room.mono hr (by omega)
    have hr1 : Room (k + 1) (A.deeper (envOfC d__law_other.qual d__law_other.scope s.heap.objs.size f cdv)) := Room.mono hr (by omega)
    have hrk : Room k (A.deeper (envOfC d__law_other.qual d__law_other.scope s.heap.objs.size f cdv)) := Room.mono hr (by omega)
    have c0 : Ct 2 1 1 [([1, 2], 0)] := ct_one (a := [1, 2]) (by decide) (by decide) (by unfold okI; decide)
    have cS : Ct 1 2 3 sM := ct_two (by decide) (by decide) (by decide) (by decide)
    have cN : Ct 1 0 3 [] := ct_nil (by decide)
    have c12 : Ct 1 1 3 [([1], 2)] := ct_one (a := [1]) (by decide) (by decide) (by unfold okI; decide)
    have bS : Bd 1 2 3 := ⟨by decide, by decide, by decide, by decide +kernel⟩
    have bN : Bd 1 0 3 := ⟨by decide, by decide, by decide, by decide +kernel⟩
    have b1 : Bd 1 1 3 := ⟨by decide, by decide, by decide, by decide +kernel⟩
    let tS := talD CT (tallyOf sM)
    let tN := talD CT (tallyOf [])
    have eqSelf : eqM (tallyOf sM) (tallyOf sM) = true := eqM_self (nd_tally cS.nd)
    refine dss_to (ds' := [.val (.scr ns), t1, t2, t3, .val tS, .val tN, .no]) (ds_par (i := 4) (j := 5) rfl (of_decide_eq_true rfl) rfl rfl (by decide) rfl rfl (Pa := (· = tS)) (Pb := (· = tN)) ?_ ?_ fun x y e1 e2 => by subst e1 e2; rfl) ?_
    · exact dv_tallyD M cS (by decide) (by decide) (by decide +kernel) hr2 (Nat.le_refl _) rfl (dv_disp2 (k := kI [1]) (k2 := kI [2]) (rm hr 0) (by decide) (DV.cast (dv_tup (dl_cons de_int da_nil) (by decide)) rfl) de_int (DV.cast (dv_tup (dl_cons de_int da_nil) (by decide)) rfl) de_int)
    · exact DV.cast (dv_tallyD M c0 (by decide) (by decide) (by decide +kernel) hr2 (Nat.le_refl _) rfl (dv_disp1 (k := kI [1, 2]) (rm hr 0) (DV.cast (dv_tup (dl_cons de_int (dl_cons de_int da_nil)) (by decide)) rfl) de_int)) (by rw [tally_zero]; show _ = talD CT (tallyOf []); rw [tally_nil])
    have leN : leM (tallyOf []) (tallyOf sM) = true := (leM_iff cN cS).mpr fun a => by rw [numAt_nil]; exact cS.num0 a
    refine dss_guard (b := false) (DB.cast (db_w (dw_or (x := false) (y := false) ?_ fun _ => dw_or (x := false) (y := false) ?_ fun _ => dw_or (x := false) (y := false) (DB.cast (db_not (x := true) (db_val ?_)) rfl) fun _ => dw_or1 (DB.cast (db_not (x := true) (db_val ?_)) rfl))) rfl) (fun z => by cases z) fun _ => ?_
    · have e1 : tallyOf (combM [] sM 1) = tallyOf sM := tally_same (by rw [keys_comb]; exact nd_comb _ _) cS.nd fun a => by rw [numAt_comb, numAt_nil]; omega
      refine db_cmp (dv_bin (dv_v 5) (dv_v 4) (o_addC T hrk cN cS bN bS)) (dv_v 4) ((o_neC T O hr1 (tallyOf (combM [] sM 1)) (tallyOf sM) (Nat.le_trans cS.tally.len (by decide))).imp fun d e => ?_) rfl
      rw [e, e1, eqSelf]
      rfl
    · have e1 : tallyOf (combM sM [] (-1)) = tallyOf sM := tally_same (by rw [keys_comb]; exact nd_comb _ _) cS.nd fun a => by rw [numAt_comb, numAt_nil]; omega
      refine db_cmp (dv_bin (dv_v 4) (dv_v 5) (o_subC T hrk cS cN bS bN fun a => by rw [numAt_nil]; exact cS.num0 a)) (dv_v 4) ((o_neC T O hr1 (tallyOf (combM sM [] (-1))) (tallyOf sM) (Nat.le_trans cS.tally.len (by decide))).imp fun d e => ?_) rfl
      rw [e, e1, eqSelf]
      rfl
    · exact DV.cast (dv_withinC T hr (by omega) cN cS bN bS (dv_v 5) (dv_v 4)) (by rw [leN])
    · exact DV.cast (dv_withinC T hr (by omega) cN cS bN bS (dv_bin (dv_v 5) de_int (o_mulC T O hrk cN bN (by decide) (by decide))) (dv_v 4)) (by rw [leN])
    have cM : ∀ n : Int, 0 ≤ n → n ≤ 3 → Ct 1 2 (3 * 3) (mulM sM n) := fun n h0 h1 => cS.mul h0 h1 (by decide)
    have bM : Bd 1 2 (3 * 3) := ⟨by decide, by decide, by decide, by decide +kernel⟩
    have e3 : tallyOf (mulM sM 3) = [([1], 6), ([2], 3)] := tally12 (x := 6) (y := 3) (by decide) (by decide)
    have cc : Ct 1 4 6 (combM sM sM 1) := cS.add cS (by decide) (by decide)
    have leS : leM (tallyOf sM) (tallyOf (mulM sM 2)) = true := (leM_iff cS (cM 2 (by decide) (by decide))).mpr fun a => by
      rw [numAt_mul]
      have := cS.num0 a
      omega
    have v4 : valAt (tallyOf (combM sM sM 1)) (ansT [1]) = 4 := by
      rw [valAt_at _ (by decide +kernel), numAt_tallyN cc.nn, numAt_comb]
      decide +kernel
    have hS : ∀ {m : Tm} {x : Str} {N : Int} {L : Nat}, Ct 1 L N m → L ≤ 100 → N ≤ 10 ^ 100 → strM m = x → CallD (cxOf (L2.CX P w) P w K mg base ["script", "spot", "dice", "turn", "some", "zero", "told"] d__law_other.qual d__law_other.scope f cdv A outer s c.H0 E).nox (.type "str") c [talD CT m] (· = .str x) := fun {m x N L} h hL hN e =>
      c_strOwn (E := EF) (T.str m (h.shM (by decide) hL hN)) hr2 passF rfl (fun d e2 => by rw [e2, e]) fun _ _ z => z.elim
    refine dss_to (ds' := [.val (.scr ns), t1, t2, t3, .val tS, .val tN, .val (.lst [.str "(2) * 1", .str "(1) * 6, (2) * 3", .str "none", .int 4, .bl true])]) (ds_set (i := 6) (of_decide_eq_true rfl) rfl (.inl rfl) (P := (· = .lst [.str "(2) * 1", .str "(1) * 6, (2) * 3", .str "none", .int 4, .bl true])) (dv_lst (dl_cons ?_ (dl_cons ?_ (dl_cons ?_ (dl_cons ?_ (dl_cons ?_ da_nil))))) (by simp)) fun d e => by subst e; rfl) ?_
    · refine dv_callTy rfl B.str rfl (dl_cons (a := talD CT [([2], 1)]) (DV.cast (dv_bin (dv_v 4) (dv_tallyD M c12 (by decide) (by decide) (by decide +kernel) hr2 (Nat.le_refl _) rfl (dv_disp1 (k := kI [1]) (rm hr 0) (DV.cast (dv_tup (dl_cons de_int da_nil) (by decide)) rfl) de_int)) (o_subC T hrk cS c12 bS b1 fun a => ?_)) (by rw [less_one])) da_nil) (hS (ct_one (a := [2]) (N := 3) (by decide) (by decide) (by unfold okI; decide)) (by decide) (by decide +kernel) str1)
      unfold sM
      rw [numAt_cons, numAt_cons, numAt_cons, numAt_nil]
      show (if a = [1] then (2 : Int) else 0) ≤ if a = [1] then 2 else if a = [2] then 1 else 0
      split
      · exact Int.le_refl _
      · split <;> decide
    · exact dv_callTy rfl B.str rfl (dl_cons (a := talD CT [([1], 6), ([2], 3)]) (DV.cast (dv_bin de_int (dv_v 4) (o_rmulC T hrk cS bS (by decide) (by decide))) (by rw [e3])) da_nil) (hS (ct_two (N := 7) (by decide) (by decide) (by decide) (by decide)) (by decide) (by decide +kernel) str2)
    · exact dv_callTy rfl B.str rfl (dl_cons (a := talD CT []) (DV.cast (dv_bin (dv_v 4) de_int (o_mulC T O hrk cS bS (by decide) (by decide))) (by rw [tally_zeros])) da_nil) (hS (L := 0) (N := 3) cN (by decide) (by decide +kernel) str3)
    · exact DE.imp (de_ixOwn (E := EF) (T.t.get (tallyOf (combM sM sM 1)) (ansT [1]) (knT_ans (by decide +kernel))) T.t.gi (Room.mono hr (by omega)) passF (dv_bin (dv_v 4) (dv_v 4) (o_addC T hrk cS cS bS bS)) (dv_tup (dl_cons de_int da_nil) (by decide)) rfl (fun d e => e) fun _ _ z => z.elim) fun d e => by rw [e, v4]
    · exact DV.cast (dv_withinC T hr (by omega) cS (cM 2 (by decide) (by decide)) bS bM (dv_v 4) (dv_bin de_int (dv_v 4) (o_rmulC T hrk cS bS (by decide) (by decide)))) (by rw [leS])
    refine dss_one (ds_ret (dv_cmp (dv_v 6) (dv_lst (as := [.str "(2) * 1", .str "(1) * 6, (2) * 3", .str "none", .int 4, .bl true]) (dl_cons de_str (dl_cons de_str (dl_cons de_str (dl_cons de_int (dl_cons de_bl da_nil))))) (by simp)) ((o_eqD (rm hr 64) (show (D.lst [.str "(2) * 1", .str "(1) * 6, (2) * 3", .str "none", .int 4, .bl true]).py = some (.list [.str "(2) * 1", .str "(1) * 6, (2) * 3", .str "none", .int 4, .bool true]) from rfl) rfl (by decide +kernel) (by decide +kernel)).imp fun d e => ?_) rfl))
    show d = .bl true
    rw [e]
    exact congrArg D.bl (by decide +kernel)
abbrev p_law (K : PySem.W.Frag) (ns : List Int) : Sp := spT K (tabT K) false (· = [.scr ns]) (fun _ r => r = .bl true) noX
theorem t_law (B : Bi mg) (ns : List Int) (C1 : ClG P w K mg base k "_law_one" (p_one K ns) []) (C2 : Dt.Cl P w K mg base k "_law_other" (p_other K ns) []) (F : FunOf K d_law f fd) : FnG P w K mg base (L2.CX P w) (k + 1) f fd ["script"] (p_law K ns) :=
  fn_dG (N := ["script"]) F (C8.fnScope_by rfl) (fun as e => by subst e; rfl) fun c as cdv A outer s E hr gd e hz hT => by
    subst e
    exact ds_retV (d := .bl true) (DV.cast (dv_and (x := true) (y := true) (dv_callG C1 gd (hr : Room k _) (Nat.le_refl _) rfl (dl_cons (dv_v 0) da_nil) rfl (fun a h => by cases h) fun d h => h) fun _ => dv_one (dv_callT C2 (hr : Room k _) (Nat.le_refl _) rfl (dl_cons (dv_v 0) da_nil) rfl (fun a h => by cases h) (fun d h => h) (.inr hT.symm))) rfl) rfl
end
end K31

set_option Elab.async false
set_option linter.all false
set_option maxRecDepth 100000
set_option maxHeartbeats 0
namespace K31
open PySem PySem.Spec PyProof.Rows L2 HkY
def fa : List He.Fa := [.glo "GoneError", .glo "InvalidTally", .glo "InvalidOperation", .glo "Counts", .glo "Tally", .glo "is_number", .glo "is_integer", .glo "fits_tally", .glo "fit_tally", .glo "counts_in", .glo "answer_text", .glo "combined", .glo "require_alike", .glo "_law_dice", .glo "_law_roll", .glo "_law_pick", .glo "_law_mixed", .glo "_law_pool", .glo "_law_number", .glo "_law_pairs", .glo "_law_text", .glo "_law_refused", .glo "_law_bad", .glo "_law_strange", .glo "_law_right", .glo "_law_counts", .glo "_law_added", .glo "_law_times", .glo "_law_shows", .glo "_law_within"] ++ [.glo "_law_refused_too", .glo "_law_less_right", .glo "_law_others_right", .glo "_law_right_too", .glo "_law_one", .glo "_law_other", .glo "law", .free "ValueError", .free "abs", .free "all", .free "any", .free "bool", .free "dict", .free "enumerate", .free "int", .free "isinstance", .free "iter", .free "len", .free "list", .free "max", .free "min", .free "range", .free "repr", .free "set", .free "sorted", .free "str", .free "sum", .free "tuple", .int "LEAST" (1 - 10 ^ 20), .int "GREATEST" (10 ^ 20 - 1)] ++ [.int "MOST_TERMS" 4, .int "BEYOND" (10 ^ 40), .cls "Tally", .cls "Counts", .noat "Tally" "own_answers", .noat "Tally" "own_numbers", .noat "Counts" "own_told", .meth "Tally" "within", .meth "Tally" "__getitem__", .meth "Tally" "__len__", .meth "Tally" "__bool__", .meth "Tally" "__contains__", .meth "Tally" "__eq__", .meth "Tally" "__add__", .meth "Tally" "__sub__", .meth "Tally" "__mul__", .meth "Tally" "__rmul__", .meth "Tally" "__str__", .mkr "Tally", .mkr "Counts"]
def dA_total : He5.DefA := { at_ := fun K => He5.wf K (He.ga K "Tally") "property" "total", name := "total", qual := "Tally.total", params := defArgs s_Tally_total, body := defBody s_Tally_total, scope := defScope s_Tally_total }
def dA_listed : He5.DefA := { at_ := fun K => He5.wf K (He.ga K "Tally") "property" "listed", name := "listed", qual := "Tally.listed", params := defArgs s_Tally_listed, body := defBody s_Tally_listed, scope := defScope s_Tally_listed }
def fp : List He5.DefA := [dA_total, dA_listed]
def gfA (K : PySem.W.Frag) : Addr := He.ma K (He.ga K "GoneError") "__init__"
abbrev cT (K : PySem.W.Frag) : Addr := He.ga K "Tally"
abbrev cC (K : PySem.W.Frag) : Addr := He.ga K "Counts"
abbrev cI (K : PySem.W.Frag) : Addr := He.ga K "InvalidTally"
abbrev cO (K : PySem.W.Frag) : Addr := He.ga K "InvalidOperation"
abbrev cG (K : PySem.W.Frag) : Addr := He.ga K "GoneError"
def obC (K : PySem.W.Frag) (C : Addr) : List Bool := [eqV (PySem.W.findIn K (.ref C) "__class__") (some (some (.builtin "object.__class__"))), eqV (PySem.W.specialIn K (.builtin "object.__class__") "__get__") (some (some (.builtin "getset_descriptor.__get__"))), decide (PySem.W.takesIn K (.builtin "object.__class__") = some true), decide (PySem.W.mroIn K C (.type "object") = some true)]
def exL (P : Program) (K : PySem.W.Frag) : List Bool := [
  [cT K, cC K].all fun C => ("NoneType" :: Dt.btys).all fun n => decide (PySem.W.kitOne K (.type n) (.ref C) = some false),
  [cT K, cC K].all fun C => Dt.btys.all fun n => decide (PySem.W.kitOne K (.ref C) (.type n) = some false),
  [cT K, cC K].all fun C => [cT K, cC K].all fun C' => decide (PySem.W.kitOne K (.ref C) (.ref C') = some (decide (C = C'))),
  allB (obC K (cT K)), allB (obC K (cC K)), decide (cT K ≠ cC K),
  allB (gexL P K (cI K) (cG K) (gfA K)), allB (gexL P K (cO K) (cG K) (gfA K)), allB (excL K (cI K)), allB (excL K (cO K)),
  decide (PySem.W.exmOne K (.ref (cI K)) (.ref (cI K)) = some true), decide (PySem.W.exmOne K (.ref (cO K)) (.ref (cO K)) = some true),
  decide (PySem.W.kitOne K (.ref (cI K)) (.ref (cG K)) = some true), decide (PySem.W.kitOne K (.ref (cI K)) (.type "ValueError") = some true), decide (PySem.W.kitOne K (.ref (cI K)) (.ref (cO K)) = some false),
  decide (PySem.W.kitOne K (.ref (cO K)) (.ref (cG K)) = some true), decide (PySem.W.kitOne K (.ref (cO K)) (.type "ValueError") = some true), decide (PySem.W.kitOne K (.ref (cO K)) (.ref (cI K)) = some false),
  PySem.W.selfFirst K (cT K), PySem.W.fnIn K (He.ma K (cT K) "__getitem__"),
  tys.all fun n => otherTy K (cT K) "add" n, tys.all fun n => otherTy K (cT K) "sub" n, tys.all fun n => otherTy K (cT K) "mul" n,
  eqV (PySem.W.findIn K (.ref (cT K)) (dunderR "add")) (some none), eqV (PySem.W.findIn K (.ref (cT K)) (dunderR "sub")) (some none),
  eqV (PySem.W.findIn K (.ref (cT K)) (dunderR "mul")) (some (some (.ref (He.ma K (cT K) "__rmul__")))), eqV (PySem.W.findIn K (.ref (cT K)) (PySem.dunder "mul")) (some (some (.ref (He.ma K (cT K) "__mul__")))),
  decide (PySem.W.mroIn K (cT K) (.type "NoneType") = some false), decide (PySem.W.mroIn K (cT K) (.type "bool") = some false), decide (PySem.W.mroIn K (cT K) (.type "int") = some false),
  tys.all fun n => PySem.W.notFirst K (cT K) (.type n), PySem.W.notFirst K (cT K) (.ref (cT K)),
  eqV (PySem.W.findIn K (.ref (cT K)) "__ne__") (some (some (.builtin "object.__ne__"))), (match PySem.W.clsIn K (cT K) with
    | some cd => decide (cd.mro = [.ref (cT K), .type "object"])
    | none => false),
  eqV (PySem.W.findIn K (.ref (cT K)) (dunderI "add")) (some none), eqV (PySem.W.findIn K (.type "object") (dunderI "add")) (some none),
  allB (prpL K (cT K) "total"), allB (prpL K (cT K) "listed"), decide ((He.cT K atLess).2 ≠ (He.cT K atOthers).2)]
def exB (P : Program) (K : PySem.W.Frag) : Bool := allB (exL P K)
def tf : List He.Defn := [atLess, atOthers]
abbrev R : PySem.W.OpenRow := PySem.W.OpenLaw.row PySem.Challenge.rw_gonewithin_k31_tallies_made_and_combined
abbrev prg : Program := (PySem.Challenge.rw_gonewithin_k31_tallies_made_and_combined).prog
abbrev hk : PySem.W.Hook := hookY 5 fa fn fp gfA tf (exB prg)
def ob (s : PySem.W.SharedT) : HkY.Al := obsY 5 fa fn fp gfA tf (exB prg) (HandSHeadRun.getT s)
theorem ob_eq (s : PySem.W.SharedT) : ob s = hk.obs s.abs := obsY_eq (HandSHeadRun.getT_eq s)
def loose : List Str := (["__name__", "GoneError", "InvalidTally", "InvalidOperation", "LEAST", "GREATEST", "is_number", "is_integer", "MOST_TERMS", "BEYOND", "fits_tally", "fit_tally", "Counts", "counts_in", "answer_text", "combined", "Tally", "require_alike", "_law_dice", "_law_roll"] : List Str) ++ (["_law_pick", "_law_mixed", "_law_pool", "_law_number", "_law_pairs", "_law_text", "_law_refused", "_law_bad", "_law_strange", "_law_right", "_law_counts", "_law_added", "_law_times", "_law_shows", "_law_within", "_law_refused_too", "_law_less_right", "_law_others_right", "_law_right_too", "_law_one", "_law_other"] : List Str)
end K31

set_option Elab.async false
set_option linter.all false
set_option maxRecDepth 100000
set_option maxHeartbeats 0
namespace K31
open PySem PySem.Spec PyProof.Rows L2 HkY
theorem run (w : World) : HandSHeadRun.RunEq R (PySem.W.view R.prog [44]) hk ob 4000 loose w := by
  intro os
  kernel_rfl
end K31

set_option Elab.async false
set_option linter.all false
set_option maxRecDepth 100000
set_option maxHeartbeats 16000000
namespace K31
open PySem PyProof.Rows L2 Dt HkY
section
variable {w : World} {K : PySem.W.Frag} {h : Heap} {mg : Str → Option Value}
theorem bi_of (X : K.In h) (G : h.Ns mainGlobals mg) (c : Says fa fn fp gfA tf (exB prg) h K) : Bi mg where
  ValueError := He.free_ok X G (c.d.fact 37 (f := .free "ValueError") rfl)
  abs := He.free_ok X G (c.d.fact 38 (f := .free "abs") rfl)
  all := He.free_ok X G (c.d.fact 39 (f := .free "all") rfl)
  any := He.free_ok X G (c.d.fact 40 (f := .free "any") rfl)
  bool := He.free_ok X G (c.d.fact 41 (f := .free "bool") rfl)
  dict := He.free_ok X G (c.d.fact 42 (f := .free "dict") rfl)
  enumerate := He.free_ok X G (c.d.fact 43 (f := .free "enumerate") rfl)
  int := He.free_ok X G (c.d.fact 44 (f := .free "int") rfl)
  isinstance := He.free_ok X G (c.d.fact 45 (f := .free "isinstance") rfl)
  iter := He.free_ok X G (c.d.fact 46 (f := .free "iter") rfl)
  len := He.free_ok X G (c.d.fact 47 (f := .free "len") rfl)
  list := He.free_ok X G (c.d.fact 48 (f := .free "list") rfl)
  max := He.free_ok X G (c.d.fact 49 (f := .free "max") rfl)
  min := He.free_ok X G (c.d.fact 50 (f := .free "min") rfl)
  range := He.free_ok X G (c.d.fact 51 (f := .free "range") rfl)
  repr := He.free_ok X G (c.d.fact 52 (f := .free "repr") rfl)
  set := He.free_ok X G (c.d.fact 53 (f := .free "set") rfl)
  sorted := He.free_ok X G (c.d.fact 54 (f := .free "sorted") rfl)
  str := He.free_ok X G (c.d.fact 55 (f := .free "str") rfl)
  sum := He.free_ok X G (c.d.fact 56 (f := .free "sum") rfl)
  tuple := He.free_ok X G (c.d.fact 57 (f := .free "tuple") rfl)
  LEAST := He.int_ok X G (c.d.fact 58 (f := .int "LEAST" (1 - 10 ^ 20)) rfl)
  GREATEST := He.int_ok X G (c.d.fact 59 (f := .int "GREATEST" (10 ^ 20 - 1)) rfl)
  MOST_TERMS := He.int_ok X G (c.d.fact 60 (f := .int "MOST_TERMS" 4) rfl)
  BEYOND := He.int_ok X G (c.d.fact 61 (f := .int "BEYOND" (10 ^ 40)) rfl)
theorem obC_ok {C : Addr} (cl : Cls K C) (h : allB (obC K C) = true) : ClsF K C := ⟨cl, eqV_ok (allB_at h (i := 0) rfl), eqV_ok (allB_at h (i := 1) rfl), of_decide_eq_true (allB_at h (i := 2) rfl), of_decide_eq_true (allB_at h (i := 3) rfl)⟩
theorem ow_of (X : K.In h) (G : h.Ns mainGlobals mg) (c : Says fa fn fp gfA tf (exB prg) h K) : Ow prg K mg (cT K) (cC K) (cI K) (cO K) where
  Tally := He.glo_ok X G (c.d.fact 4 (f := .glo "Tally") rfl)
  Counts := He.glo_ok X G (c.d.fact 3 (f := .glo "Counts") rfl)
  InvalidTally := He.glo_ok X G (c.d.fact 1 (f := .glo "InvalidTally") rfl)
  InvalidOperation := He.glo_ok X G (c.d.fact 2 (f := .glo "InvalidOperation") rfl)
  kl := ⟨fun C hC n hn => of_decide_eq_true (all_of (all_of (allB_at c.more (i := 0) rfl) C hC) n hn), fun C hC => ⟨by
      rcases List.mem_cons.mp hC with e | hC
      · rw [e]
        exact obC_ok (He.cls_ok (c.d.fact 62 (f := .cls "Tally") rfl)) (allB_at c.more (i := 3) rfl)
      · rw [List.mem_singleton.mp hC]
        exact obC_ok (He.cls_ok (c.d.fact 63 (f := .cls "Counts") rfl)) (allB_at c.more (i := 4) rfl), fun n hn => of_decide_eq_true (all_of (all_of (allB_at c.more (i := 1) rfl) C hC) n hn), fun C' hC' => of_decide_eq_true (all_of (all_of (allB_at c.more (i := 2) rfl) C hC) C' hC')⟩⟩
  ne := of_decide_eq_true (allB_at c.more (i := 5) rfl)
  gI := ⟨_, _, gex_ok (allB_at c.more (i := 6) rfl) c.g⟩
  gO := ⟨_, _, gex_ok (allB_at c.more (i := 7) rfl) c.g⟩
  clT := He.cls_ok (c.d.fact 62 (f := .cls "Tally") rfl)
  clC := He.cls_ok (c.d.fact 63 (f := .cls "Counts") rfl)
  na1 := He.noat_ok (c.d.fact 64 (f := .noat "Tally" "own_answers") rfl)
  na2 := He.noat_ok (c.d.fact 65 (f := .noat "Tally" "own_numbers") rfl)
  na3 := He.noat_ok (c.d.fact 66 (f := .noat "Counts" "own_told") rfl)
theorem exq_of (X : K.In h) (G : h.Ns mainGlobals mg) (c : Says fa fn fp gfA tf (exB prg) h K) : Exq K mg (cG K) (cI K) (cO K) where
  gone := He.glo_ok X G (c.d.fact 0 (f := .glo "GoneError") rfl)
  exI := exc_ok (allB_at c.more (i := 8) rfl)
  exO := exc_ok (allB_at c.more (i := 9) rfl)
  mI := of_decide_eq_true (allB_at c.more (i := 10) rfl)
  mO := of_decide_eq_true (allB_at c.more (i := 11) rfl)
  i1 := of_decide_eq_true (allB_at c.more (i := 12) rfl)
  i2 := of_decide_eq_true (allB_at c.more (i := 13) rfl)
  i3 := of_decide_eq_true (allB_at c.more (i := 14) rfl)
  o1 := of_decide_eq_true (allB_at c.more (i := 15) rfl)
  o2 := of_decide_eq_true (allB_at c.more (i := 16) rfl)
  o3 := of_decide_eq_true (allB_at c.more (i := 17) rfl)
theorem cl_of {d : He.DefD} {P : Program} {base : Heap} {k : Nat} {x : Str} {f : Addr} {fd : FuncData} {ps : List Str} {sp : Sp} (F : FunOf K d f fd) (hm : mg x = some (.ref f)) (hb : Binds K fd ps []) (F2 : FnOk P w K mg base (L2.CX P w) k f fd ps sp) : Dt.Cl P w K mg base k x sp [] := ⟨f, fd, ps, [], F2, hm, F.kp, hb, .nil⟩
theorem clG_of {d : He.DefD} {P : Program} {base : Heap} {k : Nat} {x : Str} {f : Addr} {fd : FuncData} {ps : List Str} {sp : Sp} (F : FunOf K d f fd) (hm : mg x = some (.ref f)) (hb : Binds K fd ps []) (F2 : L2.FnG P w K mg base (L2.CX P w) k f fd ps sp) : ClG P w K mg base k x sp [] := ⟨f, fd, ps, [], F2, hm, F.kp, hb, .nil⟩
theorem mtd_of {P : Program} {base : Heap} {k : Nat} {C f : Addr} {m : Str} {fd : FuncData} {ps : List Str} {sp : Sp} (cl : Cls K C) (me : Meth K C m f) (hb : Binds K fd ps []) (F2 : FnOk P w K mg base (L2.CX P w) k f fd ps sp) : Mtd P w K mg base k C m sp := ⟨f, fd, ps, cl, me, F2, hb⟩
theorem refused_weak {CT CC : Addr} : ∀ vs H Q E, p_refused K CT CC vs H Q E → ∃ i : {d : D // BadP CT CC d}, spV K [i.1] (.bl true) vs H Q E := fun vs H Q E ⟨c, as, h1, h2, ⟨d, e, b⟩, r⟩ => ⟨⟨d, b⟩, c, as, h1, h2, e, r⟩
theorem others_weak {CT : Addr} {long : Nat} {m0 : Tm} : ∀ vs H Q E, p_others K CT long m0 vs H Q E → ∃ i : {m : Tm // ∃ L N, Ct long L N m ∧ Bd long L N}, spT K (tabT K) true (fun as => ∃ a, as = [.adr a, talD CT (tallyOf i.1), dicN m0, .int (long : Int)]) (fun _ r => r = .bl true) noX vs H Q E :=
  fun vs H Q E ⟨c, as, h1, h2, ⟨a, m, b, e⟩, r⟩ => ⟨⟨m, b⟩, c, as, h1, h2, ⟨a, e⟩, r⟩
end
theorem final (w : World) {K : PySem.W.Frag} {h : Heap} {mg : Str → Option Value} (X : K.In h) (G : h.Ns mainGlobals mg) (c : Says fa fn fp gfA tf (exB prg) h K) : ∃ fd : FuncData, (∀ (s : Shared) (u : Value), BindsTo s fd ⟨[u], []⟩ [("script", u)]) ∧
    ∀ base : Heap, (∀ p ∈ tf.map (He.cT K), LamX.TabB base mg p.1 p.2) → ∀ ns : List Int, L2.FnG prg w K mg base (L2.CX prg w) 16 (He.ga K "law") fd ["script"] (p_law K ns) := by
  have B := bi_of X G c
  have O := ow_of X G c
  have E := exq_of X G c
  obtain ⟨fd_is_number, F_is_number⟩ := (c.d.def_ 0 (d := d_is_number) rfl)
  obtain ⟨fd_is_integer, F_is_integer⟩ := (c.d.def_ 1 (d := d_is_integer) rfl)
  obtain ⟨fd_fits_tally, F_fits_tally⟩ := (c.d.def_ 2 (d := d_fits_tally) rfl)
  obtain ⟨fd_fit_tally, F_fit_tally⟩ := (c.d.def_ 3 (d := d_fit_tally) rfl)
  obtain ⟨fd_Counts_init, F_Counts_init⟩ := (c.d.def_ 4 (d := d_Counts_init) rfl)
  obtain ⟨fd_counts_in, F_counts_in⟩ := (c.d.def_ 5 (d := d_counts_in) rfl)
  obtain ⟨fd_answer_text, F_answer_text⟩ := (c.d.def_ 6 (d := d_answer_text) rfl)
  obtain ⟨fd_combined, F_combined⟩ := (c.d.def_ 7 (d := d_combined) rfl)
  obtain ⟨fd_Tally_init, F_Tally_init⟩ := (c.d.def_ 8 (d := d_Tally_init) rfl)
  obtain ⟨fd_Tally_within, F_Tally_within⟩ := (c.d.def_ 9 (d := d_Tally_within) rfl)
  obtain ⟨fd_Tally_getitem, F_Tally_getitem⟩ := (c.d.def_ 10 (d := d_Tally_getitem) rfl)
  obtain ⟨fd_Tally_len, F_Tally_len⟩ := (c.d.def_ 12 (d := d_Tally_len) rfl)
  obtain ⟨fd_Tally_bool, F_Tally_bool⟩ := (c.d.def_ 13 (d := d_Tally_bool) rfl)
  obtain ⟨fd_Tally_contains, F_Tally_contains⟩ := (c.d.def_ 14 (d := d_Tally_contains) rfl)
  obtain ⟨fd_Tally_eq, F_Tally_eq⟩ := (c.d.def_ 15 (d := d_Tally_eq) rfl)
  obtain ⟨fd_Tally_add, F_Tally_add⟩ := (c.d.def_ 16 (d := d_Tally_add) rfl)
  obtain ⟨fd_Tally_sub, F_Tally_sub⟩ := (c.d.def_ 17 (d := d_Tally_sub) rfl)
  obtain ⟨fd_Tally_mul, F_Tally_mul⟩ := (c.d.def_ 18 (d := d_Tally_mul) rfl)
  obtain ⟨fd_Tally_rmul, F_Tally_rmul⟩ := (c.d.def_ 19 (d := d_Tally_rmul) rfl)
  obtain ⟨fd_Tally_str, F_Tally_str⟩ := (c.d.def_ 20 (d := d_Tally_str) rfl)
  obtain ⟨fd_require_alike, F_require_alike⟩ := (c.d.def_ 21 (d := d_require_alike) rfl)
  obtain ⟨fd__law_dice, F__law_dice⟩ := (c.d.def_ 22 (d := d__law_dice) rfl)
  obtain ⟨fd__law_roll, F__law_roll⟩ := (c.d.def_ 23 (d := d__law_roll) rfl)
  obtain ⟨fd__law_pick, F__law_pick⟩ := (c.d.def_ 24 (d := d__law_pick) rfl)
  obtain ⟨fd__law_mixed, F__law_mixed⟩ := (c.d.def_ 25 (d := d__law_mixed) rfl)
  obtain ⟨fd__law_pool, F__law_pool⟩ := (c.d.def_ 26 (d := d__law_pool) rfl)
  obtain ⟨fd__law_number, F__law_number⟩ := (c.d.def_ 27 (d := d__law_number) rfl)
  obtain ⟨fd__law_pairs, F__law_pairs⟩ := (c.d.def_ 28 (d := d__law_pairs) rfl)
  obtain ⟨fd__law_text, F__law_text⟩ := (c.d.def_ 29 (d := d__law_text) rfl)
  obtain ⟨fd__law_refused, F__law_refused⟩ := (c.d.def_ 30 (d := d__law_refused) rfl)
  obtain ⟨fd__law_bad, F__law_bad⟩ := (c.d.def_ 31 (d := d__law_bad) rfl)
  obtain ⟨fd__law_strange, F__law_strange⟩ := (c.d.def_ 32 (d := d__law_strange) rfl)
  obtain ⟨fd__law_right, F__law_right⟩ := (c.d.def_ 33 (d := d__law_right) rfl)
  obtain ⟨fd__law_counts, F__law_counts⟩ := (c.d.def_ 34 (d := d__law_counts) rfl)
  obtain ⟨fd__law_added, F__law_added⟩ := (c.d.def_ 35 (d := d__law_added) rfl)
  obtain ⟨fd__law_times, F__law_times⟩ := (c.d.def_ 36 (d := d__law_times) rfl)
  obtain ⟨fd__law_shows, F__law_shows⟩ := (c.d.def_ 37 (d := d__law_shows) rfl)
  obtain ⟨fd__law_within, F__law_within⟩ := (c.d.def_ 38 (d := d__law_within) rfl)
  obtain ⟨fd__law_refused_too, F__law_refused_too⟩ := (c.d.def_ 39 (d := d__law_refused_too) rfl)
  obtain ⟨fd__law_less_right, F__law_less_right⟩ := (c.d.def_ 40 (d := d__law_less_right) rfl)
  obtain ⟨fd__law_others_right, F__law_others_right⟩ := (c.d.def_ 41 (d := d__law_others_right) rfl)
  obtain ⟨fd__law_right_too, F__law_right_too⟩ := (c.d.def_ 42 (d := d__law_right_too) rfl)
  obtain ⟨fd__law_one, F__law_one⟩ := (c.d.def_ 43 (d := d__law_one) rfl)
  obtain ⟨fd__law_other, F__law_other⟩ := (c.d.def_ 44 (d := d__law_other) rfl)
  obtain ⟨fd_law, F_law⟩ := (c.d.def_ 45 (d := d_law) rfl)
  have z_total := c.p.def_ 0 (d := dA_total) rfl
  have z_listed := c.p.def_ 1 (d := dA_listed) rfl
  obtain ⟨fd_total, F_total⟩ := z_total
  obtain ⟨fd_listed, F_listed⟩ := z_listed
  have g_is_number := He.glo_ok X G (c.d.fact 5 (f := .glo "is_number") rfl)
  have b_is_number := (F_is_number.bindsN (ps := ["value"]) fun _ _ _ _ _ _ us hl => match us, hl with | [_], _ => rfl)
  have g_is_integer := He.glo_ok X G (c.d.fact 6 (f := .glo "is_integer") rfl)
  have b_is_integer := (F_is_integer.bindsN (ps := ["value"]) fun _ _ _ _ _ _ us hl => match us, hl with | [_], _ => rfl)
  have g_fits_tally := He.glo_ok X G (c.d.fact 7 (f := .glo "fits_tally") rfl)
  have b_fits_tally := (F_fits_tally.bindsN (ps := ["value"]) fun _ _ _ _ _ _ us hl => match us, hl with | [_], _ => rfl)
  have g_fit_tally := He.glo_ok X G (c.d.fact 8 (f := .glo "fit_tally") rfl)
  have b_fit_tally := (F_fit_tally.bindsN (ps := ["value"]) fun _ _ _ _ _ _ us hl => match us, hl with | [_], _ => rfl)
  have g_counts_in := He.glo_ok X G (c.d.fact 9 (f := .glo "counts_in") rfl)
  have b_counts_in := (F_counts_in.bindsN (ps := ["counts"]) fun _ _ _ _ _ _ us hl => match us, hl with | [_], _ => rfl)
  have g_answer_text := He.glo_ok X G (c.d.fact 10 (f := .glo "answer_text") rfl)
  have b_answer_text := (F_answer_text.bindsN (ps := ["answer"]) fun _ _ _ _ _ _ us hl => match us, hl with | [_], _ => rfl)
  have g_combined := He.glo_ok X G (c.d.fact 11 (f := .glo "combined") rfl)
  have b_combined := (F_combined.bindsN (ps := ["one", "other", "sign"]) fun _ _ _ _ _ _ us hl => match us, hl with | [_, _, _], _ => rfl)
  have g_require_alike := He.glo_ok X G (c.d.fact 12 (f := .glo "require_alike") rfl)
  have b_require_alike := (F_require_alike.bindsN (ps := ["one", "other"]) fun _ _ _ _ _ _ us hl => match us, hl with | [_, _], _ => rfl)
  have g__law_dice := He.glo_ok X G (c.d.fact 13 (f := .glo "_law_dice") rfl)
  have b__law_dice := (F__law_dice.bindsN (ps := ["script", "spot"]) fun _ _ _ _ _ _ us hl => match us, hl with | [_, _], _ => rfl)
  have g__law_roll := He.glo_ok X G (c.d.fact 14 (f := .glo "_law_roll") rfl)
  have b__law_roll := (F__law_roll.bindsN (ps := ["dice", "upto"]) fun _ _ _ _ _ _ us hl => match us, hl with | [_, _], _ => rfl)
  have g__law_pick := He.glo_ok X G (c.d.fact 15 (f := .glo "_law_pick") rfl)
  have b__law_pick := (F__law_pick.bindsN (ps := ["dice", "items"]) fun _ _ _ _ _ _ us hl => match us, hl with | [_, _], _ => rfl)
  have g__law_mixed := He.glo_ok X G (c.d.fact 16 (f := .glo "_law_mixed") rfl)
  have b__law_mixed := (F__law_mixed.bindsN (ps := ["dice", "items"]) fun _ _ _ _ _ _ us hl => match us, hl with | [_, _], _ => rfl)
  have g__law_pool := He.glo_ok X G (c.d.fact 17 (f := .glo "_law_pool") rfl)
  have b__law_pool := (F__law_pool.bindsN (ps := ["dice", "lots"]) fun _ _ _ _ _ _ us hl => match us, hl with | [_, _], _ => rfl)
  have g__law_number := He.glo_ok X G (c.d.fact 18 (f := .glo "_law_number") rfl)
  have b__law_number := (F__law_number.bindsN (ps := ["dice"]) fun _ _ _ _ _ _ us hl => match us, hl with | [_], _ => rfl)
  have g__law_pairs := He.glo_ok X G (c.d.fact 19 (f := .glo "_law_pairs") rfl)
  have b__law_pairs := (F__law_pairs.bindsN (ps := ["dice", "long"]) fun _ _ _ _ _ _ us hl => match us, hl with | [_, _], _ => rfl)
  have g__law_text := He.glo_ok X G (c.d.fact 20 (f := .glo "_law_text") rfl)
  have b__law_text := (F__law_text.bindsN (ps := ["pairs"]) fun _ _ _ _ _ _ us hl => match us, hl with | [_], _ => rfl)
  have g__law_refused := He.glo_ok X G (c.d.fact 21 (f := .glo "_law_refused") rfl)
  have b__law_refused := (F__law_refused.bindsN (ps := ["value"]) fun _ _ _ _ _ _ us hl => match us, hl with | [_], _ => rfl)
  have g__law_bad := He.glo_ok X G (c.d.fact 22 (f := .glo "_law_bad") rfl)
  have b__law_bad := (F__law_bad.bindsN (ps := ["dice", "pairs", "long"]) fun _ _ _ _ _ _ us hl => match us, hl with | [_, _, _], _ => rfl)
  have g__law_strange := He.glo_ok X G (c.d.fact 23 (f := .glo "_law_strange") rfl)
  have b__law_strange := (F__law_strange.bindsN (ps := ["pairs"]) fun _ _ _ _ _ _ us hl => match us, hl with | [_], _ => rfl)
  have g__law_right := He.glo_ok X G (c.d.fact 24 (f := .glo "_law_right") rfl)
  have b__law_right := (F__law_right.bindsN (ps := ["dice"]) fun _ _ _ _ _ _ us hl => match us, hl with | [_], _ => rfl)
  have g__law_counts := He.glo_ok X G (c.d.fact 25 (f := .glo "_law_counts") rfl)
  have b__law_counts := (F__law_counts.bindsN (ps := ["dice", "long"]) fun _ _ _ _ _ _ us hl => match us, hl with | [_, _], _ => rfl)
  have g__law_added := He.glo_ok X G (c.d.fact 26 (f := .glo "_law_added") rfl)
  have b__law_added := (F__law_added.bindsN (ps := ["one", "other", "sign"]) fun _ _ _ _ _ _ us hl => match us, hl with | [_, _, _], _ => rfl)
  have g__law_times := He.glo_ok X G (c.d.fact 27 (f := .glo "_law_times") rfl)
  have b__law_times := (F__law_times.bindsN (ps := ["one", "factor"]) fun _ _ _ _ _ _ us hl => match us, hl with | [_, _], _ => rfl)
  have g__law_shows := He.glo_ok X G (c.d.fact 28 (f := .glo "_law_shows") rfl)
  have b__law_shows := (F__law_shows.bindsN (ps := ["tally", "due"]) fun _ _ _ _ _ _ us hl => match us, hl with | [_, _], _ => rfl)
  have g__law_within := He.glo_ok X G (c.d.fact 29 (f := .glo "_law_within") rfl)
  have b__law_within := (F__law_within.bindsN (ps := ["one", "other"]) fun _ _ _ _ _ _ us hl => match us, hl with | [_, _], _ => rfl)
  have g__law_less_right := He.glo_ok X G (c.d.fact 31 (f := .glo "_law_less_right") rfl)
  have b__law_less_right := (F__law_less_right.bindsN (ps := ["one", "other", "first", "second"]) fun _ _ _ _ _ _ us hl => match us, hl with | [_, _, _, _], _ => rfl)
  have g__law_others_right := He.glo_ok X G (c.d.fact 32 (f := .glo "_law_others_right") rfl)
  have b__law_others_right := (F__law_others_right.bindsN (ps := ["dice", "tally", "counts", "long"]) fun _ _ _ _ _ _ us hl => match us, hl with | [_, _, _, _], _ => rfl)
  have g__law_right_too := He.glo_ok X G (c.d.fact 33 (f := .glo "_law_right_too") rfl)
  have b__law_right_too := (F__law_right_too.bindsN (ps := ["dice"]) fun _ _ _ _ _ _ us hl => match us, hl with | [_], _ => rfl)
  have g__law_one := He.glo_ok X G (c.d.fact 34 (f := .glo "_law_one") rfl)
  have b__law_one := (F__law_one.bindsN (ps := ["script"]) fun _ _ _ _ _ _ us hl => match us, hl with | [_], _ => rfl)
  have g__law_other := He.glo_ok X G (c.d.fact 35 (f := .glo "_law_other") rfl)
  have b__law_other := (F__law_other.bindsN (ps := ["script"]) fun _ _ _ _ _ _ us hl => match us, hl with | [_], _ => rfl)
  have g_law := He.glo_ok X G (c.d.fact 36 (f := .glo "law") rfl)
  have b_law := (F_law.bindsN (ps := ["script"]) fun _ _ _ _ _ _ us hl => match us, hl with | [_], _ => rfl)
  have g__law_refused_too := He.glo_ok X G (c.d.fact 30 (f := .glo "_law_refused_too") rfl)
  have clT := He.cls_ok (c.d.fact 62 (f := .cls "Tally") rfl)
  have m_Tally_within := He.meth_ok (c.d.fact 67 (f := .meth "Tally" "within") rfl)
  have b_Tally_within := (F_Tally_within.bindsN (ps := ["self", "other"]) fun _ _ _ _ _ _ us hl => match us, hl with | [_, _], _ => rfl)
  have m_Tally_getitem := He.meth_ok (c.d.fact 68 (f := .meth "Tally" "__getitem__") rfl)
  have b_Tally_getitem := (F_Tally_getitem.bindsN (ps := ["self", "answer"]) fun _ _ _ _ _ _ us hl => match us, hl with | [_, _], _ => rfl)
  have m_Tally_len := He.meth_ok (c.d.fact 69 (f := .meth "Tally" "__len__") rfl)
  have b_Tally_len := (F_Tally_len.bindsN (ps := ["self"]) fun _ _ _ _ _ _ us hl => match us, hl with | [_], _ => rfl)
  have m_Tally_bool := He.meth_ok (c.d.fact 70 (f := .meth "Tally" "__bool__") rfl)
  have b_Tally_bool := (F_Tally_bool.bindsN (ps := ["self"]) fun _ _ _ _ _ _ us hl => match us, hl with | [_], _ => rfl)
  have m_Tally_contains := He.meth_ok (c.d.fact 71 (f := .meth "Tally" "__contains__") rfl)
  have b_Tally_contains := (F_Tally_contains.bindsN (ps := ["self", "value"]) fun _ _ _ _ _ _ us hl => match us, hl with | [_, _], _ => rfl)
  have m_Tally_eq := He.meth_ok (c.d.fact 72 (f := .meth "Tally" "__eq__") rfl)
  have b_Tally_eq := (F_Tally_eq.bindsN (ps := ["self", "other"]) fun _ _ _ _ _ _ us hl => match us, hl with | [_, _], _ => rfl)
  have m_Tally_add := He.meth_ok (c.d.fact 73 (f := .meth "Tally" "__add__") rfl)
  have b_Tally_add := (F_Tally_add.bindsN (ps := ["self", "other"]) fun _ _ _ _ _ _ us hl => match us, hl with | [_, _], _ => rfl)
  have m_Tally_sub := He.meth_ok (c.d.fact 74 (f := .meth "Tally" "__sub__") rfl)
  have b_Tally_sub := (F_Tally_sub.bindsN (ps := ["self", "other"]) fun _ _ _ _ _ _ us hl => match us, hl with | [_, _], _ => rfl)
  have m_Tally_mul := He.meth_ok (c.d.fact 75 (f := .meth "Tally" "__mul__") rfl)
  have b_Tally_mul := (F_Tally_mul.bindsN (ps := ["self", "many"]) fun _ _ _ _ _ _ us hl => match us, hl with | [_, _], _ => rfl)
  have m_Tally_rmul := He.meth_ok (c.d.fact 76 (f := .meth "Tally" "__rmul__") rfl)
  have b_Tally_rmul := (F_Tally_rmul.bindsN (ps := ["self", "many"]) fun _ _ _ _ _ _ us hl => match us, hl with | [_, _], _ => rfl)
  have m_Tally_str := He.meth_ok (c.d.fact 77 (f := .meth "Tally" "__str__") rfl)
  have b_Tally_str := (F_Tally_str.bindsN (ps := ["self"]) fun _ _ _ _ _ _ us hl => match us, hl with | [_], _ => rfl)
  have mkT := He.mkr_ok (c.d.fact 78 (f := .mkr "Tally") rfl)
  have mkC := He.mkr_ok (c.d.fact 79 (f := .mkr "Counts") rfl)
  have gT := He.glo_ok X G (c.d.fact 4 (f := .glo "Tally") rfl)
  have gC := He.glo_ok X G (c.d.fact 3 (f := .glo "Counts") rfl)
  have b_Counts := (F_Counts_init.bindsN (ps := ["self", "told"]) fun _ _ _ _ _ _ us hl => match us, hl with | [_, _], _ => rfl)
  obtain ⟨dd1, v1, b_Tally1⟩ := F_Tally_init.binds1 (ps := ["self", "counts"]) 2 1 (by simp [d_Tally_init, He.DefD.dvs]) (by rfl) fun T kV doc pm an cdv ct us its hl hi => match us, its, hl, hi with | [_, _], [_], _, _ => ⟨_, rfl, rfl⟩
  obtain ⟨dd0, v0, b_Tally0⟩ := F_Tally_init.binds1 (ps := ["self", "counts"]) 1 0 (by simp [d_Tally_init, He.DefD.dvs]) (by rfl) fun T kV doc pm an cdv ct us its hl hi => match us, its, hl, hi with | [_], [_], _, _ => ⟨_, rfl, rfl⟩
  have b_total : Binds K fd_total ["self"] [] := F_total.bindsN fun _ _ _ _ _ _ us hl => match us, hl with | [_], _ => rfl
  have b_listed : Binds K fd_listed ["self"] [] := F_listed.bindsN fun _ _ _ _ _ _ us hl => match us, hl with | [_], _ => rfl
  have bA := FunD.bindsA (ps := ["script"]) F_law fun _ _ _ _ _ _ us hl => match us, hl with | [_], _ => rfl
  refine ⟨fd_law, fun s u => bA s [u] rfl, fun base tbs ns => ?_⟩
  have LT : Lt2 K mg base := ⟨of_decide_eq_true (allB_at c.more (i := 38) rfl), tbs _ (by simp [tf]), tbs _ (by simp [tf])⟩
  -- the program
  have C_num : ∀ j, 1 ≤ j → Dt.Cl prg w K mg base j "is_number" (p_is_number K [cT K, cC K]) [] := fun j hj => (cl_of F_is_number g_is_number b_is_number (t_is_number (k := 0) B O.kl F_is_number)).lift hj
  have C_int := cl_of F_is_integer g_is_integer b_is_integer (t_is_integer (k := 1) B O.kl (C_num 1 (by omega)) F_is_integer)
  have C_fits : ∀ j, 3 ≤ j → Dt.Cl prg w K mg base j "fits_tally" (p_fits_tally K [cT K, cC K]) [] := fun j hj => (cl_of F_fits_tally g_fits_tally b_fits_tally (t_fits_tally (k := 2) B O.kl C_int F_fits_tally)).lift hj
  have C_fit := cl_of F_fit_tally g_fit_tally b_fit_tally (t_fit_tally (k := 3) B O.kl (C_num 3 (by omega)) (C_fits 3 (by omega)) F_fit_tally)
  have C_cin := cl_of F_counts_in g_counts_in b_counts_in (t_counts_in (k := 3) B O C_fit F_counts_in)
  have C_txt : ∀ a, shA a → (txtA a).length ≤ sizeLine → (inS a).length ≤ sizeLine → Dt.Cl prg w K mg base 1 "answer_text" (spV K [ansT a] (.str (txtA a))) [] := fun a h1 h2 h3 => cl_of F_answer_text g_answer_text b_answer_text (t_answer_text (k := 0) B F_answer_text a h1 h2 h3)
  have C_alike : ∀ j, 2 ≤ j → ∀ (m : Tm) (o : Oth), m.length ≤ 1000 → o.good (cT K) (cC K) → Dt.Cl prg w K mg base j "require_alike" (spO K [talD (cT K) m, o.d (cT K)] (okAl m o) .non (cO K)) [] := fun j hj m o h1 h2 => (cl_of F_require_alike g_require_alike b_require_alike (t_require_alike (k := 0) B O F_require_alike m o h1 h2)).lift hj
  have C_comb : ∀ (m m' : Tm) (sg : Int), m.length + m'.length ≤ 1000 → (∀ a, CMulW sg (numAt m' a)) → Dt.Cl prg w K mg base 6 "combined" (spV K [talD (cT K) m, talD (cT K) m', .int sg] (dicN (combM m m' sg))) [] := fun m m' sg h1 h2 => (cl_of F_combined g_combined b_combined (t_combined (k := 0) B O F_combined m m' sg h1 h2)).lift (by omega)
  have M : ∀ j, 6 ≤ j → Mk2 prg w K mg base j (cT K) (cC K) (cI K) := fun j hj => ⟨Mkr.lift (k := 1) ⟨_, _, _, _, mkC, t_Counts (k := 0) O F_Counts_init, gC, b_Counts, .nil⟩ (by omega), fun d m kn hm => Mkr.lift (k := 6) ⟨_, _, _, _, mkT, t_Tally (k := 3) B O C_cin F_Tally_init d m kn hm, gT, b_Tally1, v1⟩ hj⟩
  have M0 : T0 prg w K mg base 10 (cT K) (cI K) := Mkr.lift (k := 6) ⟨_, _, _, _, mkT, t_Tally (k := 3) B O C_cin F_Tally_init .non [] kn_non fun _ => ⟨rfl, tw_nil⟩, gT, b_Tally0, v0⟩ (by omega)
  have MH : ∀ m : Tm, KnC (cT K) (cC K) (dicN m) → cntOk (cC K) (dicN m) = true → Tw m → Mkr prg w K mg base 10 "Tally" (cT K) (p_TallyH K (cT K) m) [] := fun m h1 h2 h3 => Mkr.lift (k := 6) ⟨_, _, _, _, mkT, t_TallyH (k := 3) B O C_cin F_Tally_init m h1 h2 h3, gT, b_Tally1, v1⟩ (by omega)
  have gi : ∀ g, Meth K (cT K) "__getitem__" g → PySem.W.fnIn K g = true := fun g me => by
    have e := me.at_.symm.trans m_Tally_getitem.at_
    cases e
    exact (allB_at c.more (i := 19) rfl)
  have get : ∀ j, 4 ≤ j → ∀ (m : Tm) (d : D), KnT [cT K, cC K] d → Mtd prg w K mg base j (cT K) "__getitem__" (spV K [talD (cT K) m, d] (.int (valAt m d))) := fun j hj m d kn => Mtd.lift (mtd_of clT m_Tally_getitem b_Tally_getitem (t_getitem (k := 3) B O (C_fits 3 (by omega)) F_Tally_getitem m d kn)) hj
  have rmR : PySem.W.findIn K (.ref (cT K)) (dunderR "mul") = some (some (.ref (He.ma K (cT K) "__rmul__"))) := eqV_ok (allB_at c.more (i := 25) rfl)
  have mul : ∀ j, 8 ≤ j → ∀ (m : Tm) (d : D), kc [cT K, cC K] d = true → m.length ≤ 1000 → (m.map (·.1)).Nodup → (okMul d = true → (∀ a, CMulW (numAt m a) (facD d)) ∧ Tw (mulM m (facD d))) → Mtd prg w K mg base j (cT K) "__mul__" (spO K [talD (cT K) m, d] (okMul d) (talD (cT K) (tallyOf (mulM m (facD d)))) (cO K)) :=
    fun j hj m d h1 h2 h3 h4 => Mtd.lift (mtd_of clT m_Tally_mul b_Tally_mul (t_mul (k := 6) B O (M 6 (by omega)) (C_num 7 (by omega)) F_Tally_mul m d h1 h2 h3 h4)) hj
  have T1 : Tal prg w K mg base 9 (cT K) (cC K) (cI K) (cO K) := {
    sf := (allB_at c.more (i := 18) rfl)
    get := get 9 (by omega)
    gi := gi
    len := fun m => Mtd.lift (mtd_of clT m_Tally_len b_Tally_len (t_len (k := 0) B O F_Tally_len m)) (by omega)
    listed := fun m => Prp.lift (k := 1) ⟨_, _, _, _, clT, prp_ok (allB_at c.more (i := 37) rfl), t_listed (k := 0) B O F_listed m, b_listed⟩ (by omega)
    total := fun m hm => Prp.lift (k := 1) ⟨_, _, _, _, clT, prp_ok (allB_at c.more (i := 36) rfl), t_total (k := 0) B O F_total m hm, b_total⟩ (by omega) }
  have T : Top prg w K mg base 9 (cT K) (cC K) (cI K) (cO K) := {
    t := T1
    add := fun m o h1 h2 h3 => Mtd.lift (k := 8) (mtd_of clT m_Tally_add b_Tally_add (by cases o with | tal m' => exact t_add (k := 6) B O (M 6 (by omega)) (C_alike 7 (by omega)) C_comb F_Tally_add m (.tal m') h2 h1 h3 | no d => exact t_add (k := 6) B O (M 6 (by omega)) (C_alike 7 (by omega)) C_comb F_Tally_add m (.no d) h2 h1 h3)) (by omega)
    sub := fun m o h1 h2 h3 => Mtd.lift (k := 8) (mtd_of clT m_Tally_sub b_Tally_sub (by cases o with | tal m' => exact t_sub (k := 6) B O (M 6 (by omega)) (C_alike 7 (by omega)) C_comb F_Tally_sub m (.tal m') h2 h1 h3 | no d => exact t_sub (k := 6) B O (M 6 (by omega)) (C_alike 7 (by omega)) C_comb F_Tally_sub m (.no d) h2 h1 h3)) (by omega)
    mul := mul 9 (by omega)
    rmul := fun m d h1 h2 h3 h4 => mtd_of clT m_Tally_rmul b_Tally_rmul (t_rmul (k := 8) B O (mul 8 (by omega)) (allB_at c.more (i := 18) rfl) (fun n hn => all_of (allB_at c.more (i := 22) rfl) n (by revert hn; simp only [List.mem_cons, List.not_mem_nil, or_false]; rintro (rfl | rfl | rfl) <;> simp)) rmR (.inr ⟨_, rfl⟩) F_Tally_rmul m d h1 h2 h3 h4)
    within := fun m o h1 h2 h3 => Mtd.lift (k := 6) (mtd_of clT m_Tally_within b_Tally_within (by cases o with | tal m' => exact t_within (k := 4) B O (C_alike 4 (by omega)) (get 4 (by omega)) gi F_Tally_within m (.tal m') h1 h2 h3 | no d => exact t_within (k := 4) B O (C_alike 4 (by omega)) (get 4 (by omega)) gi F_Tally_within m (.no d) h1 h2 h3)) (by omega)
    eq := fun m o h1 => Mtd.lift (mtd_of clT m_Tally_eq b_Tally_eq (t_eq (k := 0) B O F_Tally_eq m o h1)) (by omega)
    cont := fun m d kn => Mtd.lift (mtd_of clT m_Tally_contains b_Tally_contains (t_contains (k := 3) B O (C_fits 3 (by omega)) F_Tally_contains m d kn)) (by omega)
    bool := fun m => Mtd.lift (mtd_of clT m_Tally_bool b_Tally_bool (t_bool (k := 0) B O F_Tally_bool m)) (by omega)
    str := fun m sh => Mtd.lift (mtd_of clT m_Tally_str b_Tally_str (t_str (k := 1) B O C_txt F_Tally_str m sh)) (by omega)
    otA := fun n hn => all_of (allB_at c.more (i := 20) rfl) n hn
    otS := fun n hn => all_of (allB_at c.more (i := 21) rfl) n hn
    otM := fun n hn => all_of (allB_at c.more (i := 22) rfl) n hn
    raN := eqV_ok (allB_at c.more (i := 23) rfl)
    rsN := eqV_ok (allB_at c.more (i := 24) rfl)
    rmR := ⟨_, rmR⟩
    mul1 := ⟨_, eqV_ok (allB_at c.more (i := 26) rfl)⟩
    s1 := of_decide_eq_true (allB_at c.more (i := 27) rfl)
    s2 := of_decide_eq_true (allB_at c.more (i := 28) rfl)
    s3 := of_decide_eq_true (allB_at c.more (i := 29) rfl)
    nf := fun n hn => all_of (allB_at c.more (i := 30) rfl) n hn
    nfT := (allB_at c.more (i := 31) rfl)
    ne1 := eqV_ok (allB_at c.more (i := 32) rfl)
    ob := by
      have z : (match PySem.W.clsIn K (cT K) with | some cd => decide (cd.mro = [.ref (cT K), .type "object"]) | none => false) = true := (allB_at c.more (i := 33) rfl)
      split at z
      · rename_i cd hcd
        unfold PySem.W.mroIn
        rw [hcd]
        show (if cd.mro.isEmpty then none else some (cd.mro.contains (.type "object"))) = some true
        rw [of_decide_eq_true z]
        simp
      · cases z
    cd := by
      have z : (match PySem.W.clsIn K (cT K) with | some cd => decide (cd.mro = [.ref (cT K), .type "object"]) | none => false) = true := (allB_at c.more (i := 33) rfl)
      split at z
      · rename_i cd hcd
        exact ⟨cd, hcd, of_decide_eq_true z⟩
      · cases z
    ip1 := eqV_ok (allB_at c.more (i := 34) rfl)
    ip2 := eqV_ok (allB_at c.more (i := 35) rfl) }
  -- the law
  have L_roll : ∀ j, 1 ≤ j → ∀ n : Int, 0 < n → n < 2 ^ 100 → Dt.Cl prg w K mg base j "_law_roll" (p_roll K n) [] := fun j hj n h1 h2 => (cl_of F__law_roll g__law_roll b__law_roll (t_law_roll (k := 0) B F__law_roll n h1 (Nat.lt_of_lt_of_le ((Nat.log2_lt (k := 100) (by omega)).mpr (by omega)) (by decide)))).lift hj
  have L_pick : ∀ j, 2 ≤ j → ∀ xs : List D, xs ≠ [] → xs.length ≤ 1000 → Dt.Cl prg w K mg base j "_law_pick" (p_pick K xs) [] := fun j hj xs h1 h2 => (cl_of F__law_pick g__law_pick b__law_pick (t_law_pick (k := 1) B (L_roll 1 (by omega)) F__law_pick xs h1 h2)).lift hj
  have L_pickA : ∀ j, 2 ≤ j → Dt.Cl prg w K mg base j "_law_pick" (p_pickA K) [] := fun j hj => (cl_of F__law_pick g__law_pick b__law_pick (t_law_pickA (k := 1) B (L_roll 1 (by omega)) F__law_pick)).lift hj
  have L_number := cl_of F__law_number g__law_number b__law_number (t_law_number (k := 1) B (L_roll 1 (by omega)) F__law_number)
  have L_pool := cl_of F__law_pool g__law_pool b__law_pool (t_law_pool (k := 1) B (L_roll 1 (by omega)) F__law_pool)
  have L_mixed : ∀ m : Tm, m.length ≤ 1000 → Dt.Cl prg w K mg base 11 "_law_mixed" (p_mixed K m) [] := fun m h1 => (cl_of F__law_mixed g__law_mixed b__law_mixed (t_law_mixed (k := 1) B (L_roll 1 (by omega)) F__law_mixed m h1)).lift (by omega)
  have L_pairs : ∀ long : Nat, long ≤ 4 → Dt.Cl prg w K mg base 11 "_law_pairs" (p_pairs K long) [] := fun long h1 => (cl_of F__law_pairs g__law_pairs b__law_pairs (t_law_pairs (k := 0) B (L_roll 1 (by omega)) L_pool (L_pick 2 (by omega)) L_number F__law_pairs long h1)).lift (by omega)
  have L_counts : ∀ long : Nat, long ≤ 4 → Dt.Cl prg w K mg base 13 "_law_counts" (p_counts K long) [] := fun long h1 => (cl_of F__law_counts g__law_counts b__law_counts (t_law_counts (k := 0) B (L_roll 1 (by omega)) (L_pickA 2 (by omega)) F__law_counts long h1)).lift (by omega)
  have L_text : ∀ m, shP m → Dt.Cl prg w K mg base 11 "_law_text" (spV K [.lst (m.map prD)] (.str (lawText m))) [] := fun m h1 => (cl_of F__law_text g__law_text b__law_text (t_law_text (k := 0) B F__law_text m h1)).lift (by omega)
  have L_added : ∀ j, 1 ≤ j → ∀ (m m' : Tm) (sg : Int), m.length + m'.length ≤ 1000 → (∀ a, CMulW sg (numAt m' a)) → Dt.Cl prg w K mg base j "_law_added" (spV K [dicN m, dicN m', .int sg] (dicN (combM m m' sg))) [] := fun j hj m m' sg h1 h2 => (cl_of F__law_added g__law_added b__law_added (t_law_added (k := 0) B F__law_added m m' sg h1 h2)).lift hj
  have L_times : ∀ (m : Tm) (n : Int), m.length ≤ 1000 → (m.map (·.1)).Nodup → (∀ a, CMulW (numAt m a) n) → Dt.Cl prg w K mg base 13 "_law_times" (spV K [dicN m, .int n] (dicN (mulM m n))) [] := fun m n h1 h2 h3 => (cl_of F__law_times g__law_times b__law_times (t_law_times (k := 0) B F__law_times m n h1 h2 h3)).lift (by omega)
  have L_within : ∀ m m' : Tm, m.length ≤ 1000 → Dt.Cl prg w K mg base 13 "_law_within" (spV K [dicN m, dicN m'] (.bl (leW m m'))) [] := fun m m' h1 => (cl_of F__law_within g__law_within b__law_within (t_law_within (k := 0) B F__law_within m m' h1)).lift (by omega)
  have L_shows : ∀ j, 11 ≤ j → ∀ (long L : Nat) (N : Int) (m : Tm), Ct long L N m → long ≤ 4 → L ≤ 100 → 0 < N → N ≤ 10 ^ 290 → Dt.Cl prg w K mg base j "_law_shows" (spV K [talD (cT K) (tallyOf m), dicN m] (.bl true)) [] := fun j hj long L N m h1 h2 h3 h4 h5 => (cl_of F__law_shows g__law_shows b__law_shows (t_law_shows (k := 9) B O T1 F__law_shows m h1 h2 h3 h4 h5)).lift hj
  have L_refused : Dt.Cl prg w K mg base 11 "_law_refused" (p_refused K (cT K) (cC K)) [] := (cl_of F__law_refused g__law_refused b__law_refused (fnOk_weak (fnOk_union fun i : {d : D // BadP (cT K) (cC K) d} => t_law_refused (k := 6) B O E (M 6 (by omega)) F__law_refused i.1 i.2.kn i.2.no) refused_weak)).lift (by omega)
  have L_bad : ∀ (long : Nat) (m : Tm), PrOk long m → long ≤ 4 → Dt.Cl prg w K mg base 11 "_law_bad" (p_bad K (cT K) (cC K) long m) [] := fun long m h1 h2 => (cl_of F__law_bad g__law_bad b__law_bad (t_law_bad (k := 1) B (L_roll 1 (by omega)) (L_pick 2 (by omega)) F__law_bad m h1 h2)).lift (by omega)
  have L_strange : ∀ (long : Nat) (m : Tm), Ct long 6 (10 ^ 40) m → long ≤ 4 → ClG prg w K mg base 11 "_law_strange" (p_strange K (cT K) (cC K) m) [] := fun long m h1 h2 => (clG_of F__law_strange g__law_strange b__law_strange (t_law_strange (k := 0) B F__law_strange m h1 h2 (by decide))).lift (by omega)
  have L_right := clG_of F__law_right g__law_right b__law_right (t_law_right (k := 9) B O T (M 10 (by omega)) MH (L_roll 11 (by omega)) L_pairs L_mixed L_text L_strange (L_pick 11 (by omega)) L_refused L_bad F__law_right)
  have L_less : ∀ (long L L' : Nat) (N N' : Int) (m m' : Tm), Ct long L N m → Ct long L' N' m' → Bd long L N → Bd long L' N' → L + L' + L' ≤ 100 → N + N' ≤ 10 ^ 200 → Dt.Cl prg w K mg base 13 "_law_less_right" (p_less K (cT K) m m') [] := fun long L L' N N' m m' h1 h2 h3 h4 h5 h6 => (cl_of F__law_less_right g__law_less_right b__law_less_right (t_law_less_right (k := 9) B O E LT T (L_added 11 (by omega)) (L_shows 11 (by omega)) F__law_refused_too g__law_refused_too rfl F__law_less_right h1 h2 h3 h4 h5 h6)).lift (by omega)
  have L_others : ∀ (long L0 : Nat) (N0 : Int) (m0 : Tm), long ≤ 4 → Ct long L0 N0 m0 → L0 ≤ 1000 → ((m0.map fun p => kI p.1).map (hT prg w)).Nodup → Dt.Cl prg w K mg base 13 "_law_others_right" (p_others K (cT K) long m0) [] := fun long L0 N0 m0 h1 h2 h3 h4 => (cl_of F__law_others_right g__law_others_right b__law_others_right (fnOk_weak (fnOk_union fun i : {m : Tm // ∃ L N, Ct long L N m ∧ Bd long L N} => by
    obtain ⟨m, L, N, a1, a2⟩ := i
    exact t_law_others_right (k := 9) B O E LT T (M 10 (by omega)) (L_pickA 11 (by omega)) F__law_refused_too g__law_refused_too rfl F__law_others_right a1 a2 h2 h3 h4) others_weak)).lift (by omega)
  have L_rightToo := cl_of F__law_right_too g__law_right_too b__law_right_too (t_law_right_too (k := 9) B O T (M 12 (by omega)) (L_roll 13 (by omega)) (L_pickA 13 (by omega)) L_counts (L_added 13 (by omega)) L_times L_within (L_shows 13 (by omega)) L_less L_others F__law_right_too)
  have L_die : ∀ j, 1 ≤ j → ∀ i : Nat, i < 1000 → Dt.Cl prg w K mg base j "_law_dice" (p_die K ns i) [] := fun j hj i h1 => (cl_of F__law_dice g__law_dice b__law_dice (t_law_die (k := 0) B F__law_dice ns i h1)).lift hj
  have L_one := clG_of F__law_one g__law_one b__law_one (t_law_one (k := 9) B O T (M 10 (by omega)) M0 ns (L_die 12 (by omega)) L_right F__law_one)
  have L_other := cl_of F__law_other g__law_other b__law_other (t_law_other (k := 9) B O T (M 10 (by omega)) ns (L_die 14 (by omega)) L_rightToo F__law_other)
  exact t_law (k := 15) B ns (L_one.lift (by omega)) L_other F_law
theorem trip_nil : TriplesOk (#[] : Array Value).toList := by unfold TriplesOk; exact trivial
/-- the script, at the law's call -/
theorem law_start {K : PySem.W.Frag} {H : Hp} {a : Addr} {ns : List Int} (ht : ∀ p ∈ tf.map (He.cT K), H p.2 = some (.tbl #[])) (hS : SqL K H a (ns.map V.int)) : p_law K ns [.ref a] H (fun v _ => v = .bl true) fun _ _ _ => False := by
  have t0 : ∀ p ∈ tabT K, H p.1 = some (.tbl #[]) := fun p hp => by
    rcases List.mem_cons.mp hp with e | hp
    · rw [e]
      exact ht (He.cT K atLess) (by simp [tf])
    · rw [List.mem_singleton.mp hp]
      exact ht (He.cT K atOthers) (by simp [tf])
  have tm : ∀ b ∈ (tabT K).map (·.1), H b = some (.tbl #[]) := fun b hb => by
    obtain ⟨p, hp, rfl⟩ := List.mem_map.mp hb
    exact t0 p hp
  let c : Fx := ⟨⟨[], tabT K⟩, (tabT K).map (·.1), H, fun b m => by
    rcases m with m | m
    · cases m
    · exact m, fun b m => ⟨_, tm b m, fun xs z => by cases z⟩, ⟨fun b m => (by cases m), fun p hp => ⟨#[], t0 p hp, trip_nil, fun pos cv hc => by unfold codeAmong at hc; cases hc⟩⟩⟩
  have ia : IsAll K (cut c.B H) [.ref a] [.scr ns] := .cons (.scr (hS.imp (fun r => r.imp (fun e => cut_of e fun m => by cases e.symm.trans (tm a m)) fun ⟨o, e⟩ => ⟨o, cut_of e fun m => by cases e.symm.trans (tm a m)⟩) id)) .nil
  exact ⟨c, [.scr ns], rfl, ⟨fun b m => (by cases m), rfl⟩, rfl, ia, fun v d H' pd _ i => by
    have pd : d = .bl true := pd
    subst pd
    exact i.bl_inv, fun cls H' z _ => z.elim⟩
end K31

set_option Elab.async false
set_option linter.all false
set_option maxRecDepth 100000
set_option maxHeartbeats 0
open PySem PySem.W PySem.Calls PyProof.Rows
theorem PySem.Challenge.cw_gonewithin_k31_tallies_made_and_combined_holds : PySem.Challenge.rw_gonewithin_k31_tallies_made_and_combined.Holds := by
  w_on; o_law
  refine HandSHeadRun.head_any (r := K31.R) (q := view K31.R.prog [44]) (H := K31.hk) (ob := K31.ob) (M := 4000) (loose := K31.loose) (d := HandSHeadRun.topDef K31.R.prog 44) (kwd := []) K31.ob_eq
    (by kernel_rfl) (fun s => by kernel_rfl) K31.run (by kernel_rfl) (by kernel_rfl) (by kernel_rfl) (by rfl) (by first | assumption | decide +kernel) (by decide +kernel) ⟨rfl, rfl, rfl, rfl, rfl, by decide +kernel⟩ ?hw ?hc
  case hw => w_witness2
  case hc =>
    refine WkG.walkG (l := PySem.Challenge.rw_gonewithin_k31_tallies_made_and_combined) (n := 63) (k := 16) (x := "script") (CX := fun w => L2.CX K31.prg w) rfl (by decide) (by kernel_rfl) ⟨rfl, by decide, by decide⟩ ?F ?C
    case F =>
      intro w mg fL h Y G hmg0
      obtain ⟨K, KX, c⟩ := Y
      have hmg : mg ("law" : PySem.Str) = some (.ref fL) := by
        have e : (HandSHeadRun.topDef K31.R.prog 44).name = ("law" : PySem.Str) := by kernel_rfl
        rw [← e]
        exact hmg0
      have ef := hmg.symm.trans (He.glo_ok KX G (c.d.fact 36 (f := .glo "law") rfl))
      cases ef
      obtain ⟨fd, hb, hF⟩ := K31.final w KX G c
      have tabs : ∀ p ∈ K31.tf.map (He.cT K), ∃ q ∈ K31.tf, p = He.cT K q := fun p hp => by
        obtain ⟨q, hq, e⟩ := List.mem_map.mp hp
        exact ⟨q, hq, e.symm⟩
      refine ⟨K, KX, fd, K31.tf.map (He.cT K), fun vs H Q E => ∃ ns : List Int, K31.p_law K ns vs H Q E, ⟨fun p hp => ?_, fun p hp => ?_, fun p hp => ?_⟩, hb, fun H a ns _ ht hS => ⟨ns, K31.law_start ht hS⟩, fun base _ _ tb => Dt.fnG_union fun ns => hF base tb ns⟩
      · obtain ⟨q, hq, rfl⟩ := tabs p hp
        exact c.mt q hq
      · obtain ⟨q, hq, rfl⟩ := tabs p hp
        exact c.out q hq
      · obtain ⟨q, hq, rfl⟩ := tabs p hp
        exact PySem.W.codeHd_of_K KX (c.hd q hq)
    case C =>
      intro w H s e s' z
      obtain ⟨_, _, _, _, _, _, _, _, _, _, _, _, y⟩ := z
      exact y.elim
#print axioms PySem.Challenge.cw_gonewithin_k31_tallies_made_and_combined_holds

