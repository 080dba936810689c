import PyProof.Rows.All
import Wide.All
import OpenK.AllK
import Wide.FinOn
import HandS.ForMost
import HandS.Wide
import HandS.IsInst
import HandS.Walk
import HandS.Flow
import HandS.Property
import HandS.Star
import HandS.DictComp
import HandS.Conv
import HandS.TryMany
import HandS.ExcInit
import HandS.ExcInitHot
import HandS.ExcIs
import HandS.ExcField
import HandS.WordsExc
import HandS.Codes
import HandS.DeepEq
import HandS.Text
import PyProof.StrBlock
import KE.KExcInit
import PySem.Challenge.RW_allornothing_k12_classes_of_errors
set_option Elab.async false
set_option linter.all false
set_option maxRecDepth 100000
set_option maxHeartbeats 4000000
namespace Aon
open PySem L2
def topS (i : Nat) : Stmt := PySem.Challenge.pw_allornothing_k12_classes_of_errors.main.body.getD i (.Pass ⟨0, 0, 0, 0⟩)

/-! ### words of this text, over HandS -/
theorem bb_int : bootBuiltins "int" = some (.type "int") := by decide +kernel
theorem bb_str : bootBuiltins "str" = some (.type "str") := by decide +kernel
theorem bb_bool : bootBuiltins "bool" = some (.type "bool") := by decide +kernel
theorem bb_list : bootBuiltins "list" = some (.type "list") := by decide +kernel
theorem bb_tuple : bootBuiltins "tuple" = some (.type "tuple") := by decide +kernel
theorem bb_len : bootBuiltins "len" = some (.builtin "len") := by decide +kernel
theorem bb_all : bootBuiltins "all" = some (.builtin "all") := by decide +kernel
theorem bb_isinstance : bootBuiltins "isinstance" = some (.builtin "isinstance") := by decide +kernel
/-- a def that stands under its name: its promise, and how it is called -/
structure Has (P : Program) (w : World) (K : PySem.W.Frag) (mg : Str → Option Value) (base : Heap) (CX : CXT) (k : Nat) (x : Str) (ps : List Str) (sp : Sp) : Prop where
  ex : ∃ (f : Addr) (fd : FuncData), FnOk P w K mg base CX k f fd ps sp ∧ mg x = some (.ref f) ∧ PySem.W.keepIn K (.ref f) = true ∧ Binds K fd ps []
section
variable {X : Cx}
theorem pe_callH {CX : CXT} {k : Nat} {x : Str} {ps : List Str} {sp : Sp} {E : XK} {e : Expr} {es : List Expr} {t : TA} {p pos : Pos} (F : Has X.prog X.w X.K X.mg X.base CX k x ps sp) (hr : Room k X.A) (hg : Gl X x) (hx : Passes CX X E) (ha : PA X (e :: es) t)
    (hd : (x == ("__debug__" : Str)) = false := by decide) (he : starEach (e :: es) X.env = (false, eval e X.env) :: starEach es X.env := by rfl) (hpl : (backTo pos (starEach es X.env)).any (·.1) = false := by rfl) :
    PE X (.Call (.Name x p) (e :: es) [] pos) (tCall sp [] E t) := by
  obtain ⟨f, fd, F, m, kp, b⟩ := F.ex
  exact pe_call F hr hg m kp b .nil hx ha hd he hpl
theorem pe_callH0 {CX : CXT} {k : Nat} {x : Str} {ps : List Str} {sp : Sp} {E : XK} {p pos : Pos} (F : Has X.prog X.w X.K X.mg X.base CX k x ps sp) (hr : Room k X.A) (hg : Gl X x) (hx : Passes CX X E) (hd : (x == ("__debug__" : Str)) = false := by decide) :
    PE X (.Call (.Name x p) [] [] pos) (tCall sp [] E tNil) := by
  obtain ⟨f, fd, F, m, kp, b⟩ := F.ex
  exact pe_call0 F hr hg m kp b .nil hx hd
theorem pe_globE {x : Str} {v : V} {pos : Pos} (hg : Gl X x) (hm : ∃ u, X.mg x = some u ∧ RelV v u) (hd : (x == ("__debug__" : Str)) = false := by decide) : PE X (.Name x pos) (tC v) := by
  obtain ⟨u, m, r⟩ := hm
  exact pe_glob hg m r hd
end
/-- a method of the class at C; a class under its name -/
structure HasM (P : Program) (w : World) (K : PySem.W.Frag) (mg : Str → Option Value) (base : Heap) (CX : CXT) (k : Nat) (C : Addr) (m : Str) (ps : List Str) (sp : Sp) : Prop where
  ex : ∃ (f : Addr) (fd : FuncData), Meth K C m f ∧ FnOk P w K mg base CX k f fd ps sp ∧ Binds K fd ps []
structure HasC (P : Program) (w : World) (K : PySem.W.Frag) (mg : Str → Option Value) (base : Heap) (CX : CXT) (k : Nat) (x : Str) (C : Addr) (ps : List Str) (sp : Sp) : Prop where
  ex : ∃ (f : Addr) (fd : FuncData), Mk K C f ∧ FnOk P w K mg base CX k f fd ps sp ∧ mg x = some (.ref C) ∧ Binds K fd ps []
section
variable {X : Cx}
theorem pe_methH {CX : CXT} {k : Nat} {C : Addr} {m : Str} {ps : List Str} {sp : Sp} {E : XK} {o e : Expr} {es : List Expr} {ta : TE} {t : TA} {apos pos : Pos} {pl : Sem Bool} (he : PE X o ta) (c : Cls X.K C) (M : HasM X.prog X.w X.K X.mg X.base CX k C m ps sp) (hr : Room k X.A) (hx : Passes CX X E)
    (ha : PA X (e :: es) t) (hst : starEach (e :: es) X.env = (false, eval e X.env) :: starEach es X.env := by rfl) (hpl : (backTo pos (starEach es X.env)).any (·.1) = false := by rfl)
    (ht : eval (.Call (.Attribute o m apos) (e :: es) [] pos) X.env = (do
      let v ← eval o X.env
      standAt apos.atName
      let (g, r) ← holding [v] (getMethod v m pl)
      callWith pos g r (backTo pos (starEach (e :: es) X.env)) (backToKw pos (keywordEach [] X.env))) := by rfl) : PE X (.Call (.Attribute o m apos) (e :: es) [] pos) (tMeth C m sp [] E ta t) := by
  obtain ⟨f, fd, hm, F, b⟩ := M.ex
  exact pe_meth (pl := pl) he c hm F hr b .nil hx ha hst hpl ht
theorem pe_methH0 {CX : CXT} {k : Nat} {C : Addr} {m : Str} {ps : List Str} {sp : Sp} {E : XK} {o : Expr} {ta : TE} {apos pos : Pos} {pl : Sem Bool} (he : PE X o ta) (c : Cls X.K C) (M : HasM X.prog X.w X.K X.mg X.base CX k C m ps sp) (hr : Room k X.A) (hx : Passes CX X E)
    (ht : eval (.Call (.Attribute o m apos) [] [] pos) X.env = (do
      let v ← eval o X.env
      standAt apos.atName
      let (g, r) ← holding [v] (getMethod v m pl)
      callWith pos g r (backTo pos (starEach [] X.env)) (backToKw pos (keywordEach [] X.env))) := by rfl) : PE X (.Call (.Attribute o m apos) [] [] pos) (tMeth C m sp [] E ta tNil) := by
  obtain ⟨f, fd, hm, F, b⟩ := M.ex
  exact pe_meth0 (pl := pl) he c hm F hr b .nil hx ht
theorem pe_makeH {CX : CXT} {k : Nat} {x : Str} {C : Addr} {ps : List Str} {sp : Sp} {E : XK} {e : Expr} {es : List Expr} {t : TA} {p pos : Pos} (M : HasC X.prog X.w X.K X.mg X.base CX k x C ps sp) (hr : Room (k + 1) X.A) (hg : Gl X x) (hx : Passes CX X E) (ha : PA X (e :: es) t)
    (hd : (x == ("__debug__" : Str)) = false := by decide) (he : starEach (e :: es) X.env = (false, eval e X.env) :: starEach es X.env := by rfl) (hpl : (backTo pos (starEach es X.env)).any (·.1) = false := by rfl) :
    PE X (.Call (.Name x p) (e :: es) [] pos) (tMake C sp [] E t) := by
  obtain ⟨f, fd, mk, F, m, b⟩ := M.ex
  exact pe_make mk F hr hg m b .nil hx ha hd he hpl
theorem pe_propH {CX : CXT} {k : Nat} {C p : Addr} {f : Str} {ps : List Str} {sp : Sp} {E : XK} {e : Expr} {ta : TE} {pos : Pos} (he : PE X e ta) (c : Cls X.K C) (M : ∃ (g : Addr) (fd : FuncData), PropOf X.K C f p g ∧ FnOk X.prog X.w X.K X.mg X.base CX k g fd ps sp ∧ Binds X.K fd ps []) (hr : Room (k + 1) X.A) (hx : Passes CX X.nox E)
    (hab : attributeBase e f X.env (eval e X.env) = eval e X.env := by rfl) : PE X (.Attribute e f pos) (tProp C sp [] E ta) := by
  obtain ⟨g, fd, hp, F, b⟩ := M
  exact pe_prop he c hp F hr b .nil hx hab
end
/-- all but p and c stands -/
def But (p c : Addr) (H H' : Hp) : Prop := ∀ b o, H b = some o → b ≠ p → b ≠ c → H' b = some o
theorem But.refl {p c : Addr} {H : Hp} : But p c H H := fun _ _ e _ _ => e
theorem But.trans {p c : Addr} {H H1 H2 : Hp} (a : But p c H H1) (b : But p c H1 H2) : But p c H H2 := fun x o e h1 h2 => b x o (a x o e h1 h2) h1 h2
theorem iteE {c : Bool} {A B : Prop} (hc : c = false) (k : B) : if c = true then A else B := by
  rw [hc]
  exact iteF k
theorem iteS {c : Bool} {A B : Prop} (hc : c = true) (k : A) : if c = true then A else B := by
  rw [hc]
  exact iteT k

def dOf : V → PyData
  | .non => .none | .bl b => .bool b | .int i => .int i | .str z => .str z | _ => .none
theorem dp_flat {K : PySem.W.Frag} {H : Hp} {v : V} (h : flatV v = true) : Dp K H v (dOf v) := by
  cases v with
  | non => exact .non
  | bl b => exact .bl b
  | int i => exact .int i
  | str z => exact .str z
  | _ => cases h
theorem dpAll_flat {K : PySem.W.Frag} {H : Hp} : ∀ {xs : List V}, xs.all flatV = true → DpAll K H xs (xs.map dOf)
  | [], _ => .nil
  | x :: xs, h => by
    rw [List.all_cons, Bool.and_eq_true] at h
    exact .cons (dp_flat h.1) (dpAll_flat h.2)
/-! shapes -/
def okV : V → Bool
  | .str z => PyData.strOk z
  | _ => true
theorem lay_dOf {v : V} (h : okV v = true) : (dOf v).canLay0 = true := by
  cases v with
  | str z => simpa [dOf, PyData.canLay0, okV] using h
  | _ => simp [dOf, PyData.canLay0]
theorem layAll_dOf : ∀ {xs : List V}, xs.all okV = true → PyData.canLayAll0 (xs.map dOf) = true
  | [], _ => by simp [PyData.canLayAll0]
  | x :: xs, h => by
    rw [List.all_cons, Bool.and_eq_true] at h
    simp only [List.map_cons, PyData.canLayAll0, Bool.and_eq_true]
    exact ⟨lay_dOf h.1, layAll_dOf h.2⟩
theorem depth_dOf (v : V) : (dOf v).depth = 0 := by cases v <;> simp [dOf, PyData.depth]
theorem depthAll_dOf : ∀ xs : List V, PyData.depthAll (xs.map dOf) = 0
  | [] => by simp [PyData.depthAll]
  | x :: xs => by simp only [List.map_cons, PyData.depthAll, depth_dOf, depthAll_dOf xs]; rfl
theorem shaped_tup {xs : List V} (h : xs.all okV = true) : SeqAt.shaped (.tuple (xs.map dOf)) = true := by
  unfold SeqAt.shaped
  simp only [PyData.canLay0, PyData.depth, layAll_dOf h, depthAll_dOf, Bool.true_and]
  decide

/-! ### errors of own classes over any of the built-in ones: made with their one field -/
namespace XC
open PySem.W PySem.Calls PyProof.Rows
/-- which built-in makes the class: the tail of its mro, its maker -/
structure Bas (bmB : List Value) (newId : String) : Prop where
  ex : ∃ (B initId : String) (bm0 : List Value), ExcBaseFacts B newId initId bm0 ∧ bmB.contains (.type B) = true
  noA : bmB.contains (.type "AttributeError") = false
  noN : bmB.contains (.type "NameError") = false
  ob : bmB.contains (.type "object") = true
  pass : ∀ self, PySem.refuseLoop self "__setattr__" bmB = pure ()
abbrev tlV : List Value := [.type "ValueError", .type "Exception", .type "BaseException", .type "object"]
abbrev tlR : List Value := [.type "RuntimeError", .type "Exception", .type "BaseException", .type "object"]
abbrev tlK : List Value := [.type "KeyError", .type "LookupError", .type "Exception", .type "BaseException", .type "object"]
theorem basV : Bas tlV "ValueError.__new__" := ⟨⟨_, _, _, F.excBase_ValueError, by decide +kernel⟩, by decide +kernel, by decide +kernel, by decide +kernel, fun _ => by kernel_rfl⟩
theorem basR : Bas tlR "RuntimeError.__new__" := ⟨⟨_, _, _, F.excBase_RuntimeError, by decide +kernel⟩, by decide +kernel, by decide +kernel, by decide +kernel, fun _ => by kernel_rfl⟩
theorem basK : Bas tlK "LookupError.__new__" := ⟨⟨_, _, _, F.excBase_LookupError, by decide +kernel⟩, by decide +kernel, by decide +kernel, by decide +kernel, fun _ => by kernel_rfl⟩

abbrev xObj (C t : Addr) : Obj := { cls := .ref C, data := .fields #[.ref t, .none, .none, .none, .bool false, .none] }
section
variable {prog : Program} {w : World} {A : Around} {R : Result → Shared → Prop} {h : Heap} {g : Array GenState} {d : Drawn} {t : Nat} {os : OsState}
variable {nm q : Str} {C N : Addr} {bs bm bm0 : List Value} {hdct : Bool} {sn : List Str} {sub : List Value} {ab : Bool} {col : Option Bool} {dd : Option Addr} {k0 k1 k2 k3 k5 : Option Value} {B newId initId : String}
/-- C(..): the maker, then C's own __init__ -/
theorem call_x (F : ExcBaseFacts B newId initId bm0) (hB : bm.contains (.type B) = true) (hA : bm.contains (.type "AttributeError") = false) (hN : bm.contains (.type "NameError") = false) {us : List Value} {fI : Addr}
    (hC : h.get? C = some (excClassObj nm q C N bs bm hdct sn sub ab col dd k0 k1 k2 k3 k5 newId)) (hi : Looks (model prog w) h (typeLookup (.ref C) "__init__") (some (.ref fI)))
    (hb : ∀ self, Looks (model prog w) h (bindSpecial (.ref fI) self) (.ref fI, [self])) (hz : us.length ≤ sizeLine)
    (go : codeAny (model prog w) (A.under (.builtin "type.__call__" ⟨.ref C :: us, []⟩)) (.call (.ref fI) ⟨.ref (h.objs.size + 1) :: us, []⟩) (InitBack (h.objs.size + 1) R) ⟨(h.push (kdv_tup us)).push (xObj C h.objs.size), g, d, t, os⟩) :
    codeAny (model prog w) A (.call (.ref C) ⟨us, []⟩) R ⟨h, g, d, t, os⟩ := by
  have cB : (Value.ref C :: bm).contains (.type B) = true := by rw [List.contains_cons, hB, Bool.or_true]
  have cA : (Value.ref C :: bm).contains (.type "AttributeError") = false := by rw [List.contains_cons, hA]; rfl
  have cN : (Value.ref C :: bm).contains (.type "NameError") = false := by rw [List.contains_cons, hN]; rfl
  have lk := tc_lookup; have bd := tc_bind (.ref C); have st := F.noStar; have en := F.ends
  have ty : (⟨h, g, d, t, os⟩ : Shared).TypeIs (.ref C) "type" := ⟨_, hC, rfl⟩
  -- what the maker is asked
  have ask : ∀ {A' : Around} {Q : Unit → Shared → Prop} {E : Value → Shared → Prop}, Q () ⟨h, g, d, t, os⟩ → wpAny (model prog w) A' (checkBuiltinCall newId ⟨.ref C :: us, []⟩) Q E ⟨h, g, d, t, os⟩ := fun {A' Q E} y => by
    simp only [checkBuiltinCall, F.newSplit, F.newKind, F.newRow]
    repeat (first | refine wpAny_loadPart_at hC ?_ | (refine wpAny_isSubtype_exc hC ?_; rw [cB]) | refine wpAny_madeBy_exc hC ?_ | refine wpAny_staticBase_exc hC ?_ | simp only [bne_self_eq_false, Bool.false_eq_true, if_false] | wp_step)
    exact y
  -- the maker
  have make : ∀ {A' : Around} {S : Result → Shared → Prop}, S (.ok (.ret (.ref (h.objs.size + 1)))) ⟨(h.push (kdv_tup us)).push (xObj C h.objs.size), g, d, t, os⟩ → codeAny (model prog w) A' (.builtin newId ⟨.ref C :: us, []⟩) S ⟨h, g, d, t, os⟩ := fun {A' S} y => by
    refine PySem.codeAny_builtinAt F.entry ?_; unfold Builtin.«BaseException.__new__»
    refine PySem.wpAt_bind ?_; show PySem.wpAt _ _ _ (stack >>= _) _ _ _
    refine PySem.wpAt_bind (PySem.wpAt_stack fun p below => PySem.wpAt_of_wpAny ?_); wp_walk
    refine PySem.wpAt_of_wpAny ?_; rw [F.owner]
    repeat (first | with_reducible refine wpAny_madeHere_exc F.canon hC ?_ | with_reducible refine wpAny_loadPart_at hC ?_ | (with_reducible refine wpAny_isSubtype_exc hC ?_; first | rw [cB] | rw [cA] | rw [cN]) | wp_step)
    show S _ _; rw [Heap.size_push]; exact y
  have k : ∀ b o, h.get? b = some o → ((h.push (kdv_tup us)).push (xObj C h.objs.size)).get? b = some o := fun b o e => Heap.get?_push_of_some _ (Heap.get?_push_of_some _ e)
  have hC1 := k _ _ hC
  have hx : ((h.push (kdv_tup us)).push (xObj C h.objs.size)).get? (h.objs.size + 1) = some (xObj C h.objs.size) := by heap_get
  have cC : (Value.ref C :: bm).contains (.ref C) = true := by simp
  have i1 := hi.keeps k; have b1 := (hb (.ref (h.objs.size + 1))).keeps k
  refine codeAny_of_tree ?_; show wpAny _ _ (callAny (.ref C) _) _ _ _
  repeat (any_goals (first | assumption | with_reducible refine wpAny_loadPart_at hC ?_ | wp_step))
  refine ⟨rfl, codeAny_call_builtin_at (Code.quiet_builtin _ (by decide +kernel)) entry_typeCall (wpAny_check_type_call_sub hC ?_)⟩
  repeat (first | with_reducible refine wpAny_loadPart_at hC ?_ | with_reducible refine wpAny_madeBy_exc hC ?_ | wp_step)
  refine codeAny_call_builtin_code (Code.quiet_builtin _ F.quiet) (ask (make ?_))
  show wpAny _ _ _ _ _ _
  unfold isInstance
  repeat (first | with_reducible refine wpAny_loadPart_at hx ?_ | (with_reducible refine wpAny_isSubtype_exc hC1 ?_; rw [cC]) | wp_step)
  show wpAny _ _ (typeLookup (.ref C) _) _ _ _
  refine i1.at (wpAny_holding (wpAny_bind (b1.at (wpAny_bind (wpAny_call (codeAny_mono go fun r s' z => ?_))))))
  rcases r with e | (v | _ | _ | _) <;> first | exact z | exact z.elim | skip
  obtain ⟨rfl, z⟩ := z
  first
    | exact wpAny_pure (wpAny_pure z)
    | (wp_walk; exact z)
end
end XC
namespace XC
open PySem.W PySem.Calls PyProof.Rows Builtin Builtin.ObjectAttr
section
variable {prog : Program} {w : World} {A : Around} {R : Result → Shared → Prop} {hp : Heap} {g : Array GenState} {d : Drawn} {t : Nat} {os : OsState}
/-- self.f = v on an error that has no dict as yet -/
theorem osa_x {K : Frag} {f : Str} {tk : Tok} {v : Value} {x C : Addr} {fv : Array Value} {bmB : List Value} {newId : String} (B : Bas bmB newId) (X : K.In hp) (hx : hp.get? x = some { cls := .ref C, data := .fields fv }) (ho : excOver K C bmB = true) (hh : hasDictIn K C = true)
    (ha : findIn K (.ref C) f = some none)
    (go : ∀ h' tk' dx, (∀ b o, b ≠ x → hp.get? b = some o → h'.get? b = some o) → hp.objs.size ≤ dx → dx ≠ x → h'.get? x = some { cls := .ref C, dict := some dx, data := .fields fv } → h'.Ns1 dx (fun y => if y = f then some v else none) → R (.ok (.ret .none)) ⟨h', g, d, tk', os⟩) :
    codeAny (model prog w) A (.call (.builtin "object.__setattr__") ⟨[.ref x, .str f tk, v], []⟩) R ⟨hp, g, d, t, os⟩ := by
  obtain ⟨cd, hcd, hdct⟩ := any_some hh
  obtain ⟨bm, hm, ht⟩ : ∃ bm, cd.mro = .ref C :: bm ∧ excTail bmB bm = true := by
    unfold excOver at ho
    rw [hcd] at ho
    have ho : (match cd.mro with | .ref C' :: bm => C' == C && excTail bmB bm | _ => false) = true := ho
    split at ho
    · rename_i C' bm e
      obtain ⟨h1, h2⟩ := Bool.and_eq_true_iff.mp ho
      rw [beq_iff_eq.mp h1] at e
      exact ⟨bm, e, h2⟩
    · cases ho
  have ob : cd.mro.contains (.type "object") = true := by rw [hm, List.contains_cons, excTail_contains _ _ ht, B.ob, Bool.or_true]
  have ne : cd.mro.isEmpty = false := by rw [hm]; rfl
  have ps : ∀ self, PySem.refuseLoop self "__setattr__" cd.mro = pure () := fun self => excTail_pass self (B.pass self) _ (by rw [hm]; exact ht)
  have I : InstAt hp x { cls := .ref C, data := .fields fv } C none := ⟨hx, rfl, rfl, trivial⟩
  have xs : x ≠ hp.objs.size := Nat.ne_of_lt (Heap.lt_size hx)
  have SF := F.store_object
  have su : Looks (model prog w) hp (isInstance (.ref x) (.type "object")) true := I.type.andThen (looks_mroIn X (by unfold mroIn; rw [hcd, Option.bind_some, if_neg (by rw [ne]; decide), ob]))
  have lm : Looks (model prog w) hp (mroOf (.ref C)) cd.mro := (looks_clsIn X hcd).andThen .now
  have ls : Looks (model prog w) hp (storeTaker? none) none := .now
  have lc : Looks (model prog w) hp (classData C) cd := looks_clsIn X hcd
  refine codeAny_call_builtin SF.slot.plain SF.entry (@check_slot (model prog w) _ _ ⟨hp, g, d, t, os⟩ "object.__setattr__" "object" "__setattr__" (.ref x) [.str f tk, v] [] _ SF.kind SF.split su (SF.args (.ref x) (.str f tk) v) ?_)
  rw [osa_eq, refuse_eq]
  refine wpAny_bind (wpAny_bind (I.type.at (wpAny_bind (lm.at ?_)))); rw [ps]
  refine wpAny_pure (wpAny_bind (I.type.at (wpAny_bind ((looks_findIn X ha).at (wpAny_bind (ls.at ?_)))))); show wpAny _ _ (storeInOwnDict (.ref x) (.ref C) (.str f tk) f v false) _ _ _
  obtain ⟨nm, bs, mro, ns, qn, hd, sn, sb, ab, col, del⟩ := cd
  have hdct : hd = true := hdct
  subst hdct
  unfold storeInOwnDict ownDictForStores
  repeat (first | with_reducible refine HandSPX.store_in_new ?_ ?_ | with_reducible refine wpAny_loadPart_at hx ?_ | with_reducible refine lc.at ?_ | wp_step)
  · exact ⟨_, #[], _, (Heap.get?_update_ne _ _ _ _ xs.symm).trans (Heap.get?_push_at rfl rfl), rfl, fun e he => absurd he (by simp), fun _ => rfl⟩
  · intro h' tk' hn' hs
    have hx1 : (hp.push { cls := .type "dict", data := .dict #[] }).get? x = some { cls := .ref C, data := .fields fv } := Heap.get?_push_of_some _ hx
    exact go h' tk' hp.objs.size (fun b o hb ho => (hs.2 b (Nat.ne_of_lt (Heap.lt_size ho))).trans ((Heap.get?_update_ne _ _ _ _ hb).trans (Heap.get?_push_of_some _ ho))) (Nat.le_refl _) xs.symm ((hs.2 x xs).trans (Heap.get?_update_self _ hx1 rfl)) hn'
end
end XC
/-- what the written part says of an error class -/
structure OexG (K : PySem.W.Frag) (C : Addr) : Prop where
  ex : ∃ (bmB : List Value) (newId : String), XC.Bas bmB newId ∧ PySem.W.excInitIn K C bmB newId = true ∧ PySem.W.excOver K C bmB = true
  hd : PySem.W.hasDictIn K C = true
  sa : PySem.W.findIn K (.ref C) "__setattr__" = some (some (.builtin "object.__setattr__"))
  exC : PySem.W.subIn K (.ref C) (.type "BaseException") = some true
  tyC : PySem.W.typeIn K (.ref C) = some (.type "type")
  kC : PySem.W.keepIn K (.ref C) = true
section
variable {X : Cx} {pins : List (Addr × Obj)} {σ : St} {H : Hp} {s : Shared} {a C : Addr} {f : Str} {y : V} {u : Value} {Q : Unit → Shared → Prop} {E : Value → Shared → Prop} {A : Around}
/-- self.f = y, the first one -/
theorem ostG (T : OexG X.K C) (I : Inv X pins σ H s) (e : H a = some (exo a C none)) (hno : PySem.W.findIn X.K (.ref C) f = some none) (ry : RelV y u)
    (go : ∀ dx s', H dx = none → dx ≠ a → Inv X pins σ (upd (upd H dx (exd dx [(f, y)])) a (exo a C (some dx))) s' → Q () s') : wpAny (model X.prog X.w) A (setAttr (.ref a) f u) Q E s := by
  obtain ⟨bmB, newId, B, _, ov⟩ := T.ex
  obtain ⟨t1, ho⟩ := exo_at I.hok e
  obtain ⟨hp, g, d, t, os⟩ := s
  refine PySem.W.set_plain I.kIn (ox := { cls := .ref C, dict := none, data := .fields #[.ref t1, .none, .none, .none, .bool false, .none] }) (od := none) ⟨ho, rfl, rfl, trivial⟩ T.sa (XC.osa_x B I.kIn ho ov T.hd hno fun h' tk' dx k dn dne hx hn => ?_)
  have hnd : H dx = none := I.hok.fresh dn
  have ndx : ∀ {b : Addr} {o : Obj}, hp.get? b = some o → b ≠ dx := fun {b o} q => Nat.ne_of_lt (Nat.lt_of_lt_of_le (Heap.lt_size q) dn)
  have nea : ∀ {b : Addr}, H b = none → b ≠ a := fun {b} n z => by rw [z, e] at n; cases n
  have U : Un X.fs [] H (upd (upd H dx (exd dx [(f, y)])) a (exo a C (some dx))) hp h' := {
    keep := fun b o q n _ _ => k b o (nea n) q
    slot := fun b o q n _ _ => ⟨o.slots, k b o (nea n) q⟩
    free := fun b o q n _ => (upd_ne (nea n)).trans ((upd_ne (ndx q)).trans n)
    there := fun b o q _ => by
      by_cases hb : b = a
      · exact ⟨_, hb ▸ hx⟩
      · exact ⟨o, k b o hb q⟩
    tups := fun b xs q => (upd_ne (at_ne e q exo_tup)).trans ((upd_ne (ne_of_none q hnd)).trans q)
    frzs := fun b o v q => (upd_ne (at_ne e q exo_frz)).trans ((upd_ne (ne_of_none q hnd)).trans q)
    tbls := fun b ps q => ⟨#[], by rw [upd_ne (at_ne e q exo_tbl), upd_ne (ne_of_none q hnd), q]; simp⟩ }
  refine go dx _ hnd dne (I.un (t' := tk') U fun b o q => ?_)
  by_cases hb : b = a
  · subst hb
    rw [upd_same] at q
    cases q
    exact exo_ok hx
  · rw [upd_ne hb] at q
    by_cases hbd : b = dx
    · subst hbd
      rw [upd_same] at q
      cases q
      refine exd_ok hn fun g => ?_
      rw [lookup_put]
      by_cases hg : g = f
      · rw [if_pos hg, if_pos hg]; exact ry
      · rw [if_neg hg, if_neg hg]; exact trivial
    · rw [upd_ne hbd] at q
      refine (I.hok b o q).stay (fun c v hc z => k c v ?_ z) (fun c hc => (upd_ne (at_ne e hc exo_own)).trans ((upd_ne (ne_of_none hc hnd)).trans hc)) (fun c xs hc => (upd_ne (at_ne e hc exo_tup)).trans ((upd_ne (ne_of_none hc hnd)).trans hc))
      rcases hc with hc | hc
      · rw [hc]; exact hb
      · exact at_ne e hc exo_own
end
/-- self.f = e in an error's __init__ -/
def tOstG (K : PySem.W.Frag) (f : Str) (to te : TE) : TS := fun D σ H => te σ H fun y H1 => to σ H1 fun x H2 => ∃ a C : Addr, x = .ref a ∧ OexG K C ∧ PySem.W.findIn K (.ref C) f = some none ∧ H2 a = some (exo a C none) ∧
  ∀ dx, H2 dx = none → dx ≠ a → D.nx σ (upd (upd H2 dx (exd dx [(f, y)])) a (exo a C (some dx)))
theorem ps_ostG {X : Cx} {o e : Expr} {to te : TE} {f : Str} {p' pos : Pos} (ho : PE X o to) (he : PE X e te) (hs : swapsWith e (some (.Attribute o f p')) pos.line X.env = pure false := by rfl) : PS X (.Assign [.Attribute o f p'] e pos) (tOstG X.K f to te) := by
  refine ⟨fun pins s σ H D I h => plainObj_wpAny_Assign_Attribute (thn (he.run pins s σ H _ I h) fun v s1 ⟨y, H1, I1, r1, q1⟩ => thn (ho.run pins s1 σ H1 _ I1 q1) fun u s2 ⟨x, H2, I2, r2, a, C, ex, T, hno, ea, q⟩ => ?_) hs⟩
  subst ex
  obtain rfl : u = Value.ref a := r2
  exact ostG T I2 ea hno r1 fun dx s' n ne J => ⟨σ, _, J, q dx n ne⟩
/-- what the __init__ of an error class with one field does -/
def spX (C : Addr) (f : Str) : Sp := fun vs H Q _ => ∃ (a : Addr) (v : V), vs = [.ref a, v] ∧ H a = some (exo a C none) ∧ ∀ dx, H dx = none → dx ≠ a → Q .non (upd (upd H dx (exd dx [(f, v)])) a (exo a C (some dx)))
/-- an error class under its name -/
structure HasX (P : Program) (w : World) (K : PySem.W.Frag) (mg : Str → Option Value) (base : Heap) (k : Nat) (x : Str) (C : Addr) (f : Str) : Prop where
  ex : ∃ (fI : Addr) (fd : FuncData) (ps : List Str), OexG K C ∧ PySem.W.findIn K (.ref C) "__init__" = some (some (.ref fI)) ∧ PySem.W.typeIn K (.ref fI) = some (.type "function") ∧ FnOk P w K mg base CX0 k fI fd ps (spX C f) ∧ mg x = some (.ref C) ∧ Binds K fd ps []
/-- C(e), to be raised -/
def tMkX (C : Addr) (f : Str) (ta : TA) : L2.St → Hp → XK → Prop := fun σ H Q => ta σ H fun vs H1 => ∃ v, vs = [v] ∧ ∀ d, H1 d = none → Q (.ref C) (some d) (upd H1 d (.xd [(f, v)]))
theorem pmk_x {X : Cx} {x : Str} {C : Addr} {f : Str} {k : Nat} {e : Expr} {ta : TA} {p pos : Pos} (T : HasX X.prog X.w X.K X.mg X.base k x C f) (hr : Room (k + 1) X.A) (hg : Gl X x) (ha : PA X [e] ta)
    (hdb : (x == ("__debug__" : Str)) = false := by decide) (he : starEach [e] X.env = (false, eval e X.env) :: starEach [] X.env := by rfl) : L2N.PMk X (.Call (.Name x p) [e] [] pos) (tMkX C f ta) := by
  intro pins s σ H Q I h
  obtain ⟨fI, fd, ps, T, iC, tI, F1, hm, hb⟩ := T.ex
  obtain ⟨bmB, newId, B, hini, ov⟩ := T.ex
  refine wpAny_Call_Name_kw (ld_glob I hg hm ?_ hdb)
  refine PySem.W.callWith_K (h₀ := X.base) I.ok.mod.kin T.kC (thn (ha.run pos pins s σ H _ I h) fun us s1 ⟨vs, H1, I1, r1, v, ev, q1⟩ => ⟨I1.kIn, ?_⟩) he rfl
  subst ev
  cases r1 with
  | @cons _ u _ ur ru rn =>
    cases rn
    show wpAny _ _ (call (.ref C) [u]) _ _ _
    obtain ⟨hp, g, dr, tk, os⟩ := s1
    obtain ⟨nm, N, qn, bs, bm, hdct, sn, sub, ab, col, dd, k0, k1, k2, k3, k5, hC, hT⟩ := PySem.W.excInit_of I1.kIn hini
    obtain ⟨B0, i0, bm0, FB, cB⟩ := B.ex
    have hn : H1 (hp.objs.size + 1) = none := I1.hok.fresh (Nat.le_succ _)
    have kk : ∀ b o, hp.get? b = some o → ((hp.push (PySem.W.kdv_tup [u])).push (XC.xObj C hp.objs.size)).get? b = some o := fun b o z => Heap.get?_push_of_some _ (Heap.get?_push_of_some _ z)
    have hget : ((hp.push (PySem.W.kdv_tup [u])).push (XC.xObj C hp.objs.size)).get? (hp.objs.size + 1) = some (XC.xObj C hp.objs.size) := by heap_get
    have I2 : Inv X pins σ (upd H1 (hp.objs.size + 1) (exo (hp.objs.size + 1) C none)) ⟨(hp.push (PySem.W.kdv_tup [u])).push (XC.xObj C hp.objs.size), g, dr, tk, os⟩ :=
      I1.laid (t' := tk) (a := hp.objs.size + 1) (o := exo (hp.objs.size + 1) C none) kk (Nat.le_succ _) (exo_ok hget)
    have r2 : Vals [V.ref (hp.objs.size + 1), v] [Value.ref (hp.objs.size + 1), u] := .cons rfl (.cons ru .nil)
    have hq : spX C f [.ref (hp.objs.size + 1), v] (upd H1 (hp.objs.size + 1) (exo (hp.objs.size + 1) C none)) (fun r H2 => r = .non ∧ ∃ d, H1 d = none ∧ d ≠ hp.objs.size + 1 ∧ H2 = upd (upd (upd H1 (hp.objs.size + 1) (exo (hp.objs.size + 1) C none)) d (exd d [(f, v)])) (hp.objs.size + 1) (exo (hp.objs.size + 1) C (some d))) (fun _ _ _ => False) :=
      ⟨_, _, rfl, upd_same, fun dx z ne => ⟨rfl, dx, by rw [upd_ne ne] at z; exact z, ne, rfl⟩⟩
    have hl : ([Value.ref (hp.objs.size + 1), u] ++ []).length = ps.length := by
      rw [List.append_nil, ← F1.len _ _ _ _ hq, ← r2.length]
    have b2 := hb _ [Value.ref (hp.objs.size + 1), u] I2.kIn hl
    rw [List.append_nil] at b2
    refine wpAny_call (XC.call_x FB (by rw [hT]; exact cB) (by rw [hT]; exact B.noA) (by rw [hT]; exact B.noN) hC (PySem.W.looks_findIn I1.kIn iC) (fun self => PySem.W.bind_fn I1.kIn self tI) (by show 1 ≤ sizeLine; rw [sizeLine_eq]; omega)
      (codeAny_mono (F1.run _ X.stack _ _ ⟨[Value.ref (hp.objs.size + 1), u], []⟩ [Value.ref (hp.objs.size + 1), u] _ _ (fun _ _ _ => False) (hr.make C [u] []) (I2.env0.make C [u] []) b2 r2 hq) fun r s' hq' => ?_))
    cases r with
    | error er => exact hq'.elim
    | ok fl =>
      cases fl with
      | ret y =>
        obtain ⟨v2, H2, os2, bare2, un2, hok2, rv, ev, d, hd1, dne, eH⟩ := hq'
        subst ev
        obtain ⟨h2, g2, d2, t2, os'⟩ := s'
        obtain ⟨t0, G, J, kG, ge, hoe, na⟩ := mk_end0 (d2 := d2) (t2 := t2) (fs := [(f, v)]) I1 (Nat.le_succ _) kk un2 hok2 os2 bare2 (by rw [eH, upd_same]) (by rw [eH, upd_ne dne, upd_same]) hd1
        have eq : upd (del H2 (hp.objs.size + 1)) d (.xd [(f, v)]) = upd H1 d (.xd [(f, v)]) := by
          funext b
          by_cases hbd : b = d
          · rw [hbd, upd_same, upd_same]
          · rw [upd_ne hbd, upd_ne hbd]
            by_cases hba : b = hp.objs.size + 1
            · rw [hba, del_same, hn]
            · rw [del_ne hba, eH, upd_ne hba, upd_ne hbd, upd_ne hba]
        rw [eq] at J na
        exact ⟨rv, ⟨hp.objs.size + 1, _, _, ⟨G, g2, d2, t2, os'⟩, _, .ref C, some d, rfl, J, kG, ge, hoe, ⟨rfl, rfl, fun vs hv => by cases hv; rfl⟩, rfl, rfl, na, rfl, bare2, raises_own T.exC T.tyC, q1 d hd1⟩⟩
      | next => exact hq'.elim
      | brk => exact hq'.elim
      | cont => exact hq'.elim

/-! ### try with several clauses, each with a class or a tuple of classes, with or without a name -/
namespace TX
open PySem.W PySem.Calls PyProof.Rows
section
variable {M : Model} {h : Heap} {K : Frag}
theorem look_each {α : Type} {f : α → PUnit → Sem (ForInStep PUnit)} : ∀ {cs : List α}, (∀ c ∈ cs, Looks M h (f c ⟨⟩) (.yield ⟨⟩)) → Looks M h (forIn cs PUnit.unit f) ⟨⟩
  | [], _ => fun A Q E s k q => wpAny_pure q
  | c :: r, hf => by
    rw [List.forIn_cons]
    exact (hf c List.mem_cons_self).andThen (look_each fun d hd => hf d (List.mem_cons_of_mem _ hd))
theorem look_first {α β : Type} {f : α → β → Sem (ForInStep β)} {b0 bd : β} {p : α → Bool} : ∀ {cs : List α}, (∀ c ∈ cs, Looks M h (f c b0) (if p c = true then .done bd else .yield b0)) → Looks M h (forIn cs b0 f) (if cs.any p = true then bd else b0)
  | [], _ => fun A Q E s k q => wpAny_pure q
  | c :: r, hf => by
    rw [List.forIn_cons, List.any_cons]
    have h1 := hf c List.mem_cons_self
    cases hp : p c with
    | true =>
      rw [hp, if_pos rfl] at h1
      rw [Bool.true_or, if_pos rfl]
      exact h1.andThen fun A Q E s k q => wpAny_pure q
    | false =>
      rw [hp, if_neg Bool.false_ne_true] at h1
      rw [Bool.false_or]
      exact h1.andThen (look_first fun d hd => hf d (List.mem_cons_of_mem _ hd))
theorem exmAny_all {cls : Value} : ∀ {cs : List Value} {b : Bool}, exmAny K cls cs = some b → (∀ c ∈ cs, exmOne K cls c = some ((exmOne K cls c).getD false)) ∧ b = cs.any fun c => (exmOne K cls c).getD false
  | [], b, e => ⟨fun c hc => (by cases hc), (Option.some.inj (show some false = some b from e)).symm⟩
  | c :: r, b, e => by
    obtain ⟨b1, d1, x1, y1, z1⟩ := exmAny_cons e
    obtain ⟨i1, i2⟩ := exmAny_all y1
    refine ⟨fun d hd => ?_, ?_⟩
    · rcases List.mem_cons.mp hd with rfl | hd
      · rw [x1]; rfl
      · exact i1 d hd
    · rw [List.any_cons, x1, ← i2]; exact z1
/-- the clause's tuple of classes -/
theorem exm_tupN {cls : Value} {tp e : Addr} {cs : List Value} {b : Bool} (X : K.In h) (LT : Looks M h (typeOf (.ref e)) cls) (hp : h.get? tp = some { cls := .type "tuple", data := .seq cs.toArray }) (hx : exmAny K cls cs = some b) : Looks M h (excMatches (.ref e) (.ref tp)) b := by
  obtain ⟨h1, h2⟩ := exmAny_all hx
  have tt : Looks M h (isInstance (.ref tp) (.type "tuple")) true := ((Looks.ld hp).andThen .now).andThen (Looks.of_pure isSubtype_tuple_tuple)
  intro A Q E s k q
  unfold excMatches
  refine wpAny_bind ((tt.keeps k).here ?_)
  rw [if_pos rfl]
  first
    | refine wpAny_bind (wpAny_seqItems (k _ _ hp) rfl ?_)
    | refine wpAny_bind (wpAny_bind (wpAny_seqItems (k _ _ hp) rfl (wpAny_pure ?_)))
  dsimp only [Option.getD_some, Option.getD]
  refine wpAny_bind (wpAny_pure ?_)
  refine wpAny_bind ((look_each (h := h) (cs := cs) fun c hc => ?_) _ _ _ _ k ?_)
  · intro A' Q' E' s' k' q'
    refine wpAny_bind ((((exm_cls (M := M) X (h1 c hc)).1).keeps k').here ?_)
    simp only [Bool.not_true, Bool.false_eq_true, if_false]
    exact wpAny_pure q'
  · refine wpAny_bind ((LT.keeps k).here ?_)
    refine wpAny_bind ((look_first (h := h) (p := fun c => (exmOne K cls c).getD false) (bd := (some true, ())) (cs := cs) fun c hc => ?_) _ _ _ _ k ?_)
    · intro A' Q' E' s' k' q'
      refine wpAny_bind ((((exm_cls (M := M) X (h1 c hc)).2).keeps k').here ?_)
      cases hv : (exmOne K cls c).getD false with
      | true => rw [hv, if_pos rfl] at q'; rw [if_pos rfl]; exact wpAny_pure q'
      | false => rw [hv, if_neg Bool.false_ne_true] at q'; rw [if_neg Bool.false_ne_true]; exact wpAny_pure q'
    · rw [← h2]
      cases b with
      | true => rw [if_pos rfl]; exact wpAny_pure q
      | false => rw [if_neg Bool.false_ne_true]; exact wpAny_pure q
end
end TX
/-- own classes under these names -/
inductive NamesAll (X : Cx) : List Expr → List Value → Prop
  | nil : NamesAll X [] []
  | cons {x : Str} {p : Pos} {c : Value} {es : List Expr} {cs : List Value} (h : Names X x c) (r : NamesAll X es cs) : NamesAll X (.Name x p :: es) (c :: cs)
/-- what an except clause tests -/
inductive Tst (X : Cx) : Expr → List Value → Prop
  | one {x : Str} {p : Pos} {c : Value} (h : Names X x c) : Tst X (.Name x p) [c]
  | tup {es : List Expr} {cs : List Value} {k : Nat} {p : Pos} (h : NamesAll X es cs) (hl : cs.length ≤ 100) : Tst X (.Tuple es k p) cs
section
variable {X : Cx} {a : Addr} {pn : List (Addr × Obj)} {σ : L2.St} {H : Hp} {s : Shared}
theorem name_test {x : Str} {c : Value} {p : Pos} (h : Names X x c) (I : Inv (X.suite a pn) [] σ H s) {Q : Value → Shared → Prop} {E : Value → Shared → Prop} (q : Q c s) : wpAny (model X.prog X.w) (X.A.mark (some (.ref a))) (eval (.Name x p) X.env) Q E s := by
  obtain ⟨hg, hd, hm | ⟨hm, hv, hn⟩⟩ := h
  · exact ld_glob (X := X.suite a pn) I hg hm q hd
  · exact ld_blt (X := X.suite a pn) I hg hm hv q hn hd
theorem names_test {es : List Expr} {cs : List Value} {pos : Pos} (h : NamesAll X es cs) (I : Inv (X.suite a pn) [] σ H s) : ∀ {Q : List Value → Shared → Prop} {E : Value → Shared → Prop}, Q cs s → wpAny (model X.prog X.w) (X.A.mark (some (.ref a))) (spliced (backTo pos (starEach es X.env))) Q E s := by
  induction h with
  | nil => exact fun q => wpAny_pure q
  | cons h r ih => exact fun q => wpAny_items_cons (name_test h I (ih q))
theorem Tst.run {t : Expr} {cs : List Value} {cls : Value} {b : Bool} (T : Tst X t cs) (I : Inv (X.suite a pn) [] σ H s) (LT : PySem.W.Looks (model X.prog X.w) s.heap (typeOf (.ref a)) cls) (hx : PySem.W.exmAny X.K cls cs = some b) {Q : Bool → Shared → Prop} {E : Value → Shared → Prop}
    (q : ∀ h', (∀ b o, s.heap.get? b = some o → h'.get? b = some o) → Q b { s with heap := h' }) :
    wpAny (model X.prog X.w) (X.A.mark (some (.ref a))) (eval t X.env) (fun c s1 => wpAny (model X.prog X.w) (X.A.mark (some (.ref a))) (excMatches (.ref a) c) Q E s1) E s := by
  cases T with
  | one h =>
    obtain ⟨b1, d1, x1, y1, z1⟩ := PySem.W.exmAny_cons hx
    have e : d1 = false := (Option.some.inj (show some false = some d1 from y1)).symm
    subst e
    rw [Bool.or_false] at z1
    subst z1
    exact name_test h I ((PySem.W.exm_one (M := model X.prog X.w) I.kIn LT x1).here (q _ fun _ _ z => z))
  | tup h hl =>
    refine wpAny_Tuple_spliced (names_test h I ⟨by rw [sizeLine_eq]; omega, ?_⟩)
    have k : ∀ b o, s.heap.get? b = some o → (s.heap.push { cls := .type "tuple", data := .seq cs.toArray }).get? b = some o := fun b o z => Heap.get?_push_of_some _ z
    exact (TX.exm_tupN (I.kIn.keeps k) (LT.keeps k) (Heap.get?_push_size _ rfl) hx).here (q _ k)
end
/-- the suite of a clause, for any error that it takes -/
abbrev SuOk (X : Cx) (suite : List Stmt) (ts : Addr → Value → Option Addr → TS) : Prop :=
  ∀ (a : Addr) (oe : Obj) (cls : Value) (d : Option Addr) (pn : List (Addr × Obj)), L2N.Zn cls d oe → (∃ vs, oe.data = .fields vs) → PSs (X.suite a ((a, oe) :: pn)) suite (ts a cls d)
inductive HdX (X : Cx) : List ExceptHandler → List (List Value × Option Nat × (Addr → Value → Option Addr → TS)) → Prop
  | nil : HdX X [] []
  | only {t : Expr} {cs : List Value} {ts : Addr → Value → Option Addr → TS} {b₀ : Stmt} {suite : List Stmt} {pos' : Pos} {hds : List ExceptHandler} {l : List (List Value × Option Nat × (Addr → Value → Option Addr → TS))} (ht : Tst X t cs) (hsu : SuOk X (b₀ :: suite) ts) (r : HdX X hds l) :
      HdX X (.ExceptHandler (some t) none (b₀ :: suite) pos' :: hds) ((cs, none, ts) :: l)
  | named {t : Expr} {n : Str} {i : Nat} {cs : List Value} {ts : Addr → Value → Option Addr → TS} {b₀ : Stmt} {suite : List Stmt} {pos' : Pos} {hds : List ExceptHandler} {l : List (List Value × Option Nat × (Addr → Value → Option Addr → TS))} (ht : Tst X t cs)
      (hi : X.N[i]? = some n) (hln : X.env.kindOf n = some .local) (hsu : SuOk X (b₀ :: suite) ts) (r : HdX X hds l) : HdX X (.ExceptHandler (some t) (some n) (b₀ :: suite) pos' :: hds) ((cs, some i, ts) :: l)
/-- a slot that is emptied behind the suite -/
def Ends.less (D : Ends) (i : Nat) : Ends := { nx := fun σ H => D.nx (σ.set i none) H, rt := D.rt, bk := fun σ H => D.bk (σ.set i none) H, ct := fun σ H => D.ct (σ.set i none) H }
/-- what the clauses wish of an error of the body -/
def wX (K : PySem.W.Frag) (Wout : WX) (D : Ends) : List (List Value × Option Nat × (Addr → Value → Option Addr → TS)) → WX
  | [] => Wout
  | (cs, none, ts) :: r => fun cls d σ H => ∃ b, PySem.W.exmAny K cls cs = some b ∧ (b = true → ∀ a, H a = none → ts a cls d D σ H) ∧ (b = false → wX K Wout D r cls d σ H)
  | (cs, some i, ts) :: r => fun cls d σ H => ∃ b, PySem.W.exmAny K cls cs = some b ∧ (b = true → ∀ a, H a = none → ts a cls d (Ends.less D i) (σ.set i (some (.ref a))) H) ∧ (b = false → wX K Wout D r cls d σ H)
theorem flying_keeps {B h h' : Heap} {l : List Env} {a : Addr} {Z : Obj → Prop} (k : ∀ b o, h.get? b = some o → h'.get? b = some o) (x : HandSPX.FlyingZ B l a Z h) : HandSPX.FlyingZ B l a Z h' := by
  obtain ⟨k1, k2, k3, oe, vs, T, oT, ts, he, hz, hd, h1, hT0, hne, hT, hdT, h3⟩ := x
  exact ⟨fun b o z => k b o (k1 b o z), k2, k3.of_keeps fun b o z _ => ⟨o, k b o z, rfl⟩, oe, vs, T, oT, ts, k _ _ he, hz, hd, h1, hT0, hne, k _ _ hT, hdT, h3⟩
theorem up_keeps {h h' : Heap} (k : ∀ b o, h.get? b = some o → h'.get? b = some o) : h.UpToSlots h' := fun b o z _ => ⟨o.slots, k b o z⟩
section
variable {X : Cx} {body : List Stmt} {h₀ : ExceptHandler} {hds : List ExceptHandler} {l : List (List Value × Option Nat × (Addr → Value → Option Addr → TS))} {pos : Pos} {tb : WX → TS} {Wout : WX}
/-- the clauses, one after the other, at an error that has landed -/
theorem clauses (hs : X.stack = X.env :: X.outer) (hf : X.env.frame = some X.env.locals) (hN : X.N.Nodup) (tk : L2N.Takes X Wout) {pins : List (Addr × Obj)} {σ : L2.St} {H : Hp} {sI : Shared} {a : Addr} {B : Heap} {cls : Value} {d : Option Addr} {D : Ends}
    (J : Inv X pins σ H sI) (nb : ∀ b o, sI.heap.get? b = some o → b ∉ frs X.stack → B.get? b = some o) (na : H a = none) (hh : HdX X hds l) : wX X.K Wout D l cls d σ H →
    ∀ s : Shared, HandSPX.FlyingZ B (X.env :: X.outer) a (L2N.Zn cls d) s.heap → sI.heap.UpToSlots s.heap → s.os = sI.os → PyProof.Rows.AllBare s.gens → wpAny (model X.prog X.w) X.A (handleBy (.ref a) X.env hds) (SP X pins D) X.xe s := by
  have ok := J.ok
  have land : ∀ {h : Heap} {s : Shared}, HandSPX.FlyingZ B (X.env :: X.outer) a (L2N.Zn cls d) h → sI.heap.UpToSlots h → s.os = sI.os → PyProof.Rows.AllBare s.gens → Inv X pins σ H { s with heap := h } := fun {h s} fl up os ag => J.landed (s' := { s with heap := h }) nb fl.1 up os ag
  have suit : ∀ {h : Heap} {s : Shared}, HandSPX.FlyingZ B (X.env :: X.outer) a (L2N.Zn cls d) h → sI.heap.UpToSlots h → s.os = sI.os → PyProof.Rows.AllBare s.gens →
      ∃ oe, L2N.Zn cls d oe ∧ (∃ vs, oe.data = .fields vs) ∧ h.get? a = some oe ∧ Inv (X.suite a ((a, oe) :: (X.pn ++ pins))) [] σ H { s with heap := h } := fun {h s} fl up os ag => by
    obtain ⟨oe, vs, he, hz, hd⟩ := fl.there
    have nfr : a ∉ frs (X.env :: X.outer) := fun hm => by
      obtain ⟨_, o', e', hnf⟩ := fl.2.2.1.mem hm
      rw [he] at e'; cases e'
      exact hnf _ hd
    have nL : a ≠ X.env.locals := fun z => nfr (List.mem_filterMap.mpr ⟨X.env, List.mem_cons_self, by rw [hf, z]⟩)
    have nF : a ∉ X.fs := fun hm => by
      obtain ⟨e, he, q⟩ := List.mem_filterMap.mp hm
      exact nfr (List.mem_filterMap.mpr ⟨e, List.mem_cons_of_mem _ he, q⟩)
    exact ⟨oe, hz, ⟨vs, hd⟩, he, (land fl up os ag).suite he hd na nL nF⟩
  induction hh with
  | nil =>
    intro w s fl up os ag
    refine wpAny_handleBy_nil ?_
    obtain ⟨k1, k2, k3, oe, vs, T, oT, ts', he, hz, hd, h1, hr⟩ := id fl
    unfold PySem.passOn
    refine wpAny_bind (wpAny_field he hd h1 ?_); rw [if_neg (show ¬ ((Value.ref T == Value.none) = true) from by simp)]
    have last : wpAny (model X.prog X.w) X.A (setFlight (.ref a) X.env.frame) (fun _ s4 => wpAny (model X.prog X.w) X.A (throw (.ref a) : Sem Flow) (SP X pins D) X.xe s4) X.xe s := by
      rw [hf]
      exact HandSPX.setFlight_upZ fl fun h4 hh4 up4 => wpAny_throw (tk _ _ ⟨a, B, sI, pins, σ, H, cls, d, rfl, J, nb, up.trans up4, .inr (.inr (by rw [hs]; exact hh4)), na, os, ag, w⟩)
    first
      | exact wpAny_bind (wpAny_pure (wpAny_bind last))
      | exact wpAny_bind last
  | @only t cs ts b₀ suite pos' hds2 l2 ht hsu r ih =>
    rintro ⟨b, hb1, yes, no⟩ s fl up os ag
    obtain ⟨oe, hz, hd, he, S⟩ := suit (s := s) fl up os ag
    have LT : PySem.W.Looks (model X.prog X.w) s.heap (typeOf (.ref a)) cls := fun A Q E s' k q => wpAny_typeOf_ref (k _ _ he) (by rw [hz.1]; exact q)
    refine wpAny_handleBy_cons (codeAny_handlers_test (ht.run S LT hb1 fun h1 k => ?_)) (by intro q; cases q)
    have fl1 := flying_keeps k fl; have up1 := up.trans (up_keeps k)
    cases b with
    | false => exact ih (no rfl) { s with heap := h1 } fl1 up1 os ag
    | true =>
      refine codeAny_handlers_suite (HandSPX.lands_againZ (s := { s with heap := h1 }) fl1 fun h4 fl4 up4 => ?_)
      obtain ⟨oe4, hz4, hd4, he4, S4⟩ := suit (s := s) fl4 (up1.trans up4) os ag
      refine wpAny_mono ((hsu a oe4 cls d (X.pn ++ pins) hz4 hd4).run [] _ _ H _ S4 (yes rfl a na)) (fun f s6 hsp => ?_) (fun _ _ z => False.elim z)
      cases f with
      | ret u => obtain ⟨v6, σ6, H6, S6, r6, q6⟩ := hsp; exact ⟨_, _, _, S6.unsuite ok, r6, q6⟩
      | next => obtain ⟨σ6, H6, S6, q6⟩ := hsp; exact ⟨_, _, S6.unsuite ok, q6⟩
      | brk => obtain ⟨σ6, H6, S6, q6⟩ := hsp; exact ⟨_, _, S6.unsuite ok, q6⟩
      | cont => obtain ⟨σ6, H6, S6, q6⟩ := hsp; exact ⟨_, _, S6.unsuite ok, q6⟩
  | @named t n i cs ts b₀ suite pos' hds2 l2 ht hi hln hsu r ih =>
    rintro ⟨b, hb1, yes, no⟩ s fl up os ag
    obtain ⟨oe, hz, hd, he, S⟩ := suit (s := s) fl up os ag
    have LT : PySem.W.Looks (model X.prog X.w) s.heap (typeOf (.ref a)) cls := fun A Q E s' k q => wpAny_typeOf_ref (k _ _ he) (by rw [hz.1]; exact q)
    refine wpAny_handleBy_cons (codeAny_handlers_test (ht.run S LT hb1 fun h1 k => ?_)) (by intro q; cases q)
    have fl1 := flying_keeps k fl; have up1 := up.trans (up_keeps k)
    cases b with
    | false => exact ih (no rfl) { s with heap := h1 } fl1 up1 os ag
    | true =>
      refine codeAny_handlers_suite_as (HandSPX.lands_againZ (s := { s with heap := h1 }) fl1 fun h4 fl4 up4 => ?_)
      obtain ⟨oe4, hz4, hd4, he4, S4⟩ := suit (s := s) fl4 (up1.trans up4) os ag
      refine store_ok (X := X.suite a ((a, oe4) :: (X.pn ++ pins))) (v := .ref a) S4 hN hi (.inl hln) rfl (fun s5 S5 => ?_) (.inr hln)
      refine wpAny_mono ((hsu a oe4 cls d (X.pn ++ pins) hz4 hd4).run [] s5 _ H _ S5 (yes rfl a na)) (fun f s6 hsp => ?_) (fun _ _ z => False.elim z)
      have back : ∀ {σ6 : L2.St} {H6 : Hp} {Q : Shared → Prop}, Inv (X.suite a ((a, oe4) :: (X.pn ++ pins))) [] σ6 H6 s6 → (∀ s7, Inv X pins (σ6.set i none) H6 s7 → Q s7) → wpAny (model X.prog X.w) X.A (do bindName X.env n .none; unbindBehindTheSuite X.env n pos') (fun _ s7 => Q s7) X.xe s6 :=
        fun {σ6 H6 Q} S6 hq => gone_ok (S6.unsuite ok) hN hi hln hq
      cases f with
      | ret u => obtain ⟨v6, σ6, H6, S6, r6, q6⟩ := hsp; exact back S6 fun s7 J7 => ⟨_, _, _, J7, r6, q6⟩
      | next => obtain ⟨σ6, H6, S6, q6⟩ := hsp; exact back S6 fun s7 J7 => ⟨_, _, J7, q6⟩
      | brk => obtain ⟨σ6, H6, S6, q6⟩ := hsp; exact back S6 fun s7 J7 => ⟨_, _, J7, q6⟩
      | cont => obtain ⟨σ6, H6, S6, q6⟩ := hsp; exact back S6 fun s7 J7 => ⟨_, _, J7, q6⟩
theorem ps_tryX (hs : X.stack = X.env :: X.outer) (hf : X.env.frame = some X.env.locals) (hN : X.N.Nodup) (tk : L2N.Takes X Wout)
    (hb : ∀ (W : WX) (pn : List (Addr × Obj)) (xe : Value → Shared → Prop), L2N.Takes (X.tr pn xe) W → PassesOwn (model X.prog X.w) X.A X.env xe → PSs (X.tr pn xe) body (tb W))
    (hh : HdX X (h₀ :: hds) l) : PS X (.Try body (h₀ :: hds) [] [] pos) (fun D σ H => tb (wX X.K Wout D l) D σ H) := by
  refine ⟨fun pins s σ H D I h => wpAny_Try_except ?_⟩
  have ok := I.ok
  have hfr : X.A.frames = some (X.env :: X.outer) := by rw [ok.frames, hs]
  refine wpAny_mono ((hb (wX X.K Wout D l) (X.pn ++ pins) (fun e s1 => wpAny (model X.prog X.w) X.A (noteFrame e X.env) (fun _ s2 => wpAny (model X.prog X.w) X.A (setFlight e none) (fun _ s3 =>
    wpAny (model X.prog X.w) X.A (handleBy e X.env (h₀ :: hds)) (SP X pins D) X.xe s3) X.xe s2) X.xe s1) (fun u s' xx => ?_) PassesOwn.looking).run [] s σ H D (I.toTry _) h) (fun f s1 hsp => ?_) (fun e s1 he => he)
  · obtain ⟨a, B, sI, pins', σ', H', cls, d, rfl, J', nb, up, sky, na, os, ag, w⟩ := xx
    exact L2N.Sky.land L2N.Zn.steady hfr hf (by rw [← hs]; exact sky) fun h3 fl3 up3 => clauses hs hf hN tk (J'.ofTry ok) nb na hh w { s' with heap := h3 } fl3 (up.trans up3) os ag
  · cases f with
    | ret u => obtain ⟨v, σ', H', J', r, q⟩ := hsp; exact ⟨v, σ', H', J'.ofTry ok, r, q⟩
    | next => obtain ⟨σ', H', J', q⟩ := hsp; exact wpAny_execs_nil ⟨σ', H', J'.ofTry ok, q⟩
    | brk => obtain ⟨σ', H', J', q⟩ := hsp; exact ⟨σ', H', J'.ofTry ok, q⟩
    | cont => obtain ⟨σ', H', J', q⟩ := hsp; exact ⟨σ', H', J'.ofTry ok, q⟩
end

/-! ### isinstance of an error that is pinned, its dict tracked -/
namespace TX
open PySem.W PySem.Calls PyProof.Rows
section
variable {prog : Program} {w : World} {A : Around} {E : Value → Shared → Prop} {s : Shared} {K : Frag} {x D : Addr} {ox od : Obj}
theorem class_x {Q : Option Value → Shared → Prop} (C : ExcC K D) (X : K.In s.heap) (I : InstAt s.heap x ox D (some od)) (go : Q (some (.ref D)) { s with toks := s.toks + 1 }) : wpAny (model prog w) A (getAttr? (.ref x) "__class__") Q E s := by
  have hf : findObj K D (some od) "__class__" = some (.bind (.builtin "getset_descriptor.__get__") (.builtin "object.__class__")) := by
    obtain ⟨cd, hc, _⟩ := any_some C.hd
    unfold findObj
    rw [hc, Option.bind_some, C.ha, Option.bind_some]
    simp [C.hn, C.ht]
  obtain ⟨hp, g, d, t, os⟩ := s
  have L0 := I.type (M := model prog w); have L1 := looks_findIn (M := model prog w) X C.hg; have L2 := looks_findIn (M := model prog w) X C.hk; have L3 := looks_find (M := model prog w) X I hf
  have sub : Looks (model prog w) hp (isInstance (.ref x) (.type "BaseException")) true := L0.andThen (looks_subIn X C.hs)
  have n0 : (false && onTheHeap (Value.builtin "BaseException.__getattribute__")) = false := rfl
  have n2 : (Value.builtin "BaseException.__getattribute__" == Value.builtin "object.__getattribute__") = false := by decide +kernel
  have n1 : (onTheHeap (Value.ref D) && Value.builtin "BaseException.__getattribute__" == Value.builtin "object.__getattribute__") = false := by rw [n2]; rfl
  unfold getAttr? getAttrBy? getAttrBy
  refine wpAny_bind (wpAny_mkText (wpAny_bind (wpAny_attempt (wpAny_holding (wpAny_bind (L0.at (wpAny_bind (L1.at ?_)))))))); show wpAny _ _ (if (onTheHeap (Value.ref D) && Value.builtin "BaseException.__getattribute__" == Value.builtin "object.__getattribute__") = true then _ else _) _ _ _
  rw [n1, if_neg Bool.false_ne_true]; unfold getAttrByItsOwn hookBefore
  refine wpAny_bind ?_; rw [if_pos (show onTheHeap (Value.ref D) = true from rfl)]
  refine L2.at (wpAny_bind (wpAny_attempt (wpAny_holding ?_))); unfold callGetattribute
  rw [n0, if_neg Bool.false_ne_true]; unfold boundAndCalled; rw [PySem.F.excAttr_ValueError.ga.bind (.ref x)]
  refine wpAny_bind (wpAny_pure ?_); show wpAny _ _ (call (.builtin "BaseException.__getattribute__") [.ref x, .str "__class__" t]) _ _ _
  refine wpAny_call (codeAny_call_builtin PySem.F.excAttr_ValueError.ga.plain PySem.F.entry_bexc_ga (@check_slot (model prog w) _ _ ⟨hp, g, d, t + 1, os⟩ "BaseException.__getattribute__" "BaseException" "__getattribute__" (.ref x) [.str "__class__" t] [] _ (by decide +kernel) (by decide +kernel) sub (PySem.F.args_bexc_ga (.ref x) (.str "__class__" t)) ?_))
  unfold Builtin.«object.__getattribute__»
  refine wpAny_bind (wpAny_of_eq (a := ((Value.ref x : Value), [Value.str "__class__" t])) (by first | rfl | (simp only [slotArgs]; rfl)) (wpAny_bind (wpAny_pure (wpAny_bind (L0.at (wpAny_bind (L3.at ?_)))))))
  show wpAny _ _ (holding [Value.builtin "object.__class__"] (call (.builtin "getset_descriptor.__get__") [.builtin "object.__class__", .ref x, .ref D]) >>= ret) _ _ _
  refine wpAny_bind (wpAny_holding (wpAny_call (class_get (s := ⟨hp, g, d, t + 1, os⟩) X I C.hm (wpAny_pure ?_)))); show wpAny _ _ (handedOut (.ref D)) _ _ _
  rw [handedOut_of (v := .ref D) rfl]
  first
    | exact wpAny_pure (wpAny_pure go)
    | exact wpAny_pure go
    | exact wpAny_pure (wpAny_bind (wpAny_pure (wpAny_pure go)))
theorem kitx_x (C : ExcC K D) : KitX K (.ref x) (.ref D) (fun h => InstAt h x ox D (some od)) := by
  obtain ⟨cd, hc, _⟩ := any_some C.hd
  have hc2 := hc
  unfold clsIn at hc
  split at hc
  · rename_i c' d' cd' sl' ho
    refine ⟨fun _ _ _ I => I.type, fun _ _ X _ => ?_, fun h tp dd its n sl X htp => Bool.eq_false_iff.mpr fun q => ?_, fun X I k => class_x C X I k⟩
    · intro A' Q' E' s' k q
      unfold isType loadHead
      exact wpAny_bind (wpAny_loadPart (k _ _ (X _ _ ho)) (wpAny_pure q))
    · have e : D = tp := Value.ref.inj (beq_iff_eq.mp q)
      subst e
      have z := (X _ _ ho).symm.trans htp
      cases z
  · cases hc
end
end TX
/-- isinstance(e, c), e a pinned error of the class at D with its dict at dd -/
def rIsX (K : PySem.W.Frag) (D a dd : Addr) : List V → Hp → VK → Prop := fun xs H Q => ∃ (c : V) (cv : Value) (b : Bool) (fs : List (Str × V)), xs = [.ref a, c] ∧ (∀ u, RelV c u → u = cv) ∧ PySem.W.kitOne K (.ref D) cv = some b ∧ H dd = some (.xd fs) ∧ Q (.bl b) H
theorem call_isX {X : Cx} {a D dd : Addr} {oe : Obj} (C : ExcC X.K D) (hz : L2N.Zn (.ref D) (some dd) oe) (hf : ∃ vs, oe.data = .fields vs) (hp : (a, oe) ∈ X.pn) : CallR X (.builtin "isinstance") (rIsX X.K D a dd) := by
  intro pins s σ H xs us Q I r h
  obtain ⟨c, cv, b, fs, rfl, hcv, e, ed, q⟩ := h
  cases r with
  | cons rx rr =>
    cases rr with
    | cons rt rr =>
      cases rr
      cases rx
      have ec := hcv _ rt
      subst ec
      obtain ⟨hget, _⟩ := I.pin (a, oe) (List.mem_append.mpr (.inl hp))
      obtain ⟨vs, hv⟩ := hf
      have hx : ObjOk X.prog X.w H s.heap dd (.xd fs) := I.hok dd _ ed
      obtain ⟨mA, hns, _⟩ := hx
      obtain ⟨od, es, ep, ho, _⟩ := hns
      have J : PySem.W.InstAt s.heap a oe D (some od) := ⟨hget, hz.1, by unfold PySem.W.notCls; rw [hv] <;> rfl, by rw [hz.2.1]; exact ho⟩
      exact PySem.W.kia_one (TX.kitx_x C) I.kIn J e (fun z => nomatch z) fun tk => ⟨.bl b, H, I.kept (t' := tk) fun _ _ z => z, rfl, q⟩
/-! ### a def that is called within an except suite and handed the error -/
open L2H in
/-- its promise may speak of the error p that is handled -/
structure FnP (P : Program) (w : World) (K : PySem.W.Frag) (mg : Str → Option Value) (base : Heap) (k : Nat) (f : Addr) (fd : FuncData) (ps : List Str) (sp : Addr × Obj → Sp) : Prop where
  len : ∀ p vs H Q E, sp p vs H Q E → vs.length = ps.length
  run : ∀ (A : Around) (outer : List Env) (s : Shared) (H : Hp) (us : List Value) (vs : List V) (Q : VK) (E : XK) (p : Addr × Obj), RoomH k A → Hot1 A p → PinOk outer H s p → Env0 P w K mg base A outer s H → BindsTo s fd ⟨us, []⟩ (ps.zip us) → Vals vs us → sp p vs H Q E →
    codeAny (model P w) A (.call (.ref f) ⟨us, []⟩) (CR CX0 outer P w H s Q E) s
open L2H PyProof.Rows in
theorem Fun.okP {P : Program} {w : World} {K : PySem.W.Frag} {mg : Str → Option Value} {base : Heap} {x qual : Str} {st : Stmt} {f : Addr} {fd : FuncData} {N ps : List Str} {k : Nat} {sp : Addr × Obj → Sp} (F : Fun K x qual st f fd) (S : FnScope N ps (defScope st)) (len : ∀ p vs H Q E, sp p vs H Q E → vs.length = ps.length)
    (hbody : ∀ (cdv : Value) (A : Around) (outer : List Env) (s : Shared) (H : Hp) (vs : List V) (Q : VK) (E : XK) (p : Addr × Obj), Hot1 A p → RoomH k (A.deeper (envOfC qual (defScope st) s.heap.objs.size f cdv)) → sp p vs H Q E →
      ∃ t, PSs (cxH CX0 P w K mg base N qual (defScope st) f cdv A outer s H E p).nox (defBody st) t ∧ t { nx := fun _ H' => Q .non H', rt := Q } (start N vs) H) : FnP P w K mg base (k + 1) f fd ps sp := by
  obtain ⟨oc, od, kV, doc, pm, an, cdv, ct, osl, rfl, lk, hcd⟩ := F.ex
  refine ⟨len, fun A outer s H us vs Q E p hr hot hpin e0 hb r hsp => ?_⟩
  have hl := len _ _ _ _ _ hsp
  have KX : K.In s.heap := e0.mod.kin.keeps fun b o e => (e0.bs b o e).1
  have lim : s.heap.NoLimit := e0.mod.nolimit.keeps fun b o e => (e0.bs b o e).1
  refine codeAny_call_function hr.depth (KX _ _ lk) rfl S.co S.gen rfl (PySem.W.codeRec_of KX hcd) (hb _ _ _ _ (wpAny_newFunctionEnv_cells S.kind (fun ⟨n, v⟩ hy => ?_) fun env he s1 x => ?_))
  · rcases S.par n (List.of_mem_zip hy).1 with q | q
    · exact .inl q
    · exact .inr ⟨q, PySem.W.cellsFrom_some _ _ _ (.inl q)⟩
  · subst he
    obtain ⟨t, ht, hq⟩ := hbody cdv A outer s H vs Q E p hot (hr.deeper _) hsp
    have I : Inv (cxH CX0 P w K mg base N qual (defScope st) f cdv A outer s H E p) [] (start N vs) H s1 := inv_startH S hpin e0 hl r x
    refine ⟨lim.keeps x.toInCall.keep, codeAny_func (wpAny_mono (ht.nox.run [] s1 (start N vs) H _ I hq) (fun fl s' hs => ?_) fun e s' hs => hs)⟩
    cases fl with
    | ret u => obtain ⟨v, σ', H', J, rv, q⟩ := hs; exact ⟨v, H', J.os, J.bare, J.base, J.hok, rv, q⟩
    | next => obtain ⟨σ', H', J, q⟩ := hs; exact ⟨.non, H', J.os, J.bare, J.base, J.hok, rfl, q⟩
    | brk => obtain ⟨_, _, _, q⟩ := hs; exact q.elim
    | cont => obtain ⟨_, _, _, q⟩ := hs; exact q.elim
/-- f(e, ..), p the error that is handled here -/
def tCallP (sp : Sp) (t : TA) : TE := fun σ H Q => t σ H fun vs H1 => sp vs H1 Q (fun _ _ _ => False)
open L2H PyProof.Rows in
theorem pe_callP {X : Cx} {k : Nat} {f : Addr} {fd : FuncData} {ps : List Str} {sp : Addr × Obj → Sp} {x : Str} {q pos : Pos} {e : Expr} {es : List Expr} {t : TA} {p : Addr × Obj} (F : FnP X.prog X.w X.K X.mg X.base k f fd ps sp) (hr : RoomH k X.A) (hot : Hot1 X.A p) (hp : p ∈ X.pn) (hg : Gl X x) (hm : X.mg x = some (.ref f))
    (hk : PySem.W.keepIn X.K (.ref f) = true) (hb : Binds X.K fd ps []) (ha : PA X (e :: es) t) (hdb : (x == ("__debug__" : Str)) = false := by decide) (he : starEach (e :: es) X.env = (false, eval e X.env) :: starEach es X.env := by rfl) (hpl : (backTo pos (starEach es X.env)).any (·.1) = false := by rfl) :
    PE X (.Call (.Name x q) (e :: es) [] pos) (tCallP (sp p) t) := by
  refine ⟨fun pins s σ H Q I h => wpAny_Call_Name_kw (ld_glob I hg hm (PySem.W.callWith_K (h₀ := X.base) I.ok.mod.kin hk (thn (ha.run pos pins s σ H _ I h) fun us s1 ⟨vs, H1, I1, r, q⟩ => ⟨I1.kIn, ?_⟩) he hpl) hdb)⟩
  have hl : us.length = ps.length := by rw [← r.length]; exact F.len _ _ _ _ _ q
  have b := hb s1 us I1.kIn (by rw [List.append_nil]; exact hl)
  rw [List.append_nil] at b
  have P1 := I1.pin p (List.mem_append_left _ hp)
  show wpAny _ _ (call (.ref f) us) _ _ _
  refine wpAny_call (codeAny_mono (F.run X.A X.stack s1 H1 us vs Q (fun _ _ _ => False) p hr hot ⟨P1.1, P1.2.1, fun hm => (List.mem_cons.mp (I1.stkSub p.1 hm)).elim P1.2.2.1 P1.2.2.2.1, P1.2.2.2.2⟩ I1.env0 b r q) fun r s' hq => ?_)
  cases r with
  | error e => exact hq.elim
  | ok fl =>
    cases fl with
    | ret u => exact I1.after hq
    | next => exact hq.elim
    | brk => exact hq.elim
    | cont => exact hq.elim
/-- the error that a suite holds is handled there -/
theorem hot_suite {X : Cx} {a : Addr} {oe : Obj} {cls : Value} {d : Option Addr} {pn : List (Addr × Obj)} (hz : L2N.Zn cls d oe) (hf : ∃ vs, oe.data = .fields vs) : L2H.Hot1 (X.suite a ((a, oe) :: pn)).A (a, oe) := by
  obtain ⟨vs, hv⟩ := hf
  exact ⟨rfl, vs, hv, hz.2.2 vs hv⟩
/-! ### [elt for name in range(..)] within an except suite -/
/-- a comprehension's block, the handled error pinned -/
abbrev blkP (X : Cx) (p : Addr × Obj) (s : Shared) (H : Hp) (scope : Scope) (ce : Env) (fp : List Addr) : Cx := { X.blk s H scope ce fp with pn := [p] }
section
open L2H PyProof.Rows
variable {X : Cx} {p : Addr × Obj}
theorem blk_pin {pins : List (Addr × Obj)} {σ : L2.St} {H H0 : Hp} {s s0 : Shared} {scope : Scope} {ce : Env} {fp : List Addr} (I : Inv (X.blk s0 H0 scope ce fp) pins σ H s) (h : s.heap.get? p.1 = some p.2 ∧ H p.1 = none ∧ p.1 ≠ ce.locals ∧ p.1 ∉ frs X.stack ∧ ∀ v, p.2.data ≠ .cell v) : Inv (blkP X p s0 H0 scope ce fp) pins σ H s :=
  ⟨⟨I.ok.mod, I.ok.kind, I.ok.glob, I.ok.blt, I.ok.above, I.ok.inj, I.ok.has, I.ok.cab, I.ok.hd, I.ok.frames, I.ok.stk, I.ok.exf, I.ok.bs, I.ok.bsz, I.ok.noex, I.ok.exfs, I.ok.funs, I.ok.frf⟩, I.os, I.bare, I.base, I.loc, I.cell, I.free, I.freeC, fun q hq => by
    rcases List.mem_append.mp hq with hq | hq
    · rw [List.mem_singleton.mp hq]; exact h
    · exact I.pin q (List.mem_append_right _ hq), I.hok, I.len⟩
theorem pe_lcP {elt tg iter : Expr} {scope : Scope} {own : List (Str × Nat)} {pos : Pos} {wi : TI} {g : TG} {te : TE} (hot : Hot1 X.A p) (hp : p ∈ X.pn) (hN : X.N.Nodup) (hi : PIH X tg iter wi) (ok : BlkOk X.N X.env.scope scope own)
    (hg : ∀ (s : Shared) (H : Hp) (C : Addr) (cl : List (Str × Addr)) (fp : List Addr), PG (blkP X p s H scope (compEnvC scope cl C X.env) fp) tg g)
    (he : ∀ (s : Shared) (H : Hp) (C : Addr) (cl : List (Str × Addr)) (fp : List Addr), PE (blkP X p s H scope (compEnvC scope cl C X.env) fp) elt te) (hs : ∀ x, foldedSetIterable iter X.env x = pure x := by intro _; rfl) :
    PE X (.ListComp elt [⟨tg, iter, [], 0⟩] scope pos) (tLc wi g tYes te (own.map (·.2))) := by
  refine ⟨fun pins s σ H Q I h => ?_⟩
  rw [eval_ListComp]
  refine wpAny_comprehension_free (use := none) rfl hs (closure_ok fun y hy e => ?_) ok.kind (fun y hy e => by rw [ok.uniq y hy, e]) (thn (hi.run pins s σ H _ I h) fun xv s1 hx => thn hx fun itv s2 h2 => ?_)
  · rcases ok.free y hy e with k | k
    · exact I.ok.has _ (.inl k)
    · exact I.ok.has _ (.inr k)
  obtain ⟨it, fp, tn, J, H2, e, I2, T, st2, f2, q⟩ := h2
  subst e
  refine wpAny_newObj_type (newEnv_comp ?_) (by show 0 ≤ sizeLine; decide)
  generalize hD : s2.heap.objs.size = D
  obtain ⟨W, ⟨m0, w0⟩, turn⟩ := q D (I2.hok.fresh (Nat.le_of_eq hD))
  generalize hs3 : ({ s2 with heap := s2.heap.push { cls := .type "list", data := .seq ([] : List Value).toArray } } : Shared) = s3
  have h3 : s3.heap = s2.heap.push { cls := .type "list", data := .seq ([] : List Value).toArray } := by rw [← hs3]
  have I3 : Inv X pins σ (upd H2 D (.lst [])) s3 := by
    rw [← hs3]
    exact I2.laid (t' := s2.toks) (fun b o e => Heap.get?_push_of_some _ e) (Nat.le_of_eq hD) ⟨Nat.zero_le _, [], 0, .nil, by rw [← hD]; exact Heap.get?_push_size _ rfl⟩
  have f3 : ∀ b ∈ fp, FpOk X pins (upd H2 D (.lst [])) b ∧ b < s3.heap.objs.size := fun b hb => by
    obtain ⟨o, e, _⟩ := T.obj _ _ st2 b hb
    have lt := Heap.lt_size e
    exact ⟨⟨by rw [upd_ne (by rw [← hD]; exact Nat.ne_of_lt lt)]; exact (f2 b hb).1, (f2 b hb).2⟩, by rw [h3, Heap.size_push]; exact Nat.lt_succ_of_lt lt⟩
  have P3 := I3.pin p (List.mem_append_left _ hp)
  have I4 := block_start I3 ok hN f3
  have pg := hg s3 (upd H2 D (.lst [])) s3.heap.objs.size (cellsFrom (s3.heap.objs.size + 1) scope.names (cloFrom X.env.cells scope.names [])) fp
  have pe := he s3 (upd H2 D (.lst [])) s3.heap.objs.size (cellsFrom (s3.heap.objs.size + 1) scope.names (cloFrom X.env.cells scope.names [])) fp
  have nfp : ∀ b ∈ fp, (upd H2 D (.lst [])) b = none := fun b hb => (f3 b hb).1.1
  show codeAny _ _ (.compStart (.ListComp elt [⟨tg, iter, [], 0⟩] scope pos) 0 (.ref it) (.ref D) (compEnvC scope (cellsFrom (s3.heap.objs.size + 1) scope.names (cloFrom X.env.cells scope.names [])) s3.heap.objs.size X.env)) (compPost (model X.prog X.w) X.A X.xe none (EP X pins σ Q) (.ref D) s3.heap.objs.size) { s3 with heap := pushCells (s3.heap.push { cls := .type "dict", data := .dict #[] }) scope.names }
  generalize hce : compEnvC scope (cellsFrom (s3.heap.objs.size + 1) scope.names (cloFrom X.env.cells scope.names [])) s3.heap.objs.size X.env = ce at I4 pg pe ⊢
  have cL : ce.locals = s3.heap.objs.size := by subst hce; rfl
  generalize hH3 : upd H2 D (.lst []) = H3 at I3 I4 pg pe w0 nfp f3 P3
  generalize hs4 : ({ s3 with heap := pushCells (s3.heap.push { cls := .type "dict", data := .dict #[] }) scope.names } : Shared) = s4 at I4 ⊢
  have kp4 : ∀ b o, s3.heap.get? b = some o → s4.heap.get? b = some o := fun b o e => by rw [← hs4]; exact pushCells_keeps _ _ _ _ (Heap.get?_push_of_some _ e)
  have st4 : tn 0 s4.heap := T.keep _ _ _ st2 fun b _ o e => kp4 b o (by rw [h3]; exact Heap.get?_push_of_some _ e)
  have I5 : Inv (blkP X p s3 H3 scope ce fp) [] (wipe σ (own.map (·.2))) H3 s4 := blk_pin I4 ⟨kp4 _ _ P3.1, P3.2.1, by rw [cL]; exact Nat.ne_of_lt (Heap.lt_size P3.1), fun hm => (List.mem_cons.mp (I3.stkSub p.1 hm)).elim P3.2.2.1 P3.2.2.2.1, P3.2.2.2.2⟩
  have hotB : HotC (blkP X p s3 H3 scope ce fp) := ⟨p, hot, List.mem_singleton.mpr rfl⟩
  have stat : ∀ {σ' : L2.St} {H' : Hp} {s' : Shared}, Inv (blkP X p s3 H3 scope ce fp) [] σ' H' s' → (∀ b ∈ fp, H' b = none) → ∀ b ∈ fp, FpOk (blkP X p s3 H3 scope ce fp) [] H' b := fun {σ' H' s'} I' hn b hb =>
    ⟨hn b hb, (I'.ok.exf b hb).1, I'.ok.exfs b hb, .inl hb, fun x c e => (I'.ok.exf b hb).2 x c e, fun r hr => by
      have er : r = p := by simpa using (show r ∈ [p] ++ ([] : List (Addr × Obj)) from hr)
      rw [er]
      exact (f3 b hb).1.2.2.2.2.2 p (List.mem_append_left _ hp)⟩
  have loop : codeAny (model X.prog X.w) X.A (.compLoop (.ListComp elt [⟨tg, iter, [], 0⟩] scope pos) 0 (.ref it) (.ref D) ce) (compPost (model X.prog X.w) X.A X.xe none (EP X pins σ Q) (.ref D) s3.heap.objs.size) s4 := by
    refine compLoop_any (fun n s' => ∃ i H', Inv (blkP X p s3 H3 scope ce fp) [] (wipe σ (own.map (·.2))) H' s' ∧ tn i s'.heap ∧ (∀ b ∈ fp, H' b = none) ∧ W i n H') ?_ m0 ⟨0, H3, I5, st4, nfp, w0⟩
    rintro n s5 ⟨i, H5, I5, st5, n5, w5⟩
    rcases turn i n H5 w5 with ⟨stop, qq⟩ | ⟨go, Nx, hNx, step⟩
    · refine thnF (T.done (blkP X p s3 H3 scope ce fp) rfl rfl rfl hotB i [] s5 _ H5 (fun _ _ => False) I5 (stat I5 n5) st5 stop) fun r s6 ⟨hr, I6⟩ => ?_
      subst hr
      have I7 : Inv X pins σ H5 s6 := I3.call' (ch := fp) I6.os I6.base I6.hok I6.bare fun b hb => ⟨(f3 b hb).1.2.2.2.1, (f3 b hb).1.2.1, (f3 b hb).1.2.2.2.2.1, (f3 b hb).1.2.2.2.2.2⟩
      have nC : H5 s3.heap.objs.size = none := cL ▸ (show H5 ce.locals = none from I6.free)
      obtain ⟨m, hn, _⟩ := I6.loc
      have hn : s6.heap.Ns s3.heap.objs.size m := cL ▸ (show s6.heap.Ns ce.locals m from hn)
      obtain ⟨f0, f1, f2', f3', f4, f5⟩ := I3.fpOk (Nat.le_refl _) nC
      exact ⟨m, hn, fun h'' sb => ⟨.ref D, H5, I7.turned (t' := s6.toks) (fun b o hb e => (sb.2 b hb).trans e) f0 f1 f3' f4 f5, rfl, qq⟩⟩
    · refine thnF (T.item (blkP X p s3 H3 scope ce fp) rfl rfl rfl hotB i [] s5 _ H5 (fun _ _ => False) I5 (stat I5 n5) st5 go) fun r s6 ⟨u, hr, h6⟩ => ?_
      subst hr
      refine thnF h6 fun _ s7 ⟨x, H7, I7, r7, y7, st7, n7⟩ => thnF (pg.run _ s7 _ H7 x u _ (I7.pinned (stat I7 n7) (T.obj _ _ st7)) r7 (step x H7 y7)) fun _ s8 ⟨σ8, H8, I8, hw8, q8⟩ => thnF ((pts_nil (X := blkP X p s3 H3 scope ce fp)).run _ s8 σ8 H8 _ I8 q8) fun b s9 ⟨H9, I9, q9⟩ => ?_
      have fin : ∀ {s' : Shared} {H' : Hp}, Inv (blkP X p s3 H3 scope ce fp) ([] ++ pinsAt fp s7.heap) σ8 H' s' → Nx H' → ∃ m, m < n ∧ ∃ i H', Inv (blkP X p s3 H3 scope ce fp) [] (wipe σ (own.map (·.2))) H' s' ∧ tn i s'.heap ∧ (∀ b ∈ fp, H' b = none) ∧ W i m H' := fun {s' H'} I' nx => by
        obtain ⟨m', hm, w'⟩ := hNx H' nx
        have pin' : ∀ b ∈ fp, ∀ o, s7.heap.get? b = some o → s'.heap.get? b = some o ∧ H' b = none := fun b hb o e => ⟨(I'.pin (b, o) (List.mem_append_right _ (List.mem_append_right _ (mem_pinsAt hb e)))).1, (I'.pin (b, o) (List.mem_append_right _ (List.mem_append_right _ (mem_pinsAt hb e)))).2.1⟩
        refine ⟨m', hm, i + 1, H', (I'.unpinned (pins := [])).weak (by rw [← hw8, wipe_length]) (fun j v e => (wipe_some (by rw [← hw8] at e; exact e)).1), T.keep _ _ _ st7 fun b hb o e => (pin' b hb o e).1, fun b hb => ?_, w'⟩
        obtain ⟨o, e, _⟩ := T.obj _ _ st7 b hb
        exact (pin' b hb o e).2
      cases b with
      | false =>
        simp only [Bool.false_eq_true, if_false] at q9 ⊢
        exact fin I9 q9
      | true =>
        simp only [if_true] at q9 ⊢
        exact thnF (pe.run _ s9 σ8 H9 _ I9 q9) fun z s10 ⟨yv, H10, I10, r10, acc, hD10, hz10, nx⟩ => app_ok (X := blkP X p s3 H3 scope ce fp) I10 hD10 hz10 r10 fun s11 I11 => fin I11 nx
  exact codeAny_compStart_list loop (T.self X.A 0 _ _ _ st4 loop)
end

/-! ### the errors -/
abbrev sXI0 : Stmt := inClass (topS 2) 0
abbrev NXI0 : List Str := ["self", "value"]
abbrev PXI0 : List Str := ["self", "value"]
theorem scXI0 : FnScope NXI0 PXI0 (defScope sXI0) := ⟨rfl, rfl, rfl, by decide +kernel, rfl, by decide +kernel, by decide +kernel⟩
theorem ok_XI0 {P : Program} {w : World} {K : PySem.W.Frag} {mg : Str → Option Value} {base : Heap} {f C : Addr} {fd : FuncData} (F : Fun K "__init__" "InvalidText.__init__" sXI0 f fd) (T : OexG K C) (hn : PySem.W.findIn K (.ref C) "value" = some none) : FnOk P w K mg base CX0 1 f fd PXI0 (spX C "value") := by
  refine F.ok scXI0 (fun vs H Q E h => ?_) fun cdv A outer s H vs Q E hr h => ⟨_, pss_one (ps_ostG (pv 0) (pv 1)), ?_⟩
  · obtain ⟨a, v, rfl, _⟩ := h; rfl
  · obtain ⟨a, v, rfl, ea, q⟩ := h; exact ⟨_, rfl, _, rfl, a, C, rfl, T, hn, ea, q⟩
abbrev sXI1 : Stmt := inClass (topS 3) 0
abbrev NXI1 : List Str := ["self", "position"]
abbrev PXI1 : List Str := ["self", "position"]
theorem scXI1 : FnScope NXI1 PXI1 (defScope sXI1) := ⟨rfl, rfl, rfl, by decide +kernel, rfl, by decide +kernel, by decide +kernel⟩
theorem ok_XI1 {P : Program} {w : World} {K : PySem.W.Frag} {mg : Str → Option Value} {base : Heap} {f C : Addr} {fd : FuncData} (F : Fun K "__init__" "InvalidSyntax.__init__" sXI1 f fd) (T : OexG K C) (hn : PySem.W.findIn K (.ref C) "position" = some none) : FnOk P w K mg base CX0 1 f fd PXI1 (spX C "position") := by
  refine F.ok scXI1 (fun vs H Q E h => ?_) fun cdv A outer s H vs Q E hr h => ⟨_, pss_one (ps_ostG (pv 0) (pv 1)), ?_⟩
  · obtain ⟨a, v, rfl, _⟩ := h; rfl
  · obtain ⟨a, v, rfl, ea, q⟩ := h; exact ⟨_, rfl, _, rfl, a, C, rfl, T, hn, ea, q⟩
abbrev sXI2 : Stmt := inClass (topS 4) 0
abbrev NXI2 : List Str := ["self", "value"]
abbrev PXI2 : List Str := ["self", "value"]
theorem scXI2 : FnScope NXI2 PXI2 (defScope sXI2) := ⟨rfl, rfl, rfl, by decide +kernel, rfl, by decide +kernel, by decide +kernel⟩
theorem ok_XI2 {P : Program} {w : World} {K : PySem.W.Frag} {mg : Str → Option Value} {base : Heap} {f C : Addr} {fd : FuncData} (F : Fun K "__init__" "InvalidTree.__init__" sXI2 f fd) (T : OexG K C) (hn : PySem.W.findIn K (.ref C) "value" = some none) : FnOk P w K mg base CX0 1 f fd PXI2 (spX C "value") := by
  refine F.ok scXI2 (fun vs H Q E h => ?_) fun cdv A outer s H vs Q E hr h => ⟨_, pss_one (ps_ostG (pv 0) (pv 1)), ?_⟩
  · obtain ⟨a, v, rfl, _⟩ := h; rfl
  · obtain ⟨a, v, rfl, ea, q⟩ := h; exact ⟨_, rfl, _, rfl, a, C, rfl, T, hn, ea, q⟩
abbrev sXI3 : Stmt := inClass (topS 5) 0
abbrev NXI3 : List Str := ["self", "name"]
abbrev PXI3 : List Str := ["self", "name"]
theorem scXI3 : FnScope NXI3 PXI3 (defScope sXI3) := ⟨rfl, rfl, rfl, by decide +kernel, rfl, by decide +kernel, by decide +kernel⟩
theorem ok_XI3 {P : Program} {w : World} {K : PySem.W.Frag} {mg : Str → Option Value} {base : Heap} {f C : Addr} {fd : FuncData} (F : Fun K "__init__" "DuplicateName.__init__" sXI3 f fd) (T : OexG K C) (hn : PySem.W.findIn K (.ref C) "name" = some none) : FnOk P w K mg base CX0 1 f fd PXI3 (spX C "name") := by
  refine F.ok scXI3 (fun vs H Q E h => ?_) fun cdv A outer s H vs Q E hr h => ⟨_, pss_one (ps_ostG (pv 0) (pv 1)), ?_⟩
  · obtain ⟨a, v, rfl, _⟩ := h; rfl
  · obtain ⟨a, v, rfl, ea, q⟩ := h; exact ⟨_, rfl, _, rfl, a, C, rfl, T, hn, ea, q⟩
abbrev sXI4 : Stmt := inClass (topS 6) 0
abbrev NXI4 : List Str := ["self", "name"]
abbrev PXI4 : List Str := ["self", "name"]
theorem scXI4 : FnScope NXI4 PXI4 (defScope sXI4) := ⟨rfl, rfl, rfl, by decide +kernel, rfl, by decide +kernel, by decide +kernel⟩
theorem ok_XI4 {P : Program} {w : World} {K : PySem.W.Frag} {mg : Str → Option Value} {base : Heap} {f C : Addr} {fd : FuncData} (F : Fun K "__init__" "UnknownName.__init__" sXI4 f fd) (T : OexG K C) (hn : PySem.W.findIn K (.ref C) "name" = some none) : FnOk P w K mg base CX0 1 f fd PXI4 (spX C "name") := by
  refine F.ok scXI4 (fun vs H Q E h => ?_) fun cdv A outer s H vs Q E hr h => ⟨_, pss_one (ps_ostG (pv 0) (pv 1)), ?_⟩
  · obtain ⟨a, v, rfl, _⟩ := h; rfl
  · obtain ⟨a, v, rfl, ea, q⟩ := h; exact ⟨_, rfl, _, rfl, a, C, rfl, T, hn, ea, q⟩
abbrev sXI5 : Stmt := inClass (topS 7) 0
abbrev NXI5 : List Str := ["self", "place"]
abbrev PXI5 : List Str := ["self", "place"]
theorem scXI5 : FnScope NXI5 PXI5 (defScope sXI5) := ⟨rfl, rfl, rfl, by decide +kernel, rfl, by decide +kernel, by decide +kernel⟩
theorem ok_XI5 {P : Program} {w : World} {K : PySem.W.Frag} {mg : Str → Option Value} {base : Heap} {f C : Addr} {fd : FuncData} (F : Fun K "__init__" "WrongArguments.__init__" sXI5 f fd) (T : OexG K C) (hn : PySem.W.findIn K (.ref C) "place" = some none) : FnOk P w K mg base CX0 1 f fd PXI5 (spX C "place") := by
  refine F.ok scXI5 (fun vs H Q E h => ?_) fun cdv A outer s H vs Q E hr h => ⟨_, pss_one (ps_ostG (pv 0) (pv 1)), ?_⟩
  · obtain ⟨a, v, rfl, _⟩ := h; rfl
  · obtain ⟨a, v, rfl, ea, q⟩ := h; exact ⟨_, rfl, _, rfl, a, C, rfl, T, hn, ea, q⟩
abbrev sXI6 : Stmt := inClass (topS 8) 0
abbrev NXI6 : List Str := ["self", "place"]
abbrev PXI6 : List Str := ["self", "place"]
theorem scXI6 : FnScope NXI6 PXI6 (defScope sXI6) := ⟨rfl, rfl, rfl, by decide +kernel, rfl, by decide +kernel, by decide +kernel⟩
theorem ok_XI6 {P : Program} {w : World} {K : PySem.W.Frag} {mg : Str → Option Value} {base : Heap} {f C : Addr} {fd : FuncData} (F : Fun K "__init__" "InvalidFinally.__init__" sXI6 f fd) (T : OexG K C) (hn : PySem.W.findIn K (.ref C) "place" = some none) : FnOk P w K mg base CX0 1 f fd PXI6 (spX C "place") := by
  refine F.ok scXI6 (fun vs H Q E h => ?_) fun cdv A outer s H vs Q E hr h => ⟨_, pss_one (ps_ostG (pv 0) (pv 1)), ?_⟩
  · obtain ⟨a, v, rfl, _⟩ := h; rfl
  · obtain ⟨a, v, rfl, ea, q⟩ := h; exact ⟨_, rfl, _, rfl, a, C, rfl, T, hn, ea, q⟩
abbrev sXI7 : Stmt := inClass (topS 9) 0
abbrev NXI7 : List Str := ["self", "word"]
abbrev PXI7 : List Str := ["self", "word"]
theorem scXI7 : FnScope NXI7 PXI7 (defScope sXI7) := ⟨rfl, rfl, rfl, by decide +kernel, rfl, by decide +kernel, by decide +kernel⟩
theorem ok_XI7 {P : Program} {w : World} {K : PySem.W.Frag} {mg : Str → Option Value} {base : Heap} {f C : Addr} {fd : FuncData} (F : Fun K "__init__" "TooLarge.__init__" sXI7 f fd) (T : OexG K C) (hn : PySem.W.findIn K (.ref C) "word" = some none) : FnOk P w K mg base CX0 1 f fd PXI7 (spX C "word") := by
  refine F.ok scXI7 (fun vs H Q E h => ?_) fun cdv A outer s H vs Q E hr h => ⟨_, pss_one (ps_ostG (pv 0) (pv 1)), ?_⟩
  · obtain ⟨a, v, rfl, _⟩ := h; rfl
  · obtain ⟨a, v, rfl, ea, q⟩ := h; exact ⟨_, rfl, _, rfl, a, C, rfl, T, hn, ea, q⟩
abbrev sXI8 : Stmt := inClass (topS 10) 0
abbrev NXI8 : List Str := ["self", "value"]
abbrev PXI8 : List Str := ["self", "value"]
theorem scXI8 : FnScope NXI8 PXI8 (defScope sXI8) := ⟨rfl, rfl, rfl, by decide +kernel, rfl, by decide +kernel, by decide +kernel⟩
theorem ok_XI8 {P : Program} {w : World} {K : PySem.W.Frag} {mg : Str → Option Value} {base : Heap} {f C : Addr} {fd : FuncData} (F : Fun K "__init__" "InvalidRow.__init__" sXI8 f fd) (T : OexG K C) (hn : PySem.W.findIn K (.ref C) "value" = some none) : FnOk P w K mg base CX0 1 f fd PXI8 (spX C "value") := by
  refine F.ok scXI8 (fun vs H Q E h => ?_) fun cdv A outer s H vs Q E hr h => ⟨_, pss_one (ps_ostG (pv 0) (pv 1)), ?_⟩
  · obtain ⟨a, v, rfl, _⟩ := h; rfl
  · obtain ⟨a, v, rfl, ea, q⟩ := h; exact ⟨_, rfl, _, rfl, a, C, rfl, T, hn, ea, q⟩
abbrev sXI9 : Stmt := inClass (topS 11) 0
abbrev NXI9 : List Str := ["self", "value"]
abbrev PXI9 : List Str := ["self", "value"]
theorem scXI9 : FnScope NXI9 PXI9 (defScope sXI9) := ⟨rfl, rfl, rfl, by decide +kernel, rfl, by decide +kernel, by decide +kernel⟩
theorem ok_XI9 {P : Program} {w : World} {K : PySem.W.Frag} {mg : Str → Option Value} {base : Heap} {f C : Addr} {fd : FuncData} (F : Fun K "__init__" "InvalidCase.__init__" sXI9 f fd) (T : OexG K C) (hn : PySem.W.findIn K (.ref C) "value" = some none) : FnOk P w K mg base CX0 1 f fd PXI9 (spX C "value") := by
  refine F.ok scXI9 (fun vs H Q E h => ?_) fun cdv A outer s H vs Q E hr h => ⟨_, pss_one (ps_ostG (pv 0) (pv 1)), ?_⟩
  · obtain ⟨a, v, rfl, _⟩ := h; rfl
  · obtain ⟨a, v, rfl, ea, q⟩ := h; exact ⟨_, rfl, _, rfl, a, C, rfl, T, hn, ea, q⟩
abbrev sXI10 : Stmt := inClass (topS 12) 0
abbrev NXI10 : List Str := ["self", "value"]
abbrev PXI10 : List Str := ["self", "value"]
theorem scXI10 : FnScope NXI10 PXI10 (defScope sXI10) := ⟨rfl, rfl, rfl, by decide +kernel, rfl, by decide +kernel, by decide +kernel⟩
theorem ok_XI10 {P : Program} {w : World} {K : PySem.W.Frag} {mg : Str → Option Value} {base : Heap} {f C : Addr} {fd : FuncData} (F : Fun K "__init__" "InvalidEntry.__init__" sXI10 f fd) (T : OexG K C) (hn : PySem.W.findIn K (.ref C) "value" = some none) : FnOk P w K mg base CX0 1 f fd PXI10 (spX C "value") := by
  refine F.ok scXI10 (fun vs H Q E h => ?_) fun cdv A outer s H vs Q E hr h => ⟨_, pss_one (ps_ostG (pv 0) (pv 1)), ?_⟩
  · obtain ⟨a, v, rfl, _⟩ := h; rfl
  · obtain ⟨a, v, rfl, ea, q⟩ := h; exact ⟨_, rfl, _, rfl, a, C, rfl, T, hn, ea, q⟩
abbrev sXI11 : Stmt := inClass (topS 13) 0
abbrev NXI11 : List Str := ["self", "value"]
abbrev PXI11 : List Str := ["self", "value"]
theorem scXI11 : FnScope NXI11 PXI11 (defScope sXI11) := ⟨rfl, rfl, rfl, by decide +kernel, rfl, by decide +kernel, by decide +kernel⟩
theorem ok_XI11 {P : Program} {w : World} {K : PySem.W.Frag} {mg : Str → Option Value} {base : Heap} {f C : Addr} {fd : FuncData} (F : Fun K "__init__" "InvalidChoices.__init__" sXI11 f fd) (T : OexG K C) (hn : PySem.W.findIn K (.ref C) "value" = some none) : FnOk P w K mg base CX0 1 f fd PXI11 (spX C "value") := by
  refine F.ok scXI11 (fun vs H Q E h => ?_) fun cdv A outer s H vs Q E hr h => ⟨_, pss_one (ps_ostG (pv 0) (pv 1)), ?_⟩
  · obtain ⟨a, v, rfl, _⟩ := h; rfl
  · obtain ⟨a, v, rfl, ea, q⟩ := h; exact ⟨_, rfl, _, rfl, a, C, rfl, T, hn, ea, q⟩
abbrev sXI12 : Stmt := inClass (topS 14) 0
abbrev NXI12 : List Str := ["self", "value"]
abbrev PXI12 : List Str := ["self", "value"]
theorem scXI12 : FnScope NXI12 PXI12 (defScope sXI12) := ⟨rfl, rfl, rfl, by decide +kernel, rfl, by decide +kernel, by decide +kernel⟩
theorem ok_XI12 {P : Program} {w : World} {K : PySem.W.Frag} {mg : Str → Option Value} {base : Heap} {f C : Addr} {fd : FuncData} (F : Fun K "__init__" "InvalidInjection.__init__" sXI12 f fd) (T : OexG K C) (hn : PySem.W.findIn K (.ref C) "value" = some none) : FnOk P w K mg base CX0 1 f fd PXI12 (spX C "value") := by
  refine F.ok scXI12 (fun vs H Q E h => ?_) fun cdv A outer s H vs Q E hr h => ⟨_, pss_one (ps_ostG (pv 0) (pv 1)), ?_⟩
  · obtain ⟨a, v, rfl, _⟩ := h; rfl
  · obtain ⟨a, v, rfl, ea, q⟩ := h; exact ⟨_, rfl, _, rfl, a, C, rfl, T, hn, ea, q⟩
abbrev sXI13 : Stmt := inClass (topS 15) 0
abbrev NXI13 : List Str := ["self", "value"]
abbrev PXI13 : List Str := ["self", "value"]
theorem scXI13 : FnScope NXI13 PXI13 (defScope sXI13) := ⟨rfl, rfl, rfl, by decide +kernel, rfl, by decide +kernel, by decide +kernel⟩
theorem ok_XI13 {P : Program} {w : World} {K : PySem.W.Frag} {mg : Str → Option Value} {base : Heap} {f C : Addr} {fd : FuncData} (F : Fun K "__init__" "InvalidOrder.__init__" sXI13 f fd) (T : OexG K C) (hn : PySem.W.findIn K (.ref C) "value" = some none) : FnOk P w K mg base CX0 1 f fd PXI13 (spX C "value") := by
  refine F.ok scXI13 (fun vs H Q E h => ?_) fun cdv A outer s H vs Q E hr h => ⟨_, pss_one (ps_ostG (pv 0) (pv 1)), ?_⟩
  · obtain ⟨a, v, rfl, _⟩ := h; rfl
  · obtain ⟨a, v, rfl, ea, q⟩ := h; exact ⟨_, rfl, _, rfl, a, C, rfl, T, hn, ea, q⟩
abbrev sXI14 : Stmt := inClass (topS 16) 0
abbrev NXI14 : List Str := ["self", "value"]
abbrev PXI14 : List Str := ["self", "value"]
theorem scXI14 : FnScope NXI14 PXI14 (defScope sXI14) := ⟨rfl, rfl, rfl, by decide +kernel, rfl, by decide +kernel, by decide +kernel⟩
theorem ok_XI14 {P : Program} {w : World} {K : PySem.W.Frag} {mg : Str → Option Value} {base : Heap} {f C : Addr} {fd : FuncData} (F : Fun K "__init__" "InvalidEvent.__init__" sXI14 f fd) (T : OexG K C) (hn : PySem.W.findIn K (.ref C) "value" = some none) : FnOk P w K mg base CX0 1 f fd PXI14 (spX C "value") := by
  refine F.ok scXI14 (fun vs H Q E h => ?_) fun cdv A outer s H vs Q E hr h => ⟨_, pss_one (ps_ostG (pv 0) (pv 1)), ?_⟩
  · obtain ⟨a, v, rfl, _⟩ := h; rfl
  · obtain ⟨a, v, rfl, ea, q⟩ := h; exact ⟨_, rfl, _, rfl, a, C, rfl, T, hn, ea, q⟩
abbrev sXI15 : Stmt := inClass (topS 17) 0
abbrev NXI15 : List Str := ["self", "value"]
abbrev PXI15 : List Str := ["self", "value"]
theorem scXI15 : FnScope NXI15 PXI15 (defScope sXI15) := ⟨rfl, rfl, rfl, by decide +kernel, rfl, by decide +kernel, by decide +kernel⟩
theorem ok_XI15 {P : Program} {w : World} {K : PySem.W.Frag} {mg : Str → Option Value} {base : Heap} {f C : Addr} {fd : FuncData} (F : Fun K "__init__" "InvalidValues.__init__" sXI15 f fd) (T : OexG K C) (hn : PySem.W.findIn K (.ref C) "value" = some none) : FnOk P w K mg base CX0 1 f fd PXI15 (spX C "value") := by
  refine F.ok scXI15 (fun vs H Q E h => ?_) fun cdv A outer s H vs Q E hr h => ⟨_, pss_one (ps_ostG (pv 0) (pv 1)), ?_⟩
  · obtain ⟨a, v, rfl, _⟩ := h; rfl
  · obtain ⟨a, v, rfl, ea, q⟩ := h; exact ⟨_, rfl, _, rfl, a, C, rfl, T, hn, ea, q⟩
abbrev sXI16 : Stmt := inClass (topS 18) 0
abbrev NXI16 : List Str := ["self", "position"]
abbrev PXI16 : List Str := ["self", "position"]
theorem scXI16 : FnScope NXI16 PXI16 (defScope sXI16) := ⟨rfl, rfl, rfl, by decide +kernel, rfl, by decide +kernel, by decide +kernel⟩
theorem ok_XI16 {P : Program} {w : World} {K : PySem.W.Frag} {mg : Str → Option Value} {base : Heap} {f C : Addr} {fd : FuncData} (F : Fun K "__init__" "InvalidQuestion.__init__" sXI16 f fd) (T : OexG K C) (hn : PySem.W.findIn K (.ref C) "position" = some none) : FnOk P w K mg base CX0 1 f fd PXI16 (spX C "position") := by
  refine F.ok scXI16 (fun vs H Q E h => ?_) fun cdv A outer s H vs Q E hr h => ⟨_, pss_one (ps_ostG (pv 0) (pv 1)), ?_⟩
  · obtain ⟨a, v, rfl, _⟩ := h; rfl
  · obtain ⟨a, v, rfl, ea, q⟩ := h; exact ⟨_, rfl, _, rfl, a, C, rfl, T, hn, ea, q⟩
abbrev sXI17 : Stmt := inClass (topS 19) 0
abbrev NXI17 : List Str := ["self", "word"]
abbrev PXI17 : List Str := ["self", "word"]
theorem scXI17 : FnScope NXI17 PXI17 (defScope sXI17) := ⟨rfl, rfl, rfl, by decide +kernel, rfl, by decide +kernel, by decide +kernel⟩
theorem ok_XI17 {P : Program} {w : World} {K : PySem.W.Frag} {mg : Str → Option Value} {base : Heap} {f C : Addr} {fd : FuncData} (F : Fun K "__init__" "InvalidCommand.__init__" sXI17 f fd) (T : OexG K C) (hn : PySem.W.findIn K (.ref C) "word" = some none) : FnOk P w K mg base CX0 1 f fd PXI17 (spX C "word") := by
  refine F.ok scXI17 (fun vs H Q E h => ?_) fun cdv A outer s H vs Q E hr h => ⟨_, pss_one (ps_ostG (pv 0) (pv 1)), ?_⟩
  · obtain ⟨a, v, rfl, _⟩ := h; rfl
  · obtain ⟨a, v, rfl, ea, q⟩ := h; exact ⟨_, rfl, _, rfl, a, C, rfl, T, hn, ea, q⟩
abbrev sXI18 : Stmt := inClass (topS 20) 0
abbrev NXI18 : List Str := ["self", "name"]
abbrev PXI18 : List Str := ["self", "name"]
theorem scXI18 : FnScope NXI18 PXI18 (defScope sXI18) := ⟨rfl, rfl, rfl, by decide +kernel, rfl, by decide +kernel, by decide +kernel⟩
theorem ok_XI18 {P : Program} {w : World} {K : PySem.W.Frag} {mg : Str → Option Value} {base : Heap} {f C : Addr} {fd : FuncData} (F : Fun K "__init__" "UnknownFunction.__init__" sXI18 f fd) (T : OexG K C) (hn : PySem.W.findIn K (.ref C) "name" = some none) : FnOk P w K mg base CX0 1 f fd PXI18 (spX C "name") := by
  refine F.ok scXI18 (fun vs H Q E h => ?_) fun cdv A outer s H vs Q E hr h => ⟨_, pss_one (ps_ostG (pv 0) (pv 1)), ?_⟩
  · obtain ⟨a, v, rfl, _⟩ := h; rfl
  · obtain ⟨a, v, rfl, ea, q⟩ := h; exact ⟨_, rfl, _, rfl, a, C, rfl, T, hn, ea, q⟩
abbrev sXI19 : Stmt := inClass (topS 21) 0
abbrev NXI19 : List Str := ["self", "word"]
abbrev PXI19 : List Str := ["self", "word"]
theorem scXI19 : FnScope NXI19 PXI19 (defScope sXI19) := ⟨rfl, rfl, rfl, by decide +kernel, rfl, by decide +kernel, by decide +kernel⟩
theorem ok_XI19 {P : Program} {w : World} {K : PySem.W.Frag} {mg : Str → Option Value} {base : Heap} {f C : Addr} {fd : FuncData} (F : Fun K "__init__" "LimitExceeded.__init__" sXI19 f fd) (T : OexG K C) (hn : PySem.W.findIn K (.ref C) "word" = some none) : FnOk P w K mg base CX0 1 f fd PXI19 (spX C "word") := by
  refine F.ok scXI19 (fun vs H Q E h => ?_) fun cdv A outer s H vs Q E hr h => ⟨_, pss_one (ps_ostG (pv 0) (pv 1)), ?_⟩
  · obtain ⟨a, v, rfl, _⟩ := h; rfl
  · obtain ⟨a, v, rfl, ea, q⟩ := h; exact ⟨_, rfl, _, rfl, a, C, rfl, T, hn, ea, q⟩
structure ErrH (P : Program) (w : World) (K : PySem.W.Frag) (mg : Str → Option Value) (base : Heap) (C : Nat → Addr) : Prop where
  h0 : HasX P w K mg base 1 "InvalidText" (C 0) "value"
  h1 : HasX P w K mg base 1 "InvalidSyntax" (C 1) "position"
  h2 : HasX P w K mg base 1 "InvalidTree" (C 2) "value"
  h3 : HasX P w K mg base 1 "DuplicateName" (C 3) "name"
  h4 : HasX P w K mg base 1 "UnknownName" (C 4) "name"
  h5 : HasX P w K mg base 1 "WrongArguments" (C 5) "place"
  h6 : HasX P w K mg base 1 "InvalidFinally" (C 6) "place"
  h7 : HasX P w K mg base 1 "TooLarge" (C 7) "word"
  h8 : HasX P w K mg base 1 "InvalidRow" (C 8) "value"
  h9 : HasX P w K mg base 1 "InvalidCase" (C 9) "value"
  h10 : HasX P w K mg base 1 "InvalidEntry" (C 10) "value"
  h11 : HasX P w K mg base 1 "InvalidChoices" (C 11) "value"
  h12 : HasX P w K mg base 1 "InvalidInjection" (C 12) "value"
  h13 : HasX P w K mg base 1 "InvalidOrder" (C 13) "value"
  h14 : HasX P w K mg base 1 "InvalidEvent" (C 14) "value"
  h15 : HasX P w K mg base 1 "InvalidValues" (C 15) "value"
  h16 : HasX P w K mg base 1 "InvalidQuestion" (C 16) "position"
  h17 : HasX P w K mg base 1 "InvalidCommand" (C 17) "word"
  h18 : HasX P w K mg base 1 "UnknownFunction" (C 18) "name"
  h19 : HasX P w K mg base 1 "LimitExceeded" (C 19) "word"
open PyProof.Rows in
/-- as Fun.ok, for a def that errors leave -/
theorem Fun.okN {P : Program} {w : World} {K : PySem.W.Frag} {mg : Str → Option Value} {base : Heap} {x qual : Str} {st : Stmt} {f : Addr} {fd : FuncData} {N ps : List Str} {k : Nat} {sp : Sp} (F : Fun K x qual st f fd) (S : FnScope N ps (defScope st)) (len : ∀ vs H Q E, sp vs H Q E → vs.length = ps.length)
    (hbody : ∀ (cdv : Value) (A : Around) (outer : List Env) (s : Shared) (H : Hp) (vs : List V) (Q : VK) (E : XK), Room k (A.deeper (envOfC qual (defScope st) s.heap.objs.size f cdv)) → sp vs H Q E →
      ∃ t, PSs (cxOf (L2N.CX P w) P w K mg base N qual (defScope st) f cdv A outer s H E) (defBody st) t ∧ t { nx := fun _ H' => Q .non H', rt := Q } (start N vs) H) : FnOk P w K mg base (L2N.CX P w) (k + 1) f fd ps sp := by
  obtain ⟨oc, od, kV, doc, pm, an, cdv, ct, osl, rfl, lk, hcd⟩ := F.ex
  exact fn_of lk hcd S len fun A outer s H vs Q E hr hsp => hbody cdv A outer s H vs Q E hr hsp
theorem pe_callSH {X : Cx} {CX : CXT} {k : Nat} {x : Str} {ps : List Str} {sp : Sp} {E : L2.St → XK} {e : Expr} {es : List Expr} {t : TA} {p pos : Pos} (F : Has X.prog X.w X.K X.mg X.base CX k x ps sp) (hr : Room k X.A) (hg : Gl X x) (hx : ∀ σ, PassesAt CX X σ (E σ)) (ha : PA X (e :: es) t)
    (hd : (x == ("__debug__" : Str)) = false := by decide) (he : starEach (e :: es) X.env = (false, eval e X.env) :: starEach es X.env := by rfl) (hpl : (backTo pos (starEach es X.env)).any (·.1) = false := by rfl) :
    PE X (.Call (.Name x p) (e :: es) [] pos) (tCallS sp E t) := by
  obtain ⟨f, fd, F, m, kp, b⟩ := F.ex
  exact pe_callS F hr hg m kp b hx ha hd he hpl
/-- raise C(e) in a def that errors leave -/
theorem ps_raiseX {X : Cx} {W : WX} {x : Str} {C : Addr} {f : Str} {k : Nat} {e : Expr} {ta : TA} {p pos pos' : Pos} (hc : X.calm = true) (tk : L2N.Takes X W) (T : HasX X.prog X.w X.K X.mg X.base k x C f) (hr : Room (k + 1) X.A) (hg : Gl X x) (ha : PA X [e] ta)
    (hdb : (x == ("__debug__" : Str)) = false := by decide) (he : starEach [e] X.env = (false, eval e X.env) :: starEach [] X.env := by rfl) : PS X (.Raise (some (.Call (.Name x p) [e] [] pos)) none pos') (fun _ σ H => tMkX C f ta σ H fun cls d H' => W cls d σ H') :=
  L2N.ps_raise hc tk (pmk_x T hr hg ha hdb he)

abbrev sSecond : Stmt := topS 27
abbrev NSecond : List Str := ["_law_choice", "_law_value"]
abbrev PSecond : List Str := ["_law_choice", "_law_value"]
theorem scSecond : FnScope NSecond PSecond (defScope sSecond) := ⟨rfl, rfl, rfl, by decide +kernel, rfl, by decide +kernel, by decide +kernel⟩
abbrev sFirst : Stmt := topS 26
abbrev NFirst : List Str := ["_law_choice", "_law_value"]
abbrev PFirst : List Str := ["_law_choice", "_law_value"]
theorem scFirst : FnScope NFirst PFirst (defScope sFirst) := ⟨rfl, rfl, rfl, by decide +kernel, rfl, by decide +kernel, by decide +kernel⟩
/-- the fields' names -/
def eFl (c : Nat) : Str := (["value", "position", "value", "name", "name", "place", "place", "word", "value", "value", "value", "value", "value", "value", "value", "value", "position", "word", "name", "word"] : List Str).getD c ""
def spErr (lo : Nat) (C : Nat → Addr) : Sp := fun vs H _ E => ∃ (c : Nat) (v : V), vs = [.int (c : Int), v] ∧ lo ≤ c ∧ c < 20 ∧ ∀ d, H d = none → E (.ref (C c)) (some d) (upd H d (.xd [(eFl c, v)]))
/-- if choice == j: raise .. -/
theorem g_rz {C : Nat → Addr} {c jn : Nat} {j : Int} {v : V} {fl : Str} {W : XK} {rest : TS} {D : Ends} {σ : L2.St} {H : Hp} (h0 : σ[0]? = some (some (.int (c : Int)))) (h1 : σ[1]? = some (some v)) (hj : j = (jn : Int))
    (k : c = jn → ∀ d, H d = none → W (.ref (C jn)) (some d) (upd H d (.xd [(fl, v)]))) (r : c ≠ jn → rest D σ H) :
    tSeq (tIfS (tTest (tOp rEq (tVar 0) (tC (V.int j)))) (fun _ σ H => tMkX (C jn) fl (tCons (tVar 1) tNil) σ H W) tNext) rest D σ H := by
  subst hj
  refine ⟨_, h0, rfl, _, rfl, ?_⟩
  by_cases e : c = jn
  · exact iteS (by rw [e]; exact decide_eq_true rfl) ⟨_, h1, _, rfl, k e⟩
  · exact iteE (decide_eq_false fun z => e (Int.ofNat.inj (V.int.inj z))) (r e)
theorem ok_Second {P : Program} {w : World} {K : PySem.W.Frag} {mg : Str → Option Value} {base : Heap} {C : Nat → Addr} {f : Addr} {fd : FuncData} (F : Fun K "_law_second" "_law_second" sSecond f fd) (X : ErrH P w K mg base C) : FnOk P w K mg base (L2N.CX P w) 3 f fd PSecond (spErr 9 C) := by
  refine Fun.okN F scSecond (fun vs H Q E h => ?_) (fun cdv A outer s H vs Q E hr h => ?_)
  · obtain ⟨c, v, rfl, _⟩ := h; rfl
  · obtain ⟨c, v, rfl, lo, hi, k⟩ := h
    refine ⟨_, (pss_cons (ps_if (pt_cmpR op_eq (pv 0) pe_int (nomark _))
  (pss_one (ps_raiseX rfl (L2N.takes_of rfl rfl rfl rfl) X.h9 hr rfl (pa_cons (pv 1) pa_nil)))
  pss_nil)
  (pss_cons (ps_if (pt_cmpR op_eq (pv 0) pe_int (nomark _))
  (pss_one (ps_raiseX rfl (L2N.takes_of rfl rfl rfl rfl) X.h10 hr rfl (pa_cons (pv 1) pa_nil)))
  pss_nil)
  (pss_cons (ps_if (pt_cmpR op_eq (pv 0) pe_int (nomark _))
  (pss_one (ps_raiseX rfl (L2N.takes_of rfl rfl rfl rfl) X.h11 hr rfl (pa_cons (pv 1) pa_nil)))
  pss_nil)
  (pss_cons (ps_if (pt_cmpR op_eq (pv 0) pe_int (nomark _))
  (pss_one (ps_raiseX rfl (L2N.takes_of rfl rfl rfl rfl) X.h12 hr rfl (pa_cons (pv 1) pa_nil)))
  pss_nil)
  (pss_cons (ps_if (pt_cmpR op_eq (pv 0) pe_int (nomark _))
  (pss_one (ps_raiseX rfl (L2N.takes_of rfl rfl rfl rfl) X.h13 hr rfl (pa_cons (pv 1) pa_nil)))
  pss_nil)
  (pss_cons (ps_if (pt_cmpR op_eq (pv 0) pe_int (nomark _))
  (pss_one (ps_raiseX rfl (L2N.takes_of rfl rfl rfl rfl) X.h14 hr rfl (pa_cons (pv 1) pa_nil)))
  pss_nil)
  (pss_cons (ps_if (pt_cmpR op_eq (pv 0) pe_int (nomark _))
  (pss_one (ps_raiseX rfl (L2N.takes_of rfl rfl rfl rfl) X.h15 hr rfl (pa_cons (pv 1) pa_nil)))
  pss_nil)
  (pss_cons (ps_if (pt_cmpR op_eq (pv 0) pe_int (nomark _))
  (pss_one (ps_raiseX rfl (L2N.takes_of rfl rfl rfl rfl) X.h16 hr rfl (pa_cons (pv 1) pa_nil)))
  pss_nil)
  (pss_cons (ps_if (pt_cmpR op_eq (pv 0) pe_int (nomark _))
  (pss_one (ps_raiseX rfl (L2N.takes_of rfl rfl rfl rfl) X.h17 hr rfl (pa_cons (pv 1) pa_nil)))
  pss_nil)
  (pss_cons (ps_if (pt_cmpR op_eq (pv 0) pe_int (nomark _))
  (pss_one (ps_raiseX rfl (L2N.takes_of rfl rfl rfl rfl) X.h18 hr rfl (pa_cons (pv 1) pa_nil)))
  pss_nil)
  (pss_one (ps_raiseX rfl (L2N.takes_of rfl rfl rfl rfl) X.h19 hr rfl (pa_cons (pv 1) pa_nil))))))))))))), ?_⟩
    repeat (refine g_rz rfl rfl rfl (fun e => by subst e; exact k) fun _ => ?_)
    have e : c = 19 := by omega
    subst e
    exact ⟨_, rfl, _, rfl, k⟩
theorem ok_First {P : Program} {w : World} {K : PySem.W.Frag} {mg : Str → Option Value} {base : Heap} {C : Nat → Addr} {f : Addr} {fd : FuncData} (F : Fun K "_law_first" "_law_first" sFirst f fd) (X : ErrH P w K mg base C) (GS : Has P w K mg base (L2N.CX P w) 3 "_law_second" PSecond (spErr 9 C)) : FnOk P w K mg base (L2N.CX P w) 4 f fd PFirst (spErr 0 C) := by
  refine Fun.okN F scFirst (fun vs H Q E h => ?_) (fun cdv A outer s H vs Q E hr h => ?_)
  · obtain ⟨c, v, rfl, _⟩ := h; rfl
  · obtain ⟨c, v, rfl, lo, hi, k⟩ := h
    have tk := L2N.takes_of (X := cxOf (L2N.CX P w) P w K mg base NFirst "_law_first" (defScope sFirst) f cdv A outer s H E) (E := E) rfl rfl rfl rfl
    refine ⟨_, (pss_cons (ps_if (pt_cmpR op_eq (pv 0) pe_int (nomark _))
  (pss_one (ps_raiseX rfl tk X.h0 (hr.mono (by decide)) rfl (pa_cons (pv 1) pa_nil)))
  pss_nil)
  (pss_cons (ps_if (pt_cmpR op_eq (pv 0) pe_int (nomark _))
  (pss_one (ps_raiseX rfl tk X.h1 (hr.mono (by decide)) rfl (pa_cons (pv 1) pa_nil)))
  pss_nil)
  (pss_cons (ps_if (pt_cmpR op_eq (pv 0) pe_int (nomark _))
  (pss_one (ps_raiseX rfl tk X.h2 (hr.mono (by decide)) rfl (pa_cons (pv 1) pa_nil)))
  pss_nil)
  (pss_cons (ps_if (pt_cmpR op_eq (pv 0) pe_int (nomark _))
  (pss_one (ps_raiseX rfl tk X.h3 (hr.mono (by decide)) rfl (pa_cons (pv 1) pa_nil)))
  pss_nil)
  (pss_cons (ps_if (pt_cmpR op_eq (pv 0) pe_int (nomark _))
  (pss_one (ps_raiseX rfl tk X.h4 (hr.mono (by decide)) rfl (pa_cons (pv 1) pa_nil)))
  pss_nil)
  (pss_cons (ps_if (pt_cmpR op_eq (pv 0) pe_int (nomark _))
  (pss_one (ps_raiseX rfl tk X.h5 (hr.mono (by decide)) rfl (pa_cons (pv 1) pa_nil)))
  pss_nil)
  (pss_cons (ps_if (pt_cmpR op_eq (pv 0) pe_int (nomark _))
  (pss_one (ps_raiseX rfl tk X.h6 (hr.mono (by decide)) rfl (pa_cons (pv 1) pa_nil)))
  pss_nil)
  (pss_cons (ps_if (pt_cmpR op_eq (pv 0) pe_int (nomark _))
  (pss_one (ps_raiseX rfl tk X.h7 (hr.mono (by decide)) rfl (pa_cons (pv 1) pa_nil)))
  pss_nil)
  (pss_cons (ps_if (pt_cmpR op_eq (pv 0) pe_int (nomark _))
  (pss_one (ps_raiseX rfl tk X.h8 (hr.mono (by decide)) rfl (pa_cons (pv 1) pa_nil)))
  pss_nil)
  (pss_one (ps_ret (pe_callSH GS hr rfl (L2N.passAt tk) (pa_cons (pv 0) (pa_cons (pv 1) pa_nil)))))))))))))), ?_⟩
    repeat (refine g_rz rfl rfl rfl (fun e => by subst e; exact k) fun _ => ?_)
    exact ⟨_, rfl, _, rfl, c, v, rfl, by omega, hi, k⟩

/-! ### e.f in a suite that takes several classes -/
def tXfG (K : PySem.W.Frag) (a : Addr) (cls : Value) (d : Option Addr) (f : Str) (te : TE) : TE := fun σ H Q => te σ H fun x H1 => x = .ref a ∧ ∃ (C dd : Addr) (fs : List (Str × V)) (v : V), cls = .ref C ∧ XfC K C ∧ PySem.W.findIn K (.ref C) f = some none ∧ d = some dd ∧ H1 dd = some (.xd fs) ∧ fs.lookup f = some v ∧ Q v H1
theorem pe_xfG {X : Cx} {a : Addr} {oe : Obj} {cls : Value} {d : Option Addr} {pn : List (Addr × Obj)} {e : Expr} {te : TE} {pos : Pos} {n : Str} (hz : L2N.Zn cls d oe) (hf : ∃ vs, oe.data = .fields vs) (he : PE (X.suite a ((a, oe) :: pn)) e te)
    (hb : attributeBase e n X.env (eval e X.env) = eval e X.env := by rfl) : PE (X.suite a ((a, oe) :: pn)) (.Attribute e n pos) (tXfG X.K a cls d n te) := by
  refine ⟨fun pins s σ H Q I h => attr_of hb (thn (he.run pins s σ H _ I h) fun u s1 ⟨x, H1, I1, rx, ex, C, dd, fs, v, ec, T, hno, ed, ea, l, q⟩ => ?_)⟩
  subst ex ec ed
  obtain rfl : u = Value.ref a := rx
  obtain ⟨vs, hd⟩ := hf
  obtain ⟨mA, hns, hr⟩ := (show ObjOk X.prog X.w H1 s1.heap dd (.xd fs) from I1.hok dd _ ea)
  obtain ⟨od, ho, hl⟩ := lookIn_ns hns
  obtain ⟨u, hu, ru⟩ := RelO.some_of (v := v) (o := mA n) (by rw [← l]; exact hr n)
  exact HandSPX.exc_get I1.kIn ⟨(I1.pin (a, oe) (List.mem_append_left _ List.mem_cons_self)).1, hz.1, by unfold PySem.W.notCls; rw [hd] <;> rfl, by rw [hz.2.1]; exact ho⟩ T.ga T.gg T.exC (PySem.W.findObj_own T.hdC hno rfl (by rw [hl, hu])) (handed_of ru) ⟨v, H1, I1.tok _, ru, q⟩
/-- which class is which -/
structure ErrM (K : PySem.W.Frag) (C : Nat → Addr) (CP : Addr) : Prop where
  one : ∀ i j, i < 20 → j < 20 → PySem.W.exmOne K (.ref (C i)) (.ref (C j)) = some (decide (i = j))
  prg : ∀ i, i < 20 → PySem.W.exmOne K (.ref (C i)) (.ref CP) = some (decide (i < 18))
  kit : ∀ i j, i < 20 → j < 20 → PySem.W.kitOne K (.ref (C i)) (.ref (C j)) = some (decide (i = j))
  kV : ∀ i, i < 20 → PySem.W.kitOne K (.ref (C i)) (.type "ValueError") = some (decide (i < 18))
  kK : ∀ i, i < 20 → PySem.W.kitOne K (.ref (C i)) (.type "KeyError") = some (decide (i = 18))
  kR : ∀ i, i < 20 → PySem.W.kitOne K (.ref (C i)) (.type "RuntimeError") = some (decide (i = 19))
  xf : ∀ i, i < 20 → XfC K (C i)
  ex : ∀ i, i < 20 → ExcC K (C i)
  no : ∀ i, i < 20 → PySem.W.findIn K (.ref (C i)) (eFl i) = some none
theorem HasX.mg {P : Program} {w : World} {K : PySem.W.Frag} {mg : Str → Option Value} {base : Heap} {k : Nat} {x : Str} {C : Addr} {f : Str} (h : HasX P w K mg base k x C f) : mg x = some (.ref C) := by
  obtain ⟨_, _, _, _, _, _, _, m, _⟩ := h.ex
  exact m
theorem ErrM.any {K : PySem.W.Frag} {C : Nat → Addr} {CP : Addr} (M : ErrM K C CP) {c : Nat} (hc : c < 20) : ∀ js : List Nat, (∀ j ∈ js, j < 20) → PySem.W.exmAny K (.ref (C c)) (js.map fun j => .ref (C j)) = some (decide (c ∈ js))
  | [], _ => rfl
  | j :: r, h => by
    have e1 := M.one c j hc (h j List.mem_cons_self)
    have e2 := M.any hc r fun i hi => h i (List.mem_cons_of_mem _ hi)
    rw [List.map_cons]
    unfold PySem.W.exmAny
    rw [e1, e2]
    by_cases z : c = j <;> simp [z]
/-- a clause that takes the classes js -/
theorem g_cl {K : PySem.W.Frag} {C : Nat → Addr} {CP : Addr} {c i : Nat} {Wout : WX} {D : Ends} {d : Option Addr} {σ : L2.St} {H : Hp} {ts : Addr → Value → Option Addr → TS} {r : List (List Value × Option Nat × (Addr → Value → Option Addr → TS))} (js : List Nat) (M : ErrM K C CP) (hc : c < 20) (hj : ∀ j ∈ js, j < 20)
    (yes : c ∈ js → ∀ a, H a = none → ts a (.ref (C c)) d (Ends.less D i) (σ.set i (some (.ref a))) H) (no : c ∉ js → wX K Wout D r (.ref (C c)) d σ H) : wX K Wout D ((js.map (fun j => Value.ref (C j)), some i, ts) :: r) (.ref (C c)) d σ H :=
  ⟨_, M.any hc js hj, fun e => yes (of_decide_eq_true e), fun e => no (of_decide_eq_false e)⟩
theorem look_fl {c : Nat} {n : Str} {v : V} (h : eFl c = n) : [(eFl c, v)].lookup n = some v := by
  rw [h]; simp [List.lookup]
abbrev sField : Stmt := topS 29
abbrev NField : List Str := ["_law_choice", "_law_value", "_law_e"]
abbrev PField : List Str := ["_law_choice", "_law_value"]
theorem scField : FnScope NField PField (defScope sField) := ⟨rfl, rfl, rfl, by decide +kernel, rfl, by decide +kernel, by decide +kernel⟩
def spField : Sp := fun vs H Q _ => ∃ (c : Nat) (v : V), vs = [.int (c : Int), v] ∧ c < 20 ∧ ∀ d, H d = none → Q v (upd H d (.xd [(eFl c, v)]))
theorem ok_Field {P : Program} {w : World} {K : PySem.W.Frag} {mg : Str → Option Value} {base : Heap} {C : Nat → Addr} {CP f : Addr} {fd : FuncData} (F : Fun K "_law_field" "_law_field" sField f fd) (X : ErrH P w K mg base C) (M : ErrM K C CP) (GF : Has P w K mg base (L2N.CX P w) 4 "_law_first" PFirst (spErr 0 C)) : FnOk P w K mg base CX0 5 f fd PField spField := by
  refine F.ok scField (fun vs H Q E h => ?_) (fun cdv A outer s H vs Q E hr h => ?_)
  · obtain ⟨c, v, rfl, _⟩ := h; rfl
  · obtain ⟨c, v, rfl, hc, k⟩ := h
    refine ⟨_, pss_cons (ps_tryX (Wout := fun _ _ _ _ => False) rfl rfl scField.nd (fun _ _ x => by obtain ⟨_, _, _, _, _, _, _, _, _, _, _, _, _, _, _, _, z⟩ := x; exact z) (fun W pn xe tk _ => pss_one (ps_expr (pe_callSH GF hr rfl (L2N.passAt tk) (pa_cons (pv 0) (pa_cons (pv 1) pa_nil)))))
      (.named (i := 2) (.tup (.cons ⟨rfl, by decide, .inl X.h1.mg⟩ (.cons ⟨rfl, by decide, .inl X.h16.mg⟩ .nil)) (Nat.le_of_ble_eq_true rfl)) rfl rfl (fun a oe cls d pn hz hf => pss_one (ps_ret (pe_xfG hz hf (pv 2))))
      (.named (i := 2) (.tup (.cons ⟨rfl, by decide, .inl X.h3.mg⟩ (.cons ⟨rfl, by decide, .inl X.h4.mg⟩ (.cons ⟨rfl, by decide, .inl X.h18.mg⟩ .nil))) (Nat.le_of_ble_eq_true rfl)) rfl rfl (fun a oe cls d pn hz hf => pss_one (ps_ret (pe_xfG hz hf (pv 2))))
      (.named (i := 2) (.tup (.cons ⟨rfl, by decide, .inl X.h5.mg⟩ (.cons ⟨rfl, by decide, .inl X.h6.mg⟩ .nil)) (Nat.le_of_ble_eq_true rfl)) rfl rfl (fun a oe cls d pn hz hf => pss_one (ps_ret (pe_xfG hz hf (pv 2))))
      (.named (i := 2) (.tup (.cons ⟨rfl, by decide, .inl X.h7.mg⟩ (.cons ⟨rfl, by decide, .inl X.h17.mg⟩ (.cons ⟨rfl, by decide, .inl X.h19.mg⟩ .nil))) (Nat.le_of_ble_eq_true rfl)) rfl rfl (fun a oe cls d pn hz hf => pss_one (ps_ret (pe_xfG hz hf (pv 2))))
      (.named (i := 2) (.tup (.cons ⟨rfl, by decide, .inl X.h0.mg⟩ (.cons ⟨rfl, by decide, .inl X.h2.mg⟩ (.cons ⟨rfl, by decide, .inl X.h8.mg⟩ (.cons ⟨rfl, by decide, .inl X.h9.mg⟩ (.cons ⟨rfl, by decide, .inl X.h10.mg⟩ (.cons ⟨rfl, by decide, .inl X.h11.mg⟩ .nil)))))) (Nat.le_of_ble_eq_true rfl)) rfl rfl (fun a oe cls d pn hz hf => pss_one (ps_ret (pe_xfG hz hf (pv 2))))
      (.named (i := 2) (.tup (.cons ⟨rfl, by decide, .inl X.h12.mg⟩ (.cons ⟨rfl, by decide, .inl X.h13.mg⟩ (.cons ⟨rfl, by decide, .inl X.h14.mg⟩ (.cons ⟨rfl, by decide, .inl X.h15.mg⟩ .nil)))) (Nat.le_of_ble_eq_true rfl)) rfl rfl (fun a oe cls d pn hz hf => pss_one (ps_ret (pe_xfG hz hf (pv 2)))) .nil)))))))
      (pss_one (ps_ret pe_non)), ?_⟩
    refine ⟨_, rfl, _, rfl, c, v, rfl, Nat.zero_le _, hc, fun d hd => ?_⟩
    have go : ∀ {n : Str} {a : Addr} {js : List Nat} (hm : c ∈ js) (hf : ∀ j ∈ js, eFl j = n), tXfG K a (.ref (C c)) (some d) n (tVar 2) ([some (.int (c : Int)), some v, some (.ref a)] : L2.St) (upd H d (.xd [(eFl c, v)])) Q := fun {n a js} hm hf =>
      ⟨_, rfl, rfl, C c, d, _, v, rfl, M.xf c hc, hf c hm ▸ M.no c hc, rfl, upd_same, look_fl (hf c hm), k d hd⟩
    refine g_cl [1, 16] M hc (by decide) (fun hm a _ => go hm (by decide)) fun n1 => ?_
    refine g_cl [3, 4, 18] M hc (by decide) (fun hm a _ => go hm (by decide)) fun n2 => ?_
    refine g_cl [5, 6] M hc (by decide) (fun hm a _ => go hm (by decide)) fun n3 => ?_
    refine g_cl [7, 17, 19] M hc (by decide) (fun hm a _ => go hm (by decide)) fun n4 => ?_
    refine g_cl [0, 2, 8, 9, 10, 11] M hc (by decide) (fun hm a _ => go hm (by decide)) fun n5 => ?_
    refine g_cl [12, 13, 14, 15] M hc (by decide) (fun hm a _ => go hm (by decide)) fun n6 => ?_
    simp only [List.mem_cons, List.not_mem_nil, or_false, not_or] at n1 n2 n3 n4 n5 n6
    omega

/-! ### the pool: _law_pool, _law_mixed, _law_draw -/
abbrev sMixed : Stmt := topS 24
abbrev NMixed : List Str := ["_law_number", "_law_count", "_law_many"]
abbrev PMixed : List Str := ["_law_number", "_law_count", "_law_many"]
theorem scMixed : FnScope NMixed PMixed (defScope sMixed) := ⟨rfl, rfl, rfl, by decide +kernel, rfl, by decide +kernel, by decide +kernel⟩
abbrev sDraw : Stmt := topS 25
abbrev NDraw : List Str := ["_law_pool_here", "_law_many", "_law_at", "_law_cells", "_law_cell"]
abbrev PDraw : List Str := ["_law_pool_here", "_law_many"]
theorem scDraw : FnScope NDraw PDraw (defScope sDraw) := ⟨rfl, rfl, rfl, by decide +kernel, rfl, by decide +kernel, by decide +kernel⟩
abbrev sPool : Stmt := topS 23
abbrev NPool : List Str := ["_law_script", "_law_cells", "_law_cell", "_law_seed"]
abbrev PPool : List Str := ["_law_script"]
theorem scPool : FnScope NPool PPool (defScope sPool) := ⟨rfl, rfl, rfl, by decide +kernel, rfl, by decide +kernel, by decide +kernel⟩
/-- the pool at p, its cells at c; lim is its last item; at most n draws so far -/
def PoolAt (H : Hp) (p c : Addr) (lim : V) (n : Nat) : Prop :=
  ∃ (i : Nat) (cells : List Int) (cnt seed mode : Int), H p = some (.lst [.ref c, .int (i : Int), .int cnt, .int seed, .int mode, lim]) ∧ H c = some (.lst (cells.map V.int)) ∧
    i ≤ cells.length ∧ 0 ≤ cnt ∧ cnt ≤ (n : Int) ∧ 0 ≤ seed ∧ seed < 2147483647
def spMixed : Sp := fun vs H Q _ => ∃ (n c m : Int), vs = [.int n, .int c, .int m] ∧ 0 ≤ n ∧ n < 2147483647 ∧ 0 ≤ c ∧ c ≤ 1000000000000 ∧ 0 < m ∧ ∀ r : Int, 0 ≤ r → r < m → Q (.int r) H
def spDraw : Sp := fun vs H Q _ => ∃ (p c : Addr) (lim : V) (n : Nat) (m : Int), vs = [.ref p, .int m] ∧ PoolAt H p c lim n ∧ n < 1000000000000 ∧ 0 < m ∧ m ≤ 1000000000000000000 ∧
  ∀ (r : Int) (H' : Hp), 0 ≤ r → r < m → PoolAt H' p c lim (n + 1) → But p c H H' → Q (.int r) H'
def spPool (K : PySem.W.Frag) : Sp := fun vs H Q _ => ∃ (a : Addr) (ns : List Int), vs = [.ref a] ∧ SqL K H a (ns.map V.int) ∧ ns.length ≤ 63 ∧
  ∀ (p c : Addr) (H' : Hp), Same H H' → H p = none → H c = none → PoolAt H' p c (.int 30) 0 → Q (.ref p) H'
structure TxPool (mg : Str → Option Value) : Prop where
  n_int : mg "int" = none
  n_len : mg "len" = none
theorem pool_ne {H : Hp} {p c : Addr} {xs : List V} {cells : List Int} (hp : H p = some (.lst (.ref c :: xs))) (hc : H c = some (.lst (cells.map V.int))) : p ≠ c := ne_of hp hc (by
  intro z
  injection z with z
  cases cells with
  | nil => cases z
  | cons a r => injection z with z _; cases z)
theorem pow_lt {n c : Int} (h1 : 0 ≤ n) (h2 : n < 2147483647) (h3 : 0 ≤ c) (h4 : c ≤ 1000000000000) : (n + 7919 * c).natAbs < 2 ^ 64 := by
  have : (2 : Nat) ^ 64 = 18446744073709551616 := by decide
  omega
theorem m63 {m : Int} (h0 : 0 < m) (h1 : m ≤ 1000000000000000000) : m.natAbs < 2 ^ 63 := by
  have : (2 : Nat) ^ 63 = 9223372036854775808 := by decide
  omega
theorem set_ints (cells : List Int) (j : Nat) (z : Int) : (cells.map V.int).set j (V.int z) = (cells.set j z).map V.int := by
  rw [List.map_set]
theorem same_new {H : Hp} {p : Addr} {o : HO} (h : H p = none) : Same H (upd H p o) := fun b x e => by
  rw [upd_ne (ne_of_none e h)]
  exact e
theorem atI_in {α : Type} {xs : List α} {i : Int} (h0 : 0 ≤ i) (h1 : i < xs.length) : ∃ v, atI xs i = some v ∧ v ∈ xs := by
  have h : i.toNat < xs.length := by omega
  refine ⟨xs[i.toNat], ?_, List.getElem_mem h⟩
  have e : i = ((i.toNat : Nat) : Int) := by omega
  have q := atI_nat (xs := xs) (j := i.toNat) (v := xs[i.toNat]) (by simp [h])
  rw [← e] at q
  exact q
theorem PoolAt.same {H H' : Hp} {p c : Addr} {lim : V} {n : Nat} (h : PoolAt H p c lim n) (s : Same H H') : PoolAt H' p c lim n := by
  obtain ⟨i, cs, cn, sd, md, e1, e2, e⟩ := h
  exact ⟨i, cs, cn, sd, md, s _ _ e1, s _ _ e2, e⟩
theorem PoolAt.ne1 {H : Hp} {p c q : Addr} {lim : V} {n : Nat} (h : PoolAt H p c lim n) (hq : H q = none) : q ≠ p := fun z => by
  obtain ⟨_, _, _, _, _, e, _⟩ := h
  rw [z, e] at hq
  cases hq
theorem PoolAt.ne2 {H : Hp} {p c q : Addr} {lim : V} {n : Nat} (h : PoolAt H p c lim n) (hq : H q = none) : q ≠ c := fun z => by
  obtain ⟨_, _, _, _, _, _, e, _⟩ := h
  rw [z, e] at hq
  cases hq
theorem str_app_len (a b : Str) : (a ++ b : Str).length = a.length + b.length := by
  show (a.cps ++ b.cps).size = a.cps.size + b.cps.size
  exact Array.size_append
theorem PoolAt.mono {H : Hp} {p c : Addr} {lim : V} {n m : Nat} (h : PoolAt H p c lim n) (hm : n ≤ m) : PoolAt H p c lim m := by
  obtain ⟨i, cs, cn, sd, md, e1, e2, e3, e4, e5, e⟩ := h
  exact ⟨i, cs, cn, sd, md, e1, e2, e3, e4, by omega, e⟩
theorem PoolAt.upd {H : Hp} {p c q : Addr} {lim : V} {n : Nat} {o : HO} (h : PoolAt H p c lim n) (h1 : q ≠ p) (h2 : q ≠ c) : PoolAt (upd H q o) p c lim n := by
  obtain ⟨i, cs, cn, sd, md, e1, e2, e⟩ := h
  exact ⟨i, cs, cn, sd, md, by rw [upd_ne h1.symm]; exact e1, by rw [upd_ne h2.symm]; exact e2, e⟩
section
variable {P : Program} {w : World} {K : PySem.W.Frag} {mg : Str → Option Value} {base : Heap}
theorem ok_Mixed {f : Addr} {fd : FuncData} (F : Fun K "_law_mixed" "_law_mixed" sMixed f fd) (T : TxPool mg) : FnOk P w K mg base CX0 1 f fd PMixed spMixed := by
  refine F.ok scMixed (fun vs H Q E h => ?_) (fun cdv A outer s H vs Q E hr h => ?_)
  · obtain ⟨n, c, m, rfl, _⟩ := h
    rfl
  · obtain ⟨n, c, m, rfl, n0, n1, c0, c1, m0, k⟩ := h
    refine ⟨_, (pss_one (ps_ret (pe_op op_mod (pe_op op_fdiv (pe_callTy call_int1 (by rfl) T.n_int bb_int (pa_cons (pe_op op_mod (pe_op op_pow (pe_callTy call_int1 (by rfl) T.n_int bb_int (pa_cons (pe_op op_add (pv 0) (pe_op op_mul pe_int (pv 1))) pa_nil)) pe_int) pe_int) pa_nil)) pe_int) (pv 2)))), ?_⟩
    refine ⟨_, rfl, _, rfl, _, _, rfl, rfl, .inl ⟨by decide, by decide⟩, _, _, rfl, rfl, .inl ⟨_, rfl, ?_⟩⟩
    refine ⟨_, _, rfl, rfl, ⟨by decide, by decide, pow_lt n0 n1 c0 c1⟩, _, _, rfl, rfl, (show (0 : Int) < 2147483647 by decide), .inl ⟨_, rfl, ?_⟩⟩
    refine ⟨_, _, rfl, rfl, ⟨by decide, by decide⟩, _, rfl, _, _, rfl, rfl, m0, ?_⟩
    exact k _ (Int.emod_nonneg _ (by omega)) (Int.emod_lt_of_pos _ m0)
theorem ok_Draw {f : Addr} {fd : FuncData} (F : Fun K "_law_draw" "_law_draw" sDraw f fd) (T : TxPool mg) (GM : Has P w K mg base CX0 1 "_law_mixed" PMixed spMixed) :
    FnOk P w K mg base CX0 2 f fd PDraw spDraw := by
  refine F.ok scDraw (fun vs H Q E h => ?_) (fun cdv A outer s H vs Q E hr h => ?_)
  · obtain ⟨p, c, lim, n, m, rfl, _⟩ := h
    rfl
  · obtain ⟨p, c, lim, n, m, rfl, ⟨i, cells, cnt, seed, mode, hp, hc, hi, c0, c1, s0, s1⟩, hn, m0, m1, k⟩ := h
    have npc : p ≠ c := pool_ne hp hc
    refine ⟨_, (pss_cons (ps_asg (pe_op op_add (pe_ix (r := rIxL K) ix_list (pv 0) pe_int (fun _ _ => rfl)) pe_int) (pg_sub (pv 0) pe_int set_list))
  (pss_cons (ps_if (pt_cmpR op_ge (pe_ix (r := rIxL K) ix_list (pv 0) pe_int (fun _ _ => rfl)) (pe_callB call_len_seq (by rfl) T.n_len bb_len (pa_cons (pe_ix (r := rIxL K) ix_list (pv 0) pe_int (fun _ _ => rfl)) pa_nil)) (nomark _))
  (pss_one (ps_ret (pe_callH GM hr rfl pass0 (pa_cons (pe_ix (r := rIxL K) ix_list (pv 0) pe_int (fun _ _ => rfl)) (pa_cons (pe_ix (r := rIxL K) ix_list (pv 0) pe_int (fun _ _ => rfl)) (pa_cons (pv 1) pa_nil))))))
  pss_nil)
  (pss_cons (ps_set (i := 2) scDraw.nd rfl (Or.inl rfl) (pe_ix (r := rIxL K) ix_list (pv 0) pe_int (fun _ _ => rfl)))
  (pss_cons (ps_set (i := 3) scDraw.nd rfl (Or.inl rfl) (pe_ix (r := rIxL K) ix_list (pv 0) pe_int (fun _ _ => rfl)))
  (pss_cons (ps_set (i := 4) scDraw.nd rfl (Or.inl rfl) (pe_ix (r := rIxL K) ix_list (pv 3) (pv 2) (fun _ _ => rfl)))
  (pss_cons (ps_if (PW.pt (pw_and (pt_cmpR op_ne (pe_ix (r := rIxL K) ix_list (pv 0) pe_int (fun _ _ => rfl)) pe_int (nomark _)) (pw_and1 (pt_cmpR op_lt (pv 4) (pe_op op_pow pe_int pe_int) (nomark _)))))
  (pss_cons (ps_asg (pe_op op_add (pe_ix (r := rIxL K) ix_list (pv 0) pe_int (fun _ _ => rfl)) pe_int) (pg_sub (pv 0) pe_int set_list))
  (pss_cons (ps_if (pt_cmpR op_eq (pe_ix (r := rIxL K) ix_list (pv 0) pe_int (fun _ _ => rfl)) pe_int (nomark _))
  (pss_cons (ps_asg (pe_op op_add (pv 2) pe_int) (pg_sub (pv 0) pe_int set_list))
  (pss_one (ps_asg pe_int (pg_sub (pv 0) pe_int set_list))))
  pss_nil)
  (pss_one (ps_ret (pe_callH GM hr rfl pass0 (pa_cons (pe_op op_mod (pe_callTy call_int1 (by rfl) T.n_int bb_int (pa_cons (pv 4) pa_nil)) pe_int) (pa_cons (pe_ix (r := rIxL K) ix_list (pv 0) pe_int (fun _ _ => rfl)) (pa_cons (pv 1) pa_nil))))))))
  pss_nil)
  (pss_cons (ps_asg pe_int (pg_sub (pv 0) pe_int set_list))
  (pss_cons (ps_asg (pe_op op_fdivW (pe_callTy call_int1 (by rfl) T.n_int bb_int (pa_cons (pv 4) pa_nil)) (pv 1)) (pg_sub (pv 3) (pv 2) set_list))
  (pss_cons (ps_if (pt_cmpR op_eq (pe_ix (r := rIxL K) ix_list (pv 3) (pv 2) (fun _ _ => rfl)) pe_int (nomark _))
  (pss_cons (ps_asg (pe_op op_add (pv 2) pe_int) (pg_sub (pv 0) pe_int set_list))
  (pss_one (ps_asg pe_int (pg_sub (pv 0) pe_int set_list))))
  pss_nil)
  (pss_one (ps_ret (pe_op op_mod (pe_callTy call_int1 (by rfl) T.n_int bb_int (pa_cons (pv 4) pa_nil)) (pv 1))))))))))))), ?_⟩
    -- pool[2] = pool[2] + 1
    refine ⟨_, rfl, p, _, _, _, rfl, rfl, SqL.of hp, rfl, _, _, rfl, rfl, _, rfl, p, _, _, _, rfl, rfl, hp, rfl, ?_⟩
    have st : ∀ (i' : Nat) (md : Int) (cs : List Int), i' ≤ cs.length → ∀ H' : Hp, H' p = some (.lst [.ref c, .int (i' : Int), .int (cnt + 1), .int seed, .int md, lim]) → H' c = some (.lst (cs.map V.int)) → PoolAt H' p c lim (n + 1) :=
      fun i' md cs hl H' a b => ⟨i', cs, cnt + 1, seed, md, a, b, hl, by omega, by omega, s0, s1⟩
    have ac : ∀ {H' : Hp} {o : HO} {x : HO}, H' c = some x → upd H' p o c = some x := fun e => by rw [upd_ne npc.symm]; exact e
    have ap : ∀ {H' : Hp} {o : HO} {x : HO}, H' p = some x → upd H' c o p = some x := fun e => by rw [upd_ne npc]; exact e
    have kq : ∀ {H' : Hp} {o : HO}, But p c H H' → But p c H (upd H' p o) := fun b x o e hb hx => by rw [upd_ne hb]; exact b x o e hb hx
    have kc : ∀ {H' : Hp} {o : HO}, But p c H H' → But p c H (upd H' c o) := fun b x o e hb hx => by rw [upd_ne hx]; exact b x o e hb hx
    -- if pool[1] >= len(pool[0])
    refine ⟨_, rfl, p, _, _, _, rfl, rfl, SqL.of upd_same, rfl, _, rfl, p, _, _, _, rfl, rfl, SqL.of upd_same, rfl, c, _, rfl, .inl (SqL.of (ac hc)), _, _, rfl, rfl, _, rfl, ?_⟩
    refine ite2 (fun hge => ?_) (fun hlt => ?_)
    · refine ⟨_, rfl, p, _, _, _, rfl, rfl, SqL.of upd_same, rfl, _, rfl, p, _, _, _, rfl, rfl, SqL.of upd_same, rfl, _, rfl, seed, cnt + 1, m, rfl, s0, s1, by omega, by omega, m0, fun r r0 r1 => ?_⟩
      exact k r _ r0 r1 (st i mode cells hi _ upd_same (ac hc)) (kq But.refl)
    · have hil : i < cells.length := by
        have z : ¬ ((cells.map V.int).length : Int) ≤ (i : Int) := fun z => hlt (decide_eq_true z)
        rw [List.length_map] at z
        omega
      obtain ⟨cell, hcell⟩ : ∃ z, cells[i]? = some z := ⟨cells[i], by simp [hil]⟩
      have hcV : (cells.map V.int)[i]? = some (V.int cell) := by rw [List.getElem?_map, hcell]; rfl
      -- at, cells, cell
      refine ⟨_, rfl, p, _, _, _, rfl, rfl, SqL.of upd_same, rfl, ?_⟩
      refine ⟨_, rfl, p, _, _, _, rfl, rfl, SqL.of upd_same, rfl, ?_⟩
      refine ⟨_, rfl, _, rfl, c, _, _, _, rfl, rfl, SqL.of (ac hc), atI_nat hcV, ?_⟩
      -- if pool[4] != 2 and cell < 10 ** 18
      refine ⟨_, rfl, p, _, _, _, rfl, rfl, SqL.of upd_same, rfl, rfl, _, rfl, ?_⟩
      refine ite2 (fun h2 => ?gA) (fun h2 => iteF ?gB)
      case' gA => refine ⟨_, rfl, _, _, rfl, rfl, ⟨by decide, by decide, by decide⟩, _, _, rfl, rfl, _, rfl, ite2 (fun h3 => ?gD) (fun h3 => ?gC)⟩
      case gD =>
        refine ⟨_, rfl, p, _, _, _, rfl, rfl, SqL.of upd_same, rfl, _, _, rfl, rfl, _, rfl, p, _, _, _, rfl, rfl, upd_same, rfl, ?_⟩
        refine ⟨_, rfl, p, _, _, _, rfl, rfl, SqL.of upd_same, rfl, rfl, _, rfl, ite2 (fun h4 => ?_) (fun h4 => ?_)⟩
        · refine ⟨_, rfl, _, _, rfl, rfl, _, rfl, p, _, _, _, rfl, rfl, upd_same, rfl, ?_⟩
          refine ⟨_, rfl, p, _, _, _, rfl, rfl, upd_same, rfl, ?_⟩
          refine ⟨_, rfl, .inl ⟨_, rfl, _, _, rfl, rfl, (show (0 : Int) < 2147483647 by decide), _, rfl, p, _, _, _, rfl, rfl, SqL.of upd_same, rfl, _, rfl, _, cnt + 1, m, rfl, Int.emod_nonneg _ (by decide), Int.emod_lt_of_pos _ (by decide), by omega, by omega, m0, fun r r0 r1 => ?_⟩⟩
          exact k r _ r0 r1 (st (i + 1) 0 cells (by omega) _ upd_same (ac (ac (ac (ac hc))))) (kq (kq (kq (kq But.refl))))
        · refine ⟨_, rfl, .inl ⟨_, rfl, _, _, rfl, rfl, (show (0 : Int) < 2147483647 by decide), _, rfl, p, _, _, _, rfl, rfl, SqL.of upd_same, rfl, _, rfl, _, cnt + 1, m, rfl, Int.emod_nonneg _ (by decide), Int.emod_lt_of_pos _ (by decide), by omega, by omega, m0, fun r r0 r1 => ?_⟩⟩
          exact k r _ r0 r1 (st i (mode + 1) cells (by omega) _ upd_same (ac (ac hc))) (kq (kq But.refl))
      all_goals
        -- pool[4] = 2; cells[at] = int(cell) // many
        refine ⟨_, rfl, p, _, _, _, rfl, rfl, upd_same, rfl, ?_⟩
        have hix : ixN (cells.map V.int).length (i : Int) = some i := by
          unfold ixN
          rw [List.length_map, if_pos (by omega), if_pos (by omega), Int.toNat_natCast]
        refine ⟨_, rfl, .inl ⟨_, rfl, _, rfl, _, _, rfl, rfl, wide_div m0 (m63 m0 m1) (by decide) (by decide), _, rfl, _, rfl, c, _, _, i, rfl, rfl, ac (ac hc), hix, ?_⟩⟩
        rw [set_ints]
        have hcW : ((cells.set i (cell / m)).map V.int)[i]? = some (V.int (cell / m)) := by
          rw [List.getElem?_map, List.getElem?_set_self hil]; rfl
        have hlen : (cells.set i (cell / m)).length = cells.length := List.length_set
        refine ⟨_, rfl, _, rfl, c, _, _, _, rfl, rfl, SqL.of upd_same, atI_nat hcW, rfl, _, rfl, ite2 (fun h4 => ?_) (fun h4 => ?_)⟩
        · refine ⟨_, rfl, _, _, rfl, rfl, _, rfl, p, _, _, _, rfl, rfl, ap upd_same, rfl, ?_⟩
          refine ⟨_, rfl, p, _, _, _, rfl, rfl, upd_same, rfl, ?_⟩
          refine ⟨_, rfl, .inl ⟨_, rfl, _, rfl, _, _, rfl, rfl, m0, ?_⟩⟩
          exact k _ _ (Int.emod_nonneg _ (by omega)) (Int.emod_lt_of_pos _ m0) (st (i + 1) 0 _ (by omega) _ upd_same (ac (ac upd_same))) (kq (kq (kc (kq (kq But.refl)))))
        · refine ⟨_, rfl, .inl ⟨_, rfl, _, rfl, _, _, rfl, rfl, m0, ?_⟩⟩
          exact k _ _ (Int.emod_nonneg _ (by omega)) (Int.emod_lt_of_pos _ m0) (st i 2 _ (by omega) _ (ap upd_same) upd_same) (kc (kq (kq But.refl)))
/-! _law_pool -/
theorem cut63 {ns : List Int} (h : ns.length ≤ 63) : cutV (ns.map V.int) none (some 63) = ns.map V.int := by
  unfold cutV
  rw [HT.sIx_none, show HT.sIx (ns.map V.int).length (ns.map V.int).length (some 63) = min 63 (ns.map V.int).length from HT.sIx_nat _ _ 63]
  rw [List.length_map, List.drop_zero, List.take_of_length_le]
  rw [List.length_map]
  omega
theorem int_at {ns : List Int} {i : Nat} {x : V} (h : (ns.map V.int)[i]? = some x) : ∃ z, ns[i]? = some z ∧ x = V.int z := by
  rw [List.getElem?_map] at h
  cases e : ns[i]? with
  | none => rw [e] at h; cases h
  | some z => rw [e] at h; exact ⟨z, rfl, (Option.some.inj h).symm⟩
theorem take_snoc {α : Type} {l : List α} {i : Nat} {z : α} (h : l[i]? = some z) : l.take (i + 1) = l.take i ++ [z] := by
  rw [List.take_succ, h]; rfl
theorem ok_Pool {f : Addr} {fd : FuncData} (F : Fun K "_law_pool" "_law_pool" sPool f fd) (T : TxPool mg) : FnOk P w K mg base CX0 1 f fd PPool (spPool K) := by
  refine F.ok scPool (fun vs H Q E h => ?_) (fun cdv A outer s H vs Q E hr h => ?_)
  · obtain ⟨a, ns, rfl, _⟩ := h
    rfl
  · obtain ⟨a, ns, rfl, hS, hlen, k⟩ := h
    refine ⟨_, (pss_cons (ps_setLc (i := 1) (own := [("_law_cell", 2)]) (g := gName 2) (tt := tYes) rfl scPool.nd rfl rfl (sw_true rfl rfl rfl (by decide +kernel)) (pi_list (pe_slice sl_list (pv 0) po_none (po_some pe_int))) (blkOk_by (own := [("_law_cell", 2)]) (N := NPool) (sc := (defScope sPool)) (by decide +kernel)) (fun _ _ _ _ _ => (pg_name (i := 2) scPool.nd rfl (Or.inl rfl))) (fun _ _ _ _ _ => pts_nil) (fun _ _ _ _ _ => (pe_callTy call_int1 (by rfl) T.n_int bb_int (pa_cons (pv 2) pa_nil))))
  (pss_cons (ps_set (i := 3) scPool.nd rfl (Or.inl rfl) pe_int)
  (pss_cons (ps_for PassesOwn.never rfl (pi_list (pv 1)) (pg_name (i := 2) scPool.nd rfl (Or.inl rfl))
  (pss_one (ps_set (i := 3) scPool.nd rfl (Or.inl rfl) (pe_op op_mod (pe_callTy call_int1 (by rfl) T.n_int bb_int (pa_cons (pe_op op_add (pe_op op_mul (pv 3) pe_int) (pv 2)) pa_nil)) pe_int))))
  (pss_one (ps_ret (pe_lst (pa_cons (pv 1) (pa_cons pe_int (pa_cons pe_int (pa_cons (pv 3) (pa_cons pe_int (pa_cons pe_int pa_nil)))))))))))), ?_⟩
    refine ⟨_, rfl, 63, rfl, a, _, rfl, hS, fun q hq => ⟨q, rfl, ⟨_, SqL.of upd_same⟩, fun D hD => ?_⟩⟩
    rw [cut63 hlen] at *
    have nqD : q ≠ D := fun z => by rw [z, upd_same] at hD; cases hD
    have hD0 : H D = none := by rw [← hD, upd_ne (Ne.symm nqD)]
    refine lc_list (K := K) (a := q) (xs := ns.map V.int) (fun i H' => Same H H' ∧ H' q = some (.lst (ns.map V.int)) ∧ H' D = some (.lst ((ns.take i).map V.int))) ?_ ?_ ?_ ?_
    · exact ⟨fun b o e => by rw [upd_ne (ne_of_none e hD0), upd_ne (ne_of_none e hq)]; exact e, by rw [upd_ne nqD, upd_same], upd_same⟩
    · exact fun i H' _ h' => SqL.of h'.2.1
    · rintro i x H' hx ⟨s1, q1, d1⟩
      obtain ⟨z, hz, rfl⟩ := int_at hx
      refine ⟨rfl, _, rfl, .inl ⟨_, rfl, _, d1, ?_, ?_⟩⟩
      · exact small1000 (by rw [List.length_map, List.length_take]; omega)
      · refine ⟨fun b o e => by rw [upd_ne (ne_of_none e hD0)]; exact s1 b o e, by rw [upd_ne nqD]; exact q1, ?_⟩
        rw [upd_same, take_snoc hz, List.map_append]
        rfl
    · rintro H1 ⟨s1, q1, d1⟩
      rw [List.length_map, List.take_length] at d1
      -- seed = 11; the loop
      refine ⟨_, rfl, D, rfl, ⟨_, SqL.of d1⟩, for_list (K := K) (a := D) (xs := ns.map V.int) (fun i σ H' => ∃ (x : Option V) (z : Int), σ = [some (.ref a), some (.ref D), x, some (.int z)] ∧ 0 ≤ z ∧ z < 2147483647 ∧ H' = H1)
        ⟨none, 11, rfl, by decide, by decide, rfl⟩ (fun i σ H' _ ⟨_, _, _, _, _, e⟩ => by rw [e]; exact SqL.of d1) ?_ ?_⟩
      · rintro i x σ H' hx ⟨y, z, rfl, z0, z1, rfl⟩
        obtain ⟨u, hu, rfl⟩ := int_at hx
        refine ⟨_, rfl, _, _, rfl, rfl, .inr ⟨by decide, by decide⟩, _, rfl, _, _, rfl, rfl, .inl ⟨_, rfl, _, _, rfl, rfl, (show (0 : Int) < 2147483647 by decide), ?_⟩⟩
        exact ⟨_, _, rfl, Int.emod_nonneg _ (by decide), Int.emod_lt_of_pos _ (by decide), rfl⟩
      · rintro σ H' ⟨y, z, rfl, z0, z1, rfl⟩
        refine ⟨_, rfl, _, rfl, (by show 6 ≤ sizeLine; decide), fun p hp => ?_⟩
        have npD : D ≠ p := ne_of_none d1 hp
        refine k p D _ (s1.trans (same_new hp)) (s1.free hp) hD0 ⟨0, ns, 0, z, 0, upd_same, by rw [upd_ne npD]; exact d1, Nat.zero_le _, by decide, by decide, z0, z1⟩
end

/-! ### _law_kinds -/
abbrev sKinds : Stmt := topS 28
abbrev NKinds : List Str := ["_law_e", "_law_found"]
abbrev PKinds : List Str := ["_law_e"]
theorem scKinds : FnScope NKinds PKinds (defScope sKinds) := ⟨rfl, rfl, rfl, by decide +kernel, rfl, by decide +kernel, by decide +kernel⟩
structure TxE (mg : Str → Option Value) : Prop where
  n_isinstance : mg "isinstance" = none
  n_range : mg "range" = none
  n_ValueError : mg "ValueError" = none
  n_KeyError : mg "KeyError" = none
  n_RuntimeError : mg "RuntimeError" = none
theorem HasX.gl {P : Program} {w : World} {K : PySem.W.Frag} {mg : Str → Option Value} {base : Heap} {k : Nat} {x : Str} {C : Addr} {f : Str} (h : HasX P w K mg base k x C f) : ∃ u, mg x = some u ∧ RelV (.ref C) u := ⟨_, h.mg, rfl⟩
/-- which of the twenty it is -/
def kinds (c : Nat) : List V := (List.range 20).map fun j => .bl (decide (c = j))
def spKinds (C : Nat → Addr) : Addr × Obj → Sp := fun p vs H Q _ => ∃ (c : Nat) (dd : Addr) (fs : List (Str × V)), c < 20 ∧ vs = [.ref p.1] ∧ L2N.Zn (.ref (C c)) (some dd) p.2 ∧ (∃ vs, p.2.data = .fields vs) ∧ H dd = some (.xd fs) ∧
  ∀ (t : Addr) (H' : Hp), Same H H' → H t = none → H' t = some (.lst (kinds c)) → Q (.ref t) H'
theorem g_is {K : PySem.W.Frag} {C : Nat → Addr} {CP : Addr} {c j : Nat} {dd a : Addr} {fs : List (Str × V)} {σ : L2.St} {H : Hp} {t : TA} {Q : List V → Hp → Prop} (M : ErrM K C CP) (hc : c < 20) (hj : j < 20) (h0 : σ[0]? = some (some (.ref a))) (ed : H dd = some (.xd fs))
    (r : t σ H fun xs H2 => Q (.bl (decide (c = j)) :: xs) H2) : tCons (tCB (rIsX K (C c) a dd) (tCons (tVar 0) (tCons (tC (V.ref (C j))) tNil))) t σ H Q :=
  ⟨_, h0, .ref (C j), .ref (C j), _, fs, rfl, fun u r => r, M.kit c j hc hj, ed, r⟩
theorem same_no {H H' : Hp} {b : Addr} (s : Same H H') (h : H' b = none) : H b = none := by
  cases e : H b with
  | none => rfl
  | some o => rw [s b o e] at h; cases h
theorem g_cat {σ : L2.St} {H0 H : Hp} {l : Addr} {xs ys : List V} {t : TA} {Q : VK} (h1 : σ[1]? = some (some (.ref l))) (hs : Same H0 H) (hl : H l = some (.lst xs)) (hx : xs.length ≤ 1000) (hy : ys.length ≤ 1000)
    (ht : ∀ R : List V → Hp → Prop, R ys H → t σ H R) (k : ∀ (q : Addr) (H' : Hp), Same H0 H' → H0 q = none → H' q = some (.lst (xs ++ ys)) → Q (.ref q) H') : tOp rCat (tVar 1) (tLst t) σ H Q := by
  refine ⟨_, h1, ht _ ⟨by rw [sizeLine_eq]; omega, fun p hp => ⟨l, p, xs, ys, rfl, rfl, (upd_ne (ne_of_none hl hp)).trans hl, upd_same, by rw [sizeLine_eq]; omega, fun q hq => ?_⟩⟩⟩
  have s2 : Same H0 (upd H p (.lst ys)) := fun b o e => same_new hp b o (hs b o e)
  exact k q _ (fun b o e => same_new hq b o (s2 b o e)) (same_no s2 hq) upd_same
theorem g_lstS {σ : L2.St} {H : Hp} {ys : List V} {t : TA} {rest : TS} {D : Ends} (hy : ys.length ≤ 1000) (ht : ∀ R : List V → Hp → Prop, R ys H → t σ H R) (k : ∀ p, H p = none → rest D (σ.set 1 (some (.ref p))) (upd H p (.lst ys))) : tSeq (tAsg (tLst t) (gName 1)) rest D σ H :=
  ht _ ⟨by rw [sizeLine_eq]; omega, fun p hp => k p hp⟩
theorem g_catS {σ : L2.St} {H0 H : Hp} {l : Addr} {xs ys : List V} {t : TA} {rest : TS} {D : Ends} (h1 : σ[1]? = some (some (.ref l))) (hs : Same H0 H) (hl : H l = some (.lst xs)) (hx : xs.length ≤ 1000) (hy : ys.length ≤ 1000)
    (ht : ∀ R : List V → Hp → Prop, R ys H → t σ H R) (k : ∀ (q : Addr) (H' : Hp), Same H0 H' → H0 q = none → H' q = some (.lst (xs ++ ys)) → rest D (σ.set 1 (some (.ref q))) H') : tSeq (tAsg (tOp rCat (tVar 1) (tLst t)) (gName 1)) rest D σ H :=
  g_cat h1 hs hl hx hy ht k
theorem ok_Kinds {P : Program} {w : World} {K : PySem.W.Frag} {mg : Str → Option Value} {base : Heap} {C : Nat → Addr} {CP f : Addr} {fd : FuncData} (F : Fun K "_law_kinds" "_law_kinds" sKinds f fd) (T : TxE mg) (X : ErrH P w K mg base C) (M : ErrM K C CP) : FnP P w K mg base 1 f fd PKinds (spKinds C) := by
  refine Fun.okP F scKinds (fun p vs H Q E h => ?_) (fun cdv A outer s H vs Q E p hot hr h => ?_)
  · obtain ⟨c, dd, fs, _, rfl, _⟩ := h; rfl
  · obtain ⟨c, dd, fs, hc, rfl, hz, hf, ed, k⟩ := h
    refine ⟨_, (pss_cons (ps_set (i := 1) scKinds.nd rfl (Or.inl rfl) (pe_lst (pa_cons (pe_callB (call_isX (a := p.1) (oe := p.2) (M.ex c hc) hz hf (List.mem_singleton.mpr rfl)) (by rfl) T.n_isinstance bb_isinstance (pa_cons (pv 0) (pa_cons (pe_globE (v := .ref (C 0)) rfl X.h0.gl) pa_nil))) (pa_cons (pe_callB (call_isX (a := p.1) (oe := p.2) (M.ex c hc) hz hf (List.mem_singleton.mpr rfl)) (by rfl) T.n_isinstance bb_isinstance (pa_cons (pv 0) (pa_cons (pe_globE (v := .ref (C 1)) rfl X.h1.gl) pa_nil))) (pa_cons (pe_callB (call_isX (a := p.1) (oe := p.2) (M.ex c hc) hz hf (List.mem_singleton.mpr rfl)) (by rfl) T.n_isinstance bb_isinstance (pa_cons (pv 0) (pa_cons (pe_globE (v := .ref (C 2)) rfl X.h2.gl) pa_nil))) pa_nil)))))
  (pss_cons (ps_set (i := 1) scKinds.nd rfl (Or.inl rfl) (pe_op op_cat (pv 1) (pe_lst (pa_cons (pe_callB (call_isX (a := p.1) (oe := p.2) (M.ex c hc) hz hf (List.mem_singleton.mpr rfl)) (by rfl) T.n_isinstance bb_isinstance (pa_cons (pv 0) (pa_cons (pe_globE (v := .ref (C 3)) rfl X.h3.gl) pa_nil))) (pa_cons (pe_callB (call_isX (a := p.1) (oe := p.2) (M.ex c hc) hz hf (List.mem_singleton.mpr rfl)) (by rfl) T.n_isinstance bb_isinstance (pa_cons (pv 0) (pa_cons (pe_globE (v := .ref (C 4)) rfl X.h4.gl) pa_nil))) (pa_cons (pe_callB (call_isX (a := p.1) (oe := p.2) (M.ex c hc) hz hf (List.mem_singleton.mpr rfl)) (by rfl) T.n_isinstance bb_isinstance (pa_cons (pv 0) (pa_cons (pe_globE (v := .ref (C 5)) rfl X.h5.gl) pa_nil))) pa_nil))))))
  (pss_cons (ps_set (i := 1) scKinds.nd rfl (Or.inl rfl) (pe_op op_cat (pv 1) (pe_lst (pa_cons (pe_callB (call_isX (a := p.1) (oe := p.2) (M.ex c hc) hz hf (List.mem_singleton.mpr rfl)) (by rfl) T.n_isinstance bb_isinstance (pa_cons (pv 0) (pa_cons (pe_globE (v := .ref (C 6)) rfl X.h6.gl) pa_nil))) (pa_cons (pe_callB (call_isX (a := p.1) (oe := p.2) (M.ex c hc) hz hf (List.mem_singleton.mpr rfl)) (by rfl) T.n_isinstance bb_isinstance (pa_cons (pv 0) (pa_cons (pe_globE (v := .ref (C 7)) rfl X.h7.gl) pa_nil))) (pa_cons (pe_callB (call_isX (a := p.1) (oe := p.2) (M.ex c hc) hz hf (List.mem_singleton.mpr rfl)) (by rfl) T.n_isinstance bb_isinstance (pa_cons (pv 0) (pa_cons (pe_globE (v := .ref (C 8)) rfl X.h8.gl) pa_nil))) pa_nil))))))
  (pss_cons (ps_set (i := 1) scKinds.nd rfl (Or.inl rfl) (pe_op op_cat (pv 1) (pe_lst (pa_cons (pe_callB (call_isX (a := p.1) (oe := p.2) (M.ex c hc) hz hf (List.mem_singleton.mpr rfl)) (by rfl) T.n_isinstance bb_isinstance (pa_cons (pv 0) (pa_cons (pe_globE (v := .ref (C 9)) rfl X.h9.gl) pa_nil))) (pa_cons (pe_callB (call_isX (a := p.1) (oe := p.2) (M.ex c hc) hz hf (List.mem_singleton.mpr rfl)) (by rfl) T.n_isinstance bb_isinstance (pa_cons (pv 0) (pa_cons (pe_globE (v := .ref (C 10)) rfl X.h10.gl) pa_nil))) (pa_cons (pe_callB (call_isX (a := p.1) (oe := p.2) (M.ex c hc) hz hf (List.mem_singleton.mpr rfl)) (by rfl) T.n_isinstance bb_isinstance (pa_cons (pv 0) (pa_cons (pe_globE (v := .ref (C 11)) rfl X.h11.gl) pa_nil))) pa_nil))))))
  (pss_cons (ps_set (i := 1) scKinds.nd rfl (Or.inl rfl) (pe_op op_cat (pv 1) (pe_lst (pa_cons (pe_callB (call_isX (a := p.1) (oe := p.2) (M.ex c hc) hz hf (List.mem_singleton.mpr rfl)) (by rfl) T.n_isinstance bb_isinstance (pa_cons (pv 0) (pa_cons (pe_globE (v := .ref (C 12)) rfl X.h12.gl) pa_nil))) (pa_cons (pe_callB (call_isX (a := p.1) (oe := p.2) (M.ex c hc) hz hf (List.mem_singleton.mpr rfl)) (by rfl) T.n_isinstance bb_isinstance (pa_cons (pv 0) (pa_cons (pe_globE (v := .ref (C 13)) rfl X.h13.gl) pa_nil))) (pa_cons (pe_callB (call_isX (a := p.1) (oe := p.2) (M.ex c hc) hz hf (List.mem_singleton.mpr rfl)) (by rfl) T.n_isinstance bb_isinstance (pa_cons (pv 0) (pa_cons (pe_globE (v := .ref (C 14)) rfl X.h14.gl) pa_nil))) pa_nil))))))
  (pss_cons (ps_set (i := 1) scKinds.nd rfl (Or.inl rfl) (pe_op op_cat (pv 1) (pe_lst (pa_cons (pe_callB (call_isX (a := p.1) (oe := p.2) (M.ex c hc) hz hf (List.mem_singleton.mpr rfl)) (by rfl) T.n_isinstance bb_isinstance (pa_cons (pv 0) (pa_cons (pe_globE (v := .ref (C 15)) rfl X.h15.gl) pa_nil))) (pa_cons (pe_callB (call_isX (a := p.1) (oe := p.2) (M.ex c hc) hz hf (List.mem_singleton.mpr rfl)) (by rfl) T.n_isinstance bb_isinstance (pa_cons (pv 0) (pa_cons (pe_globE (v := .ref (C 16)) rfl X.h16.gl) pa_nil))) (pa_cons (pe_callB (call_isX (a := p.1) (oe := p.2) (M.ex c hc) hz hf (List.mem_singleton.mpr rfl)) (by rfl) T.n_isinstance bb_isinstance (pa_cons (pv 0) (pa_cons (pe_globE (v := .ref (C 17)) rfl X.h17.gl) pa_nil))) pa_nil))))))
  (pss_one (ps_ret (pe_op op_cat (pv 1) (pe_lst (pa_cons (pe_callB (call_isX (a := p.1) (oe := p.2) (M.ex c hc) hz hf (List.mem_singleton.mpr rfl)) (by rfl) T.n_isinstance bb_isinstance (pa_cons (pv 0) (pa_cons (pe_globE (v := .ref (C 18)) rfl X.h18.gl) pa_nil))) (pa_cons (pe_callB (call_isX (a := p.1) (oe := p.2) (M.ex c hc) hz hf (List.mem_singleton.mpr rfl)) (by rfl) T.n_isinstance bb_isinstance (pa_cons (pv 0) (pa_cons (pe_globE (v := .ref (C 19)) rfl X.h19.gl) pa_nil))) pa_nil)))))))))))), ?_⟩
    refine g_lstS (ys := [.bl (decide (c = 0)), .bl (decide (c = 1)), .bl (decide (c = 2))]) (Nat.le_of_ble_eq_true rfl) (fun R r => g_is M hc (by decide) rfl ed (g_is M hc (by decide) rfl ed (g_is M hc (by decide) rfl ed r))) fun l1 o1 => ?_
    have s1 : Same H (upd H l1 (.lst [.bl (decide (c = 0)), .bl (decide (c = 1)), .bl (decide (c = 2))])) := same_new o1
    have a1 : (upd H l1 (.lst [.bl (decide (c = 0)), .bl (decide (c = 1)), .bl (decide (c = 2))])) l1 = some (.lst [.bl (decide (c = 0)), .bl (decide (c = 1)), .bl (decide (c = 2))]) := upd_same
    refine g_catS (ys := [.bl (decide (c = 3)), .bl (decide (c = 4)), .bl (decide (c = 5))]) rfl s1 a1 (Nat.le_of_ble_eq_true rfl) (Nat.le_of_ble_eq_true rfl) (fun R r => g_is M hc (by decide) rfl (s1 _ _ ed) (g_is M hc (by decide) rfl (s1 _ _ ed) (g_is M hc (by decide) rfl (s1 _ _ ed) r))) fun l2 H2 s2 o2 a2 => ?_
    refine g_catS (ys := [.bl (decide (c = 6)), .bl (decide (c = 7)), .bl (decide (c = 8))]) rfl s2 a2 (Nat.le_of_ble_eq_true rfl) (Nat.le_of_ble_eq_true rfl) (fun R r => g_is M hc (by decide) rfl (s2 _ _ ed) (g_is M hc (by decide) rfl (s2 _ _ ed) (g_is M hc (by decide) rfl (s2 _ _ ed) r))) fun l3 H3 s3 o3 a3 => ?_
    refine g_catS (ys := [.bl (decide (c = 9)), .bl (decide (c = 10)), .bl (decide (c = 11))]) rfl s3 a3 (Nat.le_of_ble_eq_true rfl) (Nat.le_of_ble_eq_true rfl) (fun R r => g_is M hc (by decide) rfl (s3 _ _ ed) (g_is M hc (by decide) rfl (s3 _ _ ed) (g_is M hc (by decide) rfl (s3 _ _ ed) r))) fun l4 H4 s4 o4 a4 => ?_
    refine g_catS (ys := [.bl (decide (c = 12)), .bl (decide (c = 13)), .bl (decide (c = 14))]) rfl s4 a4 (Nat.le_of_ble_eq_true rfl) (Nat.le_of_ble_eq_true rfl) (fun R r => g_is M hc (by decide) rfl (s4 _ _ ed) (g_is M hc (by decide) rfl (s4 _ _ ed) (g_is M hc (by decide) rfl (s4 _ _ ed) r))) fun l5 H5 s5 o5 a5 => ?_
    refine g_catS (ys := [.bl (decide (c = 15)), .bl (decide (c = 16)), .bl (decide (c = 17))]) rfl s5 a5 (Nat.le_of_ble_eq_true rfl) (Nat.le_of_ble_eq_true rfl) (fun R r => g_is M hc (by decide) rfl (s5 _ _ ed) (g_is M hc (by decide) rfl (s5 _ _ ed) (g_is M hc (by decide) rfl (s5 _ _ ed) r))) fun l6 H6 s6 o6 a6 => ?_
    exact g_cat (ys := [.bl (decide (c = 18)), .bl (decide (c = 19))]) rfl s6 a6 (Nat.le_of_ble_eq_true rfl) (Nat.le_of_ble_eq_true rfl) (fun R r => g_is M hc (by decide) rfl (s6 _ _ ed) (g_is M hc (by decide) rfl (s6 _ _ ed) r)) fun l7 H7 s7 o7 a7 => k l7 H7 s7 o7 a7

/-! of lcs.tpl: what the texts need -/
theorem Paired.snocP {α β : Type} {F : α → β → Prop} : ∀ {l₁ : List α} {l₂ : List β} {a : α} {b : β}, Paired F l₁ l₂ → F a b → Paired F (l₁ ++ [a]) (l₂ ++ [b])
  | _, _, _, _, .nil, h => .cons h .nil
  | _, _, _, _, .cons r t, h => .cons r (Paired.snocP t h)
theorem Paired.at {α β : Type} {F : α → β → Prop} {xs : List α} {ys : List β} (hp : Paired F xs ys) : ∀ {i : Nat} {x : α}, xs[i]? = some x → ∃ y, ys[i]? = some y ∧ F x y := by
  induction hp with
  | nil => intro i x h; simp at h
  | cons r t ih =>
    intro i x h
    cases i with
    | zero => cases h; exact ⟨_, rfl, r⟩
    | succ j => exact ih h
/-- tuples stay -/
def TSame (H H' : Hp) : Prop := ∀ b xs, H b = some (.tup xs) → H' b = some (.tup xs)
theorem TSame.of {H H' : Hp} (s : Same H H') : TSame H H' := fun b xs e => s b _ e
theorem TSame.trans {H H1 H2 : Hp} (a : TSame H H1) (b : TSame H1 H2) : TSame H H2 := fun x xs e => b x xs (a x xs e)
/-- each step gives some y with P i y; the steps lay new objects down -/
theorem lc_rel {J : It} {n : Nat} {G : Hp → Prop} {Y : Nat → Hp → V → Hp → Prop} (w : Walk J n G Y) {g : TG} {te : TE} {vs : List Nat} {σ : L2.St} {H1 : Hp} {D : Addr} {Qd : Hp → Prop} (P : Nat → V → Hp → Prop) (hP : ∀ i y H H', TSame H H' → P i y H → P i y H') (hD : H1 D = none) (hn : n ≤ 1000) (hG : ∀ H, Same H1 H → G H)
    (hs : ∀ i x H H' (k : VK), i < n → Same H1 H → Y i H x H' → (∀ y H4, Same H H4 → P i y H4 → k y H4) → g x (wipe σ vs) H' fun σ2 H2 => wipe σ2 vs = wipe σ vs ∧ te σ2 H2 k)
    (hd : ∀ ys H, Same H1 H → H D = some (.lst ys) → ys.length = n → (∀ i y, ys[i]? = some y → P i y H) → Qd H) :
    ∃ W : Nat → Nat → Hp → Prop, (∃ m, W 0 m (upd H1 D (.lst []))) ∧ ∀ i m H, W i m H →
      (J.stop i H ∧ Qd H) ∨ (J.go i H ∧ ∃ Nx : Hp → Prop, (∀ H', Nx H' → ∃ m', m' < m ∧ W (i + 1) m' H') ∧ ∀ x H', J.yld i H x H' → g x (wipe σ vs) H' fun σ2 H2 => wipe σ2 vs = wipe σ vs ∧ tYes σ2 H2 fun b H3 =>
        if b = true then te σ2 H3 fun y H4 => ∃ acc, H4 D = some (.lst acc) ∧ acc.length < sizeLine ∧ Nx (upd H4 D (.lst (acc ++ [y]))) else Nx H3) := by
  refine lc_it w (fun i H => Same H1 H ∧ ∃ ys, H D = some (.lst ys) ∧ ys.length = i ∧ ∀ j y, ys[j]? = some y → P j y H) ⟨same_new hD, [], upd_same, rfl, fun j y z => by simp at z⟩ (fun i H _ h => hG H h.1) (fun i x H H' hi ⟨s1, ys, e1, l1, p1⟩ y => ?_) (fun H ⟨s1, ys, e1, l1, p1⟩ => hd ys H s1 e1 l1 p1)
  refine hs i x H H' _ hi s1 y fun y H4 s4 p4 => ?_
  have t4 : TSame H4 (upd H4 D (.lst (ys ++ [y]))) := fun b xs z => by
    rw [upd_ne (ne_of z (s4 _ _ e1) (fun q => by cases q))]
    exact z
  refine ⟨ys, s4 _ _ e1, small1000 (by omega), fun b o z => ?_, ys ++ [y], upd_same, by rw [List.length_append, l1]; rfl, fun j z hz => ?_⟩
  · rw [upd_ne (ne_of_none z hD)]
    exact s4 b o (s1 b o z)
  · by_cases hj : j < ys.length
    · rw [List.getElem?_append_left hj] at hz
      exact hP _ _ _ _ ((TSame.of s4).trans t4) (p1 j z hz)
    · rw [List.getElem?_append_right (by omega)] at hz
      have hj' : j - ys.length = 0 := by
        have q := (List.getElem?_eq_some_iff.mp hz).1
        simp at q
        omega
      rw [hj'] at hz
      cases hz
      obtain rfl : j = i := by omega
      exact hP _ _ _ _ t4 p4
/-- each step gives f i -/
theorem lc_map {J : It} {n : Nat} {G : Hp → Prop} {Y : Nat → Hp → V → Hp → Prop} (w : Walk J n G Y) {g : TG} {te : TE} {vs : List Nat} {σ : L2.St} {H1 : Hp} {D : Addr} {Qd : Hp → Prop} (f : Nat → V) (hD : H1 D = none) (hn : n ≤ 1000) (hG : ∀ H, Same H1 H → G H)
    (hs : ∀ i x H H' (k : VK), i < n → Same H1 H → Y i H x H' → (∀ H4, Same H H4 → k (f i) H4) → g x (wipe σ vs) H' fun σ2 H2 => wipe σ2 vs = wipe σ vs ∧ te σ2 H2 k)
    (hd : ∀ H, Same H1 H → H D = some (.lst ((List.range n).map f)) → Qd H) :
    ∃ W : Nat → Nat → Hp → Prop, (∃ m, W 0 m (upd H1 D (.lst []))) ∧ ∀ i m H, W i m H →
      (J.stop i H ∧ Qd H) ∨ (J.go i H ∧ ∃ Nx : Hp → Prop, (∀ H', Nx H' → ∃ m', m' < m ∧ W (i + 1) m' H') ∧ ∀ x H', J.yld i H x H' → g x (wipe σ vs) H' fun σ2 H2 => wipe σ2 vs = wipe σ vs ∧ tYes σ2 H2 fun b H3 =>
        if b = true then te σ2 H3 fun y H4 => ∃ acc, H4 D = some (.lst acc) ∧ acc.length < sizeLine ∧ Nx (upd H4 D (.lst (acc ++ [y]))) else Nx H3) := by
  refine lc_rel w (fun i y _ => y = f i) (fun _ _ _ _ _ h => h) hD hn hG (fun i x H H' k hi s1 y kk => hs i x H H' k hi s1 y fun H4 s4 => kk _ H4 s4 rfl) fun ys H s1 e1 l1 p1 => hd H s1 ?_
  rw [e1]
  congr 2
  refine List.ext_getElem? fun j => ?_
  by_cases hj : j < n
  · rw [List.getElem?_map, List.getElem?_range hj]
    obtain ⟨y, hy⟩ : ∃ y, ys[j]? = some y := ⟨ys[j], by simp [l1, hj]⟩
    rw [hy, p1 j y hy]
    rfl
  · rw [List.getElem?_eq_none (by omega), List.getElem?_eq_none (by rw [List.length_map, List.length_range]; omega)]
theorem range_map {α β : Type} (l : List α) (F : α → β) (f : Nat → β) (h : ∀ (i : Nat) (x : α), l[i]? = some x → f i = F x) : (List.range l.length).map f = l.map F := by
  refine List.ext_getElem? fun j => ?_
  by_cases hj : j < l.length
  · rw [List.getElem?_map, List.getElem?_range hj, List.getElem?_map, List.getElem?_eq_getElem hj]
    exact congrArg some (h j _ (List.getElem?_eq_getElem hj))
  · rw [List.getElem?_eq_none (by rw [List.length_map, List.length_range]; omega), List.getElem?_eq_none (by rw [List.length_map]; omega)]

/-! ### text += text; sign * n -/
section
variable {X : Cx}
theorem ip_addS : PIp X .Add (fun x y H Q => ∃ i j, x = .str i ∧ y = .str j ∧ i.length + j.length ≤ sizeLine ∧ Q (.str (i ++ j)) H) := by
  intro pins s σ H x y v u Q I r1 r2 h
  obtain ⟨i, j, e1, e2, hz, q⟩ := h
  subst e1; subst e2
  obtain ⟨t, rfl⟩ := r1
  obtain ⟨t', rfl⟩ := r2
  exact SB.iadd (fun t' k => ⟨.str _, H, I.tok _, ⟨_, rfl⟩, q⟩) hz
theorem fold_rep (c : Nat) : ∀ (n : Nat) (acc : Array Nat), (List.replicate n (#[c] : Array Nat)).foldl (· ++ ·) acc = acc ++ (List.replicate n c).toArray
  | 0, acc => by simp
  | n + 1, acc => by
    rw [List.replicate_succ, List.foldl_cons, fold_rep c n, List.replicate_succ]
    apply Array.ext'
    simp
theorem op_repS : OpR X (binaryOp .Mult) (fun x y H Q => ∃ (c n : Nat), x = .str ⟨#[c]⟩ ∧ y = .int (n : Nat) ∧ n ≤ 1000 ∧ Q (.str ⟨(List.replicate n c).toArray⟩) H) := by
  intro pins s σ H x y v u Q I rx ry h
  obtain ⟨c, n, rfl, rfl, hn, q⟩ := h
  obtain ⟨t, rfl⟩ := rx
  obtain ⟨t', rfl⟩ := ry
  have e1 : ((⟨#[c]⟩ : Str)).length = 1 := rfl
  refine P.mul_str (by rw [decide_eq_false (by omega), decide_eq_false (by omega)]; rfl) (fun h1 h2 => ?_) (fun h1 h2 => ?_) ?_
  · rw [e1]
    have : (1 : Int) ≤ (2 ^ 63 - 1) / (n : Int) := by
      rw [Int.le_ediv_iff_mul_le (by omega)]
      omega
    omega
  · rw [e1]
    unfold Builtin.Str.tooLong
    refine decide_eq_false ?_
    rw [Int.toNat_natCast, Nat.one_mul]
    show ¬ n > 2 ^ 24
    omega
  · rcases Nat.lt_or_ge n 1 with h0 | h0
    · have en : n = 0 := by omega
      subst en
      rw [if_pos (by decide)]
      exact ⟨by decide, .str _, H, I.tok _, ⟨_, rfl⟩, q⟩
    · rw [if_neg (by omega)]
      rcases Nat.lt_or_ge n 2 with h1 | h1
      · have en : n = 1 := by omega
        subst en
        rw [if_pos (show (((1 : Nat) : Int) == 1 || _) = true from rfl)]
        exact ⟨.str _, H, I, ⟨_, rfl⟩, q⟩
      · have e2 : (((n : Nat) : Int) == 1 || (⟨#[c]⟩ : Str).length == 0) = false := by
          rw [e1]
          have : (((n : Nat) : Int) == 1) = false := by rw [beq_eq_false_iff_ne]; omega
          rw [this]
          rfl
        rw [if_neg (by rw [e2]; decide), Int.toNat_natCast]
        have e3 : (⟨(List.replicate n (⟨#[c]⟩ : Str).cps).foldl (· ++ ·) #[]⟩ : Str) = ⟨(List.replicate n c).toArray⟩ := by
          show (⟨(List.replicate n (#[c] : Array Nat)).foldl (· ++ ·) #[]⟩ : Str) = _
          rw [fold_rep, Array.empty_append]
        rw [e3]
        refine ⟨?_, .str _, H, I.tok _, ⟨_, rfl⟩, q⟩
        show (List.replicate n c).toArray.size ≤ 2 ^ 24
        rw [List.size_toArray, List.length_replicate]
        omega
end

/-! ### the law -/
theorem bb_ValueError : bootBuiltins "ValueError" = some (.type "ValueError") := by decide +kernel
theorem bb_KeyError : bootBuiltins "KeyError" = some (.type "KeyError") := by decide +kernel
theorem bb_RuntimeError : bootBuiltins "RuntimeError" = some (.type "RuntimeError") := by decide +kernel
/-- isinstance(e, c) in a suite that takes several classes -/
def rIsXG (K : PySem.W.Frag) (cls : Value) (d : Option Addr) (a : Addr) : List V → Hp → VK → Prop := fun xs H Q => ∃ D dd : Addr, cls = .ref D ∧ d = some dd ∧ ExcC K D ∧ rIsX K D a dd xs H Q
theorem call_isXG {X : Cx} {a : Addr} {cls : Value} {d : Option Addr} {oe : Obj} (hz : L2N.Zn cls d oe) (hf : ∃ vs, oe.data = .fields vs) (hp : (a, oe) ∈ X.pn) : CallR X (.builtin "isinstance") (rIsXG X.K cls d a) := by
  intro pins s σ H xs us Q I r h
  obtain ⟨D, dd, rfl, rfl, C, h⟩ := h
  exact call_isX C hz hf hp pins s σ H xs us Q I r h
/-- a def under its name, to be called where an error is handled -/
structure HasP (P : Program) (w : World) (K : PySem.W.Frag) (mg : Str → Option Value) (base : Heap) (k : Nat) (x : Str) (ps : List Str) (sp : Addr × Obj → Sp) : Prop where
  ex : ∃ (f : Addr) (fd : FuncData), FnP P w K mg base k f fd ps sp ∧ mg x = some (.ref f) ∧ PySem.W.keepIn K (.ref f) = true ∧ Binds K fd ps []
/-- f(e, ..), e the error of the suite -/
def tCallPG (sp : Addr × Obj → Sp) (a : Addr) (cls : Value) (d : Option Addr) (t : TA) : TE := fun σ H Q => t σ H fun vs H1 => ∀ oe, L2N.Zn cls d oe → (∃ vs, oe.data = .fields vs) → sp (a, oe) vs H1 Q (fun _ _ _ => False)
open L2H PyProof.Rows in
theorem pe_callPG {X : Cx} {k : Nat} {ps : List Str} {sp : Addr × Obj → Sp} {x : Str} {q pos : Pos} {e : Expr} {es : List Expr} {t : TA} {a : Addr} {oe : Obj} {cls : Value} {d : Option Addr} (F : HasP X.prog X.w X.K X.mg X.base k x ps sp) (hr : RoomH k X.A) (hot : Hot1 X.A (a, oe)) (hz : L2N.Zn cls d oe) (hf : ∃ vs, oe.data = .fields vs) (hp : (a, oe) ∈ X.pn) (hg : Gl X x) (ha : PA X (e :: es) t)
    (hdb : (x == ("__debug__" : Str)) = false := by decide) (he : starEach (e :: es) X.env = (false, eval e X.env) :: starEach es X.env := by rfl) (hpl : (backTo pos (starEach es X.env)).any (·.1) = false := by rfl) : PE X (.Call (.Name x q) (e :: es) [] pos) (tCallPG sp a cls d t) := by
  obtain ⟨f, fd, F, hm, hk, hb⟩ := F.ex
  refine ⟨fun pins s σ H Q I h => wpAny_Call_Name_kw (ld_glob I hg hm (PySem.W.callWith_K (h₀ := X.base) I.ok.mod.kin hk (thn (ha.run pos pins s σ H _ I h) fun us s1 ⟨vs, H1, I1, r, q⟩ => ⟨I1.kIn, ?_⟩) he hpl) hdb)⟩
  have q := q oe hz hf
  have b := hb s1 us I1.kIn (by rw [List.append_nil, ← r.length]; exact F.len _ _ _ _ _ q)
  rw [List.append_nil] at b
  have P1 := I1.pin (a, oe) (List.mem_append_left _ hp)
  show wpAny _ _ (call (.ref f) us) _ _ _
  refine wpAny_call (codeAny_mono (F.run X.A X.stack s1 H1 us vs Q (fun _ _ _ => False) (a, oe) hr hot ⟨P1.1, P1.2.1, fun hm => (List.mem_cons.mp (I1.stkSub a hm)).elim P1.2.2.1 P1.2.2.2.1, P1.2.2.2.2⟩ I1.env0 b r q) fun r s' hq => ?_)
  cases r with
  | error e => exact hq.elim
  | ok fl =>
    cases fl with
    | ret u => exact I1.after hq
    | next => exact hq.elim
    | brk => exact hq.elim
    | cont => exact hq.elim
theorem exm1 {K : PySem.W.Frag} {cls c : Value} {b : Bool} (h : PySem.W.exmOne K cls c = some b) : PySem.W.exmAny K cls [c] = some b := by
  unfold PySem.W.exmAny
  rw [h]
  cases b <;> rfl
theorem pair_bl {K : PySem.W.Frag} {H : Hp} (f : Nat → Bool) : ∀ l : List Nat, Paired (EqV K H 1) (l.map fun j => V.bl (f j)) (l.map fun j => V.bl (f j))
  | [] => .nil
  | j :: r => .cons (.inl ⟨rfl, rfl⟩) (pair_bl f r)
theorem g_end {K : PySem.W.Frag} {C : Nat → Addr} {c : Nat} {dd a : Addr} {x0 x1 x3 x5 : Option V} {H : Hp} {fs : List (Str × V)} {Q : VK} (hc : c < 20) (ed : H dd = some (.xd fs)) (k : ∀ H', Q (.bl true) H') :
    tOp (rEqV K) (tCallPG (spKinds C) a (.ref (C c)) (some dd) (tCons (tVar 4) tNil)) (tLc (iRng1 (tCons (tC (V.int 20)) tNil)) (gName 5) tYes (tOp rEq (tVar 5) (tVar 2)) [5]) ([x0, x1, some (.int (c : Int)), x3, some (.ref a), x5] : L2.St) H Q := by
  refine ⟨_, rfl, fun oe hz hf => ⟨c, dd, fs, hc, rfl, hz, hf, ed, fun t H1 s1 o1 e1 => ?_⟩⟩
  refine ⟨20, rfl, by decide, by decide, fun D hD => lc_map (walk_range (lo := 0) (n := 20)) (fun i => .bl (decide (c = i))) hD (by decide) (fun _ _ => True.intro) (fun i x H2 H3 kk hi s2 y q => ?_) fun H2 s2 e2 => ?_⟩
  · obtain ⟨rfl, rfl⟩ := y
    refine ⟨rfl, _, rfl, _, rfl, rfl, ?_⟩
    have e : decide (V.int (0 + (i : Int)) = V.int (c : Int)) = decide (c = i) := by
      by_cases z : c = i
      · subst z; rw [decide_eq_true rfl]; exact decide_eq_true (by rw [Int.zero_add])
      · rw [decide_eq_false z]; exact decide_eq_false fun w => z (by have := V.int.inj w; omega)
    rw [e]
    exact q _ fun _ _ z => z
  · exact ⟨1, by decide, .inl ⟨t, D, _, _, rfl, rfl, SqL.of (s2 _ _ e1), SqL.of e2, pair_bl (fun j => decide (c = j)) _⟩, k _⟩
abbrev sLaw : Stmt := topS 30
abbrev NLaw : List Str := ["_law_script", "_law_pool_here", "_law_choice", "_law_value", "_law_e", "_law_k"]
abbrev PLaw : List Str := ["_law_script"]
theorem scLaw : FnScope NLaw PLaw (defScope sLaw) := ⟨rfl, rfl, rfl, by decide +kernel, rfl, by decide +kernel, by decide +kernel⟩
def spLaw (K : PySem.W.Frag) : Sp := fun vs H Q _ => ∃ (a : Addr) (ns : List Int), vs = [.ref a] ∧ SqL K H a (ns.map V.int) ∧ ns.length ≤ 63 ∧ ∀ H', Q (.bl true) H'
theorem ok_Law {P : Program} {w : World} {K : PySem.W.Frag} {mg : Str → Option Value} {base : Heap} {C : Nat → Addr} {CP f : Addr} {fd : FuncData} (F : Fun K "law" "law" sLaw f fd) (T : TxE mg) (gP : mg "ProgramError" = some (.ref CP)) (X : ErrH P w K mg base C) (M : ErrM K C CP)
    (GP : Has P w K mg base CX0 1 "_law_pool" PPool (spPool K)) (GD : Has P w K mg base CX0 2 "_law_draw" PDraw spDraw) (GF : Has P w K mg base (L2N.CX P w) 4 "_law_first" PFirst (spErr 0 C)) (GE : Has P w K mg base CX0 5 "_law_field" PField spField) (GK : HasP P w K mg base 1 "_law_kinds" PKinds (spKinds C)) :
    FnOk P w K mg base CX0 6 f fd PLaw (spLaw K) := by
  refine F.ok scLaw (fun vs H Q E h => ?_) (fun cdv A outer s H vs Q E hr h => ?_)
  · obtain ⟨a, ns, rfl, _⟩ := h; rfl
  · obtain ⟨a, ns, rfl, hS, hl, k⟩ := h
    refine ⟨_, (pss_cons (ps_set (i := 1) scLaw.nd rfl (Or.inl rfl) (pe_callH GP (hr.mono (by decide)) rfl pass0 (pa_cons (pv 0) pa_nil)))
  (pss_cons (ps_set (i := 2) scLaw.nd rfl (Or.inr rfl) (pe_callH GD (hr.mono (by decide)) rfl pass0 (pa_cons (pv 1) (pa_cons pe_int pa_nil))))
  (pss_cons (ps_set (i := 3) scLaw.nd rfl (Or.inl rfl) (pe_ix (r := rIxL K) ix_list (pe_lst (pa_cons (pe_callH GD (hr.mono (by decide)) rfl pass0 (pa_cons (pv 1) (pa_cons (pe_op op_pow pe_int pe_int) pa_nil))) (pa_cons (pe_op op_repS pe_str (pe_callH GD (hr.mono (by decide)) rfl pass0 (pa_cons (pv 1) (pa_cons pe_int pa_nil)))) pa_nil))) (pe_callH GD (hr.mono (by decide)) rfl pass0 (pa_cons (pv 1) (pa_cons pe_int pa_nil))) (fun _ _ => rfl)))
  (pss_cons (ps_if (pt_cmpR op_ne (pe_callH GE hr rfl pass0 (pa_cons (pv 2) (pa_cons (pv 3) pa_nil))) (pv 3) (nomark _))
  (pss_one (ps_ret pe_bl))
  pss_nil)
  (pss_cons (ps_tryX (Wout := fun _ _ _ _ => False) rfl rfl scLaw.nd (fun _ _ x => by obtain ⟨_, _, _, _, _, _, _, _, _, _, _, _, _, _, _, _, z⟩ := x; exact z) (fun W pn xe tk _ => pss_one (ps_expr (pe_callSH GF (hr.mono (by decide)) rfl (L2N.passAt tk) (pa_cons (pv 2) (pa_cons (pv 3) pa_nil)))))
 (.named (i := 4) (.one ⟨rfl, by decide, .inl gP⟩) rfl rfl (fun a oe cls d pn hz hf => pss_one (ps_ret (pe_and (pe_cmpR op_lt (pv 2) pe_int (nomark _)) (pe_and (pe_callB (r := rIsXG K cls d a) (call_isXG hz hf List.mem_cons_self) (by rfl) T.n_isinstance bb_isinstance (pa_cons (pv 4) (pa_cons (pe_bltn (v := .ty "ValueError") (by rfl) T.n_ValueError bb_ValueError rfl) pa_nil))) (pe_one (pe_cmpR (r := rEqV K) (op_eqV hr.units) (pe_callPG GK ⟨(hr.mono (by decide : 1 ≤ 5)).dp, (hr.mono (by decide : 1 ≤ 5)).un⟩ (hot_suite hz hf) hz hf List.mem_cons_self rfl (pa_cons (pv 4) pa_nil)) (pe_lcP (own := [("_law_k", 5)]) (g := gName 5) (hot_suite hz hf) List.mem_cons_self scLaw.nd (L2H.pi_range1H (by rfl) T.n_range (pa_cons pe_int pa_nil)) (blkOk_by (own := [("_law_k", 5)]) (N := NLaw) (sc := (defScope sLaw)) (by decide +kernel)) (fun _ _ _ _ _ => pg_name (i := 5) scLaw.nd rfl (Or.inl rfl)) (fun _ _ _ _ _ => pe_cmpR op_eq (pv 5) (pv 2) (nomark _))) (nomark _)))))))
 (.named (i := 4) (.one ⟨rfl, by decide, .inl X.h18.mg⟩) rfl rfl (fun a oe cls d pn hz hf => pss_one (ps_ret (pe_and (pe_cmpR op_eq (pv 2) pe_int (nomark _)) (pe_and (pe_callB (r := rIsXG K cls d a) (call_isXG hz hf List.mem_cons_self) (by rfl) T.n_isinstance bb_isinstance (pa_cons (pv 4) (pa_cons (pe_bltn (v := .ty "KeyError") (by rfl) T.n_KeyError bb_KeyError rfl) pa_nil))) (pe_one (pe_cmpR (r := rEqV K) (op_eqV hr.units) (pe_callPG GK ⟨(hr.mono (by decide : 1 ≤ 5)).dp, (hr.mono (by decide : 1 ≤ 5)).un⟩ (hot_suite hz hf) hz hf List.mem_cons_self rfl (pa_cons (pv 4) pa_nil)) (pe_lcP (own := [("_law_k", 5)]) (g := gName 5) (hot_suite hz hf) List.mem_cons_self scLaw.nd (L2H.pi_range1H (by rfl) T.n_range (pa_cons pe_int pa_nil)) (blkOk_by (own := [("_law_k", 5)]) (N := NLaw) (sc := (defScope sLaw)) (by decide +kernel)) (fun _ _ _ _ _ => pg_name (i := 5) scLaw.nd rfl (Or.inl rfl)) (fun _ _ _ _ _ => pe_cmpR op_eq (pv 5) (pv 2) (nomark _))) (nomark _)))))))
 (.named (i := 4) (.one ⟨rfl, by decide, .inl X.h19.mg⟩) rfl rfl (fun a oe cls d pn hz hf => pss_one (ps_ret (pe_and (pe_cmpR op_eq (pv 2) pe_int (nomark _)) (pe_and (pe_callB (r := rIsXG K cls d a) (call_isXG hz hf List.mem_cons_self) (by rfl) T.n_isinstance bb_isinstance (pa_cons (pv 4) (pa_cons (pe_bltn (v := .ty "RuntimeError") (by rfl) T.n_RuntimeError bb_RuntimeError rfl) pa_nil))) (pe_one (pe_cmpR (r := rEqV K) (op_eqV hr.units) (pe_callPG GK ⟨(hr.mono (by decide : 1 ≤ 5)).dp, (hr.mono (by decide : 1 ≤ 5)).un⟩ (hot_suite hz hf) hz hf List.mem_cons_self rfl (pa_cons (pv 4) pa_nil)) (pe_lcP (own := [("_law_k", 5)]) (g := gName 5) (hot_suite hz hf) List.mem_cons_self scLaw.nd (L2H.pi_range1H (by rfl) T.n_range (pa_cons pe_int pa_nil)) (blkOk_by (own := [("_law_k", 5)]) (N := NLaw) (sc := (defScope sLaw)) (by decide +kernel)) (fun _ _ _ _ _ => pg_name (i := 5) scLaw.nd rfl (Or.inl rfl)) (fun _ _ _ _ _ => pe_cmpR op_eq (pv 5) (pv 2) (nomark _))) (nomark _))))))) .nil))))
  (pss_one (ps_ret pe_bl))))))), ?_⟩
    refine ⟨_, rfl, a, ns, rfl, hS, hl, fun p pc H1 s1 np nc hP => ?_⟩
    refine ⟨_, rfl, p, pc, _, _, _, rfl, hP, by decide, by decide, by decide, fun c1 H2 c0 c20 hP2 b2 => ?_⟩
    obtain ⟨c, rfl⟩ : ∃ c : Nat, c1 = (c : Int) := ⟨c1.toNat, by omega⟩
    have hc : c < 20 := by omega
    refine ⟨_, rfl, _, _, rfl, rfl, ⟨by decide, by decide, by decide⟩, p, pc, _, _, _, rfl, hP2, by decide, by decide, by decide, fun z H3 _ _ hP3 b3 => ?_⟩
    refine ⟨_, rfl, p, pc, _, _, _, rfl, hP3, by decide, by decide, by decide, fun n1 H4 n0 n5 hP4 b4 => ?_⟩
    obtain ⟨n, rfl⟩ : ∃ n : Nat, n1 = (n : Int) := ⟨n1.toNat, by omega⟩
    refine ⟨_, n, rfl, rfl, by omega, by show 2 ≤ _; rw [sizeLine_eq]; omega, fun l ol => ?_⟩
    refine ⟨_, rfl, p, pc, _, _, _, rfl, hP4.upd (hP4.ne1 ol) (hP4.ne2 ol), by decide, by decide, by decide, fun r H5 r0 r2 hP5 b5 => ?_⟩
    have el := b5 l _ upd_same (hP4.ne1 ol) (hP4.ne2 ol)
    obtain ⟨v, ev, mv⟩ := atI_in (xs := [V.int z, V.str ⟨(List.replicate n _).toArray⟩]) r0 (by show r < 2; omega)
    have sv : scal v v = true := by
      rcases List.mem_cons.mp mv with rfl | mv
      · rfl
      · rw [List.mem_singleton.mp mv]; rfl
    refine ⟨l, _, _, v, rfl, rfl, SqL.of el, ev, ?_⟩
    refine ⟨_, rfl, _, rfl, c, v, rfl, hc, fun d hd => ⟨_, rfl, sv, _, rfl, iteE (by simp) ?_⟩⟩
    refine ⟨_, rfl, _, rfl, c, v, rfl, Nat.zero_le _, hc, fun d2 hd2 => ?_⟩
    refine ⟨_, exm1 (M.prg c hc), fun e ad na => ?_, fun e => ⟨_, exm1 (M.one c 18 hc (by decide)), fun e ad na => ?_, fun e2 => ⟨_, exm1 (M.one c 19 hc (by decide)), fun e ad na => ?_, fun e3 => ?_⟩⟩⟩
    · have h := of_decide_eq_true e
      exact ⟨_, rfl, _, _, rfl, rfl, _, rfl, iteS (decide_eq_true (by omega)) ⟨_, rfl, C c, d2, rfl, rfl, M.ex c hc, _, _, _, _, rfl, fun u r => r, M.kV c hc, upd_same, _, rfl, iteS e (g_end hc upd_same k)⟩⟩
    · have h := of_decide_eq_true e
      subst h
      exact ⟨_, rfl, rfl, _, rfl, iteS rfl ⟨_, rfl, C 18, d2, rfl, rfl, M.ex 18 hc, _, _, _, _, rfl, fun u r => r, M.kK 18 hc, upd_same, _, rfl, iteS rfl (g_end hc upd_same k)⟩⟩
    · have h := of_decide_eq_true e
      subst h
      exact ⟨_, rfl, rfl, _, rfl, iteS rfl ⟨_, rfl, C 19, d2, rfl, rfl, M.ex 19 hc, _, _, _, _, rfl, fun u r => r, M.kR 19 hc, upd_same, _, rfl, iteS rfl (g_end hc upd_same k)⟩⟩
    · have h1 := of_decide_eq_false e; have h2 := of_decide_eq_false e2; have h3 := of_decide_eq_false e3
      omega

/-! ### what the written part says of the classes -/
structure XcK (K : PySem.W.Frag) (C : Addr) (bm : List Value) (newId : String) (f : Str) : Prop where
  lk : ∃ nm q N bs sn sub ab col dd k0 k1 k2 k3 k5, K.lookup C = some (excClassObj nm q C N bs bm true sn sub ab col dd k0 k1 k2 k3 k5 newId)
  sa : PySem.W.findIn K (.ref C) "__setattr__" = some (some (.builtin "object.__setattr__"))
  kc : PySem.W.keepIn K (.ref C) = true
  no : PySem.W.findIn K (.ref C) f = some none
  ga : PySem.W.findIn K (.ref C) "__getattribute__" = some (some (.builtin "BaseException.__getattribute__"))
  gg : PySem.W.findIn K (.ref C) "__getattr__" = some none
  ca : PySem.W.findIn K (.ref C) "__class__" = some (some (.builtin "object.__class__"))
section
variable {K : PySem.W.Frag} {C : Addr} {bm bmB : List Value} {newId : String} {f : Str}
theorem lk_cls {nm q N bs sn sub ab col dd k0 k1 k2 k3 k5} (h : K.lookup C = some (excClassObj nm q C N bs bm true sn sub ab col dd k0 k1 k2 k3 k5 newId)) : ∃ cd, PySem.W.clsIn K C = some cd ∧ cd.mro = .ref C :: bm ∧ cd.hasDict = true :=
  ⟨_, by unfold PySem.W.clsIn; rw [h], rfl, rfl⟩
theorem XcK.cls (T : XcK K C bm newId f) : ∃ cd, PySem.W.clsIn K C = some cd ∧ cd.mro = .ref C :: bm ∧ cd.hasDict = true := by
  obtain ⟨_, _, _, _, _, _, _, _, _, _, _, _, _, _, h⟩ := T.lk
  exact lk_cls h
theorem sub_cls (h : ∃ cd, PySem.W.clsIn K C = some cd ∧ cd.mro = .ref C :: bm ∧ cd.hasDict = true) (x : Value) : PySem.W.subIn K (.ref C) x = some ((Value.ref C :: bm).contains x) := by
  obtain ⟨cd, e, m, _⟩ := h
  show PySem.W.mroIn K C x = _
  unfold PySem.W.mroIn
  rw [e, Option.bind_some, m]
  rfl
theorem XcK.ty (T : XcK K C bm newId f) : PySem.W.typeIn K (.ref C) = some (.type "type") := by
  obtain ⟨_, _, _, _, _, _, _, _, _, _, _, _, _, _, h⟩ := T.lk
  show (K.lookup C).map (·.cls) = _
  rw [h]; rfl
theorem XcK.hd (T : XcK K C bm newId f) : PySem.W.hasDictIn K C = true := by
  obtain ⟨cd, e, _, d⟩ := T.cls
  unfold PySem.W.hasDictIn
  rw [e]; exact d
theorem tail_has (ht : PySem.W.excTail bmB bm = true) (X : String) (h : bmB.contains (.type X) = true) : (Value.ref C :: bm).contains (.type X) = true := by
  rw [List.contains_cons, PySem.W.excTail_contains _ _ ht, h, Bool.or_true]
theorem XcK.oex (T : XcK K C bm newId f) (B : XC.Bas bmB newId) (ht : PySem.W.excTail bmB bm = true) (hb : bmB.contains (.type "BaseException") = true) : OexG K C := by
  refine ⟨⟨bmB, newId, B, ?_, ?_⟩, T.hd, T.sa, (sub_cls T.cls _).trans (by rw [tail_has ht _ hb]), T.ty, T.kc⟩
  · obtain ⟨_, _, _, _, _, _, _, _, _, _, _, _, _, _, h⟩ := T.lk
    unfold PySem.W.excInitIn
    rw [h]
    simp [ht]
  · obtain ⟨cd, e, m, _⟩ := T.cls
    unfold PySem.W.excOver
    rw [e]
    show (match cd.mro with | .ref C' :: bm => C' == C && PySem.W.excTail bmB bm | _ => false) = true
    rw [m]
    simp [ht]
theorem XcK.xf (T : XcK K C bm newId f) (ht : PySem.W.excTail bmB bm = true) (hb : bmB.contains (.type "BaseException") = true) : XfC K C := ⟨T.ga, T.gg, (sub_cls T.cls _).trans (by rw [tail_has ht _ hb]), T.hd⟩
theorem XcK.ex (T : XcK K C bm newId f) (ht : PySem.W.excTail bmB bm = true) (hb : bmB.contains (.type "BaseException") = true) (ho : bmB.contains (.type "object") = true)
    (sp : PySem.W.specialIn K (.builtin "object.__class__") "__get__" = some (some (.builtin "getset_descriptor.__get__"))) (tk : PySem.W.takesIn K (.builtin "object.__class__") = some true) : ExcC K C :=
  ⟨T.ga, T.gg, (sub_cls T.cls _).trans (by rw [tail_has ht _ hb]), T.hd, T.ca, sp, tk, (sub_cls T.cls (.type "object")).trans (by rw [tail_has ht _ ho])⟩
end
theorem nd_ix {N : List Addr} (hN : N.Nodup) {i j : Nat} {x : Addr} (a : N[i]? = some x) (b : N[j]? = some x) : i = j := by
  obtain ⟨_, e⟩ := List.getElem?_eq_some_iff.mp a; obtain ⟨_, e2⟩ := List.getElem?_eq_some_iff.mp b
  exact (List.getElem_inj hN).mp (by rw [e, e2])
/-- the mro behind the class itself, the maker -/
def bmf (CP : Addr) (i : Nat) : List Value := if i < 18 then .ref CP :: XC.tlV else if i = 18 then XC.tlK else XC.tlR
def nwf (i : Nat) : String := if i < 18 then "ValueError.__new__" else if i = 18 then "LookupError.__new__" else "RuntimeError.__new__"
def tlf (i : Nat) : List Value := if i < 18 then XC.tlV else if i = 18 then XC.tlK else XC.tlR
theorem bmf_tail (CP : Addr) (i : Nat) : PySem.W.excTail (tlf i) (bmf CP i) = true := by
  unfold tlf bmf
  split
  · show PySem.W.excTail XC.tlV XC.tlV = true
    decide +kernel
  · split <;> decide +kernel
theorem tlf_bas (i : Nat) : XC.Bas (tlf i) (nwf i) := by
  unfold tlf nwf
  split
  · exact XC.basV
  · split
    · exact XC.basK
    · exact XC.basR
theorem tlf_base (i : Nat) : (tlf i).contains (.type "BaseException") = true := by
  unfold tlf
  split
  · decide +kernel
  · split <;> decide +kernel
theorem errM {K : PySem.W.Frag} {C : Nat → Addr} {CP : Addr} (hT : ∀ i, i < 20 → XcK K (C i) (bmf CP i) (nwf i) (eFl i)) (hP : ∃ cd, PySem.W.clsIn K CP = some cd ∧ cd.mro = .ref CP :: XC.tlV ∧ cd.hasDict = true) (tP : PySem.W.typeIn K (.ref CP) = some (.type "type"))
    (nd : ∀ i j, i < 20 → j < 20 → C i = C j → i = j) (np : ∀ i, i < 20 → CP ≠ C i) (sp : PySem.W.specialIn K (.builtin "object.__class__") "__get__" = some (some (.builtin "getset_descriptor.__get__"))) (tk : PySem.W.takesIn K (.builtin "object.__class__") = some true) : ErrM K C CP := by
  have noref : ∀ x : Addr, XC.tlV.contains (.ref x) = false ∧ XC.tlK.contains (.ref x) = false ∧ XC.tlR.contains (.ref x) = false := fun x => ⟨rfl, rfl, rfl⟩
  have bmC : ∀ i j, i < 20 → j < 20 → (bmf CP i).contains (.ref (C j)) = false := fun i j hi hj => by
    unfold bmf
    split
    · rw [List.contains_cons, (noref _).1, Bool.or_false]
      exact beq_eq_false_iff_ne.mpr fun z => np j hj (Value.ref.inj z).symm
    · split
      · exact (noref _).2.1
      · exact (noref _).2.2
  have subC : ∀ i j, i < 20 → j < 20 → PySem.W.subIn K (.ref (C i)) (.ref (C j)) = some (decide (i = j)) := fun i j hi hj => by
    rw [sub_cls (hT i hi).cls, List.contains_cons, bmC i j hi hj, Bool.or_false]
    by_cases z : i = j
    · subst z; simp
    · rw [decide_eq_false z]
      exact congrArg some (beq_eq_false_iff_ne.mpr fun w => z (nd j i hj hi (Value.ref.inj w)).symm)
  have subP : ∀ i, i < 20 → PySem.W.subIn K (.ref (C i)) (.ref CP) = some (decide (i < 18)) := fun i hi => by
    rw [sub_cls (hT i hi).cls, List.contains_cons, beq_eq_false_iff_ne.mpr (fun z => np i hi (Value.ref.inj z)), Bool.false_or]
    unfold bmf
    split
    · rename_i h; rw [decide_eq_true h]; simp
    · rename_i h
      rw [decide_eq_false h]
      split
      · rw [(noref _).2.1]
      · rw [(noref _).2.2]
  have subT : ∀ (X : String) (i : Nat), i < 20 → PySem.W.subIn K (.ref (C i)) (.type X) = some ((tlf i).contains (.type X)) := fun X i hi => by
    rw [sub_cls (hT i hi).cls, List.contains_cons, PySem.W.excTail_contains _ _ (bmf_tail CP i)]
    rfl
  have kcls : ∀ (t : Value) (i : Nat), i < 20 → PySem.W.kitCls K t (.ref (C i)) = PySem.W.subIn K t (.ref (C i)) := fun t i hi => by
    obtain ⟨cd, e, _⟩ := (hT i hi).cls
    show (if ((PySem.W.clsIn K (C i)).isSome && PySem.W.typeIn K (.ref (C i)) == some (.type "type")) = true then PySem.W.subIn K t (.ref (C i)) else none) = _
    rw [e, (hT i hi).ty]
    rfl
  have isb : ∀ i, i < 20 → (PySem.W.subIn K (.ref (C i)) (.type "BaseException") == some true) = true := fun i hi => by
    rw [subT _ i hi, tlf_base]; rfl
  have kty : ∀ (X : String) (i : Nat), i < 20 → PySem.W.kitMeta X = true → PySem.W.kitOne K (.ref (C i)) (.type X) = some ((tlf i).contains (.type X)) := fun X i hi hm => by
    unfold PySem.W.kitOne
    rw [if_neg (by simp)]
    show (if PySem.W.kitMeta X = true then PySem.W.subIn K (.ref (C i)) (.type X) else none) = _
    rw [if_pos hm, subT X i hi]
  refine ⟨fun i j hi hj => ?_, fun i hi => ?_, fun i j hi hj => ?_, fun i hi => ?_, fun i hi => ?_, fun i hi => ?_, fun i hi => (hT i hi).xf (bmf_tail CP i) (tlf_base i), fun i hi => (hT i hi).ex (bmf_tail CP i) (tlf_base i) (tlf_bas i).ob sp tk, fun i hi => (hT i hi).no⟩
  · unfold PySem.W.exmOne
    rw [if_pos (isb j hj), kcls _ j hj, subC i j hi hj]
  · obtain ⟨cd, e, _⟩ := id hP
    unfold PySem.W.exmOne
    rw [if_pos (by rw [sub_cls hP]; rfl)]
    show (if ((PySem.W.clsIn K CP).isSome && PySem.W.typeIn K (.ref CP) == some (.type "type")) = true then PySem.W.subIn K (.ref (C i)) (.ref CP) else none) = _
    rw [e, tP]
    exact subP i hi
  · unfold PySem.W.kitOne
    by_cases z : i = j
    · subst z; simp
    · rw [if_neg (by simp; exact fun w => z (nd i j hi hj w)), kcls _ j hj, subC i j hi hj]
  · rw [kty _ i hi (by decide +kernel)]
    unfold tlf
    by_cases h : i < 18
    · rw [if_pos h, decide_eq_true h]; rfl
    · rw [if_neg h, decide_eq_false h]; split <;> rfl
  · rw [kty _ i hi (by decide +kernel)]
    unfold tlf
    by_cases h : i < 18
    · rw [if_pos h, decide_eq_false (by omega)]; rfl
    · rw [if_neg h]
      by_cases h2 : i = 18
      · rw [if_pos h2, decide_eq_true h2]; rfl
      · rw [if_neg h2, decide_eq_false h2]; rfl
  · rw [kty _ i hi (by decide +kernel)]
    unfold tlf
    by_cases h : i < 18
    · rw [if_pos h, decide_eq_false (by omega)]; rfl
    · rw [if_neg h]
      by_cases h2 : i = 18
      · rw [if_pos h2, decide_eq_false (by omega)]; rfl
      · rw [if_neg h2, decide_eq_true (by omega)]; rfl

theorem all_mk {l : PySem.W.OpenLaw} {w : World} {K : PySem.W.Frag} {h : Heap} {mg : Str → Option Value} {fa fSecond fFirst fField fMixed fDraw fPool fKinds fLaw CInvalidText fXI0 CInvalidSyntax fXI1 CInvalidTree fXI2 CDuplicateName fXI3 CUnknownName fXI4 CWrongArguments fXI5 CInvalidFinally fXI6 CTooLarge fXI7 CInvalidRow fXI8 CInvalidCase fXI9 CInvalidEntry fXI10 CInvalidChoices fXI11 CInvalidInjection fXI12 CInvalidOrder fXI13 CInvalidEvent fXI14 CInvalidValues fXI15 CInvalidQuestion fXI16 CInvalidCommand fXI17 CUnknownFunction fXI18 CLimitExceeded fXI19 CProgramError : Addr} (X : K.In h) (G : h.Ns mainGlobals mg) (hfa : mg "law" = some (.ref fa))
    {odSecond anSecond : Option Addr} {slSecond : Array (Option Value)} {ocSecond kVSecond dcSecond pmSecond cdSecond ctSecond : Value}
    (aSecond : PySem.W.nsIn K mainGlobals "_law_second" = some (some (.ref fSecond))) (lSecond : K.lookup fSecond = some ⟨ocSecond, odSecond, .func (PySem.W.fnOf "_law_second" "_law_second" (defArgs sSecond) (defBody sSecond) (defScope sSecond) .none kVSecond dcSecond pmSecond anSecond cdSecond ctSecond), slSecond⟩) (cSecond : PySem.W.codeIn K cdSecond "_law_second" = true) (kSecond : PySem.W.keepIn K (.ref fSecond) = true)
    {odFirst anFirst : Option Addr} {slFirst : Array (Option Value)} {ocFirst kVFirst dcFirst pmFirst cdFirst ctFirst : Value}
    (aFirst : PySem.W.nsIn K mainGlobals "_law_first" = some (some (.ref fFirst))) (lFirst : K.lookup fFirst = some ⟨ocFirst, odFirst, .func (PySem.W.fnOf "_law_first" "_law_first" (defArgs sFirst) (defBody sFirst) (defScope sFirst) .none kVFirst dcFirst pmFirst anFirst cdFirst ctFirst), slFirst⟩) (cFirst : PySem.W.codeIn K cdFirst "_law_first" = true) (kFirst : PySem.W.keepIn K (.ref fFirst) = true)
    {odField anField : Option Addr} {slField : Array (Option Value)} {ocField kVField dcField pmField cdField ctField : Value}
    (aField : PySem.W.nsIn K mainGlobals "_law_field" = some (some (.ref fField))) (lField : K.lookup fField = some ⟨ocField, odField, .func (PySem.W.fnOf "_law_field" "_law_field" (defArgs sField) (defBody sField) (defScope sField) .none kVField dcField pmField anField cdField ctField), slField⟩) (cField : PySem.W.codeIn K cdField "_law_field" = true) (kField : PySem.W.keepIn K (.ref fField) = true)
    {odMixed anMixed : Option Addr} {slMixed : Array (Option Value)} {ocMixed kVMixed dcMixed pmMixed cdMixed ctMixed : Value}
    (aMixed : PySem.W.nsIn K mainGlobals "_law_mixed" = some (some (.ref fMixed))) (lMixed : K.lookup fMixed = some ⟨ocMixed, odMixed, .func (PySem.W.fnOf "_law_mixed" "_law_mixed" (defArgs sMixed) (defBody sMixed) (defScope sMixed) .none kVMixed dcMixed pmMixed anMixed cdMixed ctMixed), slMixed⟩) (cMixed : PySem.W.codeIn K cdMixed "_law_mixed" = true) (kMixed : PySem.W.keepIn K (.ref fMixed) = true)
    {odDraw anDraw : Option Addr} {slDraw : Array (Option Value)} {ocDraw kVDraw dcDraw pmDraw cdDraw ctDraw : Value}
    (aDraw : PySem.W.nsIn K mainGlobals "_law_draw" = some (some (.ref fDraw))) (lDraw : K.lookup fDraw = some ⟨ocDraw, odDraw, .func (PySem.W.fnOf "_law_draw" "_law_draw" (defArgs sDraw) (defBody sDraw) (defScope sDraw) .none kVDraw dcDraw pmDraw anDraw cdDraw ctDraw), slDraw⟩) (cDraw : PySem.W.codeIn K cdDraw "_law_draw" = true) (kDraw : PySem.W.keepIn K (.ref fDraw) = true)
    {odPool anPool : Option Addr} {slPool : Array (Option Value)} {ocPool kVPool dcPool pmPool cdPool ctPool : Value}
    (aPool : PySem.W.nsIn K mainGlobals "_law_pool" = some (some (.ref fPool))) (lPool : K.lookup fPool = some ⟨ocPool, odPool, .func (PySem.W.fnOf "_law_pool" "_law_pool" (defArgs sPool) (defBody sPool) (defScope sPool) .none kVPool dcPool pmPool anPool cdPool ctPool), slPool⟩) (cPool : PySem.W.codeIn K cdPool "_law_pool" = true) (kPool : PySem.W.keepIn K (.ref fPool) = true)
    {odKinds anKinds : Option Addr} {slKinds : Array (Option Value)} {ocKinds kVKinds dcKinds pmKinds cdKinds ctKinds : Value}
    (aKinds : PySem.W.nsIn K mainGlobals "_law_kinds" = some (some (.ref fKinds))) (lKinds : K.lookup fKinds = some ⟨ocKinds, odKinds, .func (PySem.W.fnOf "_law_kinds" "_law_kinds" (defArgs sKinds) (defBody sKinds) (defScope sKinds) .none kVKinds dcKinds pmKinds anKinds cdKinds ctKinds), slKinds⟩) (cKinds : PySem.W.codeIn K cdKinds "_law_kinds" = true) (kKinds : PySem.W.keepIn K (.ref fKinds) = true)
    {odLaw anLaw : Option Addr} {slLaw : Array (Option Value)} {ocLaw kVLaw dcLaw pmLaw cdLaw ctLaw : Value}
    (aLaw : PySem.W.nsIn K mainGlobals "law" = some (some (.ref fLaw))) (lLaw : K.lookup fLaw = some ⟨ocLaw, odLaw, .func (PySem.W.fnOf "law" "law" (defArgs sLaw) (defBody sLaw) (defScope sLaw) .none kVLaw dcLaw pmLaw anLaw cdLaw ctLaw), slLaw⟩) (cLaw : PySem.W.codeIn K cdLaw "law" = true) (kLaw : PySem.W.keepIn K (.ref fLaw) = true)
    (aInvalidText : PySem.W.nsIn K mainGlobals "InvalidText" = some (some (.ref CInvalidText)))
    {odXI0 anXI0 : Option Addr} {slXI0 : Array (Option Value)} {ocXI0 kVXI0 dcXI0 pmXI0 cdXI0 ctXI0 : Value}
    (aXI0 : PySem.W.findIn K (.ref CInvalidText) "__init__" = some (some (.ref fXI0))) (iXI0 : PySem.W.isFn K (.ref fXI0) = true)
    (lXI0 : K.lookup fXI0 = some ⟨ocXI0, odXI0, .func (PySem.W.fnOf "__init__" "InvalidText.__init__" (defArgs sXI0) (defBody sXI0) (defScope sXI0) .none kVXI0 dcXI0 pmXI0 anXI0 cdXI0 ctXI0), slXI0⟩) (cXI0 : PySem.W.codeIn K cdXI0 "InvalidText.__init__" = true) (kXI0 : PySem.W.keepIn K (.ref fXI0) = true)
    (aInvalidSyntax : PySem.W.nsIn K mainGlobals "InvalidSyntax" = some (some (.ref CInvalidSyntax)))
    {odXI1 anXI1 : Option Addr} {slXI1 : Array (Option Value)} {ocXI1 kVXI1 dcXI1 pmXI1 cdXI1 ctXI1 : Value}
    (aXI1 : PySem.W.findIn K (.ref CInvalidSyntax) "__init__" = some (some (.ref fXI1))) (iXI1 : PySem.W.isFn K (.ref fXI1) = true)
    (lXI1 : K.lookup fXI1 = some ⟨ocXI1, odXI1, .func (PySem.W.fnOf "__init__" "InvalidSyntax.__init__" (defArgs sXI1) (defBody sXI1) (defScope sXI1) .none kVXI1 dcXI1 pmXI1 anXI1 cdXI1 ctXI1), slXI1⟩) (cXI1 : PySem.W.codeIn K cdXI1 "InvalidSyntax.__init__" = true) (kXI1 : PySem.W.keepIn K (.ref fXI1) = true)
    (aInvalidTree : PySem.W.nsIn K mainGlobals "InvalidTree" = some (some (.ref CInvalidTree)))
    {odXI2 anXI2 : Option Addr} {slXI2 : Array (Option Value)} {ocXI2 kVXI2 dcXI2 pmXI2 cdXI2 ctXI2 : Value}
    (aXI2 : PySem.W.findIn K (.ref CInvalidTree) "__init__" = some (some (.ref fXI2))) (iXI2 : PySem.W.isFn K (.ref fXI2) = true)
    (lXI2 : K.lookup fXI2 = some ⟨ocXI2, odXI2, .func (PySem.W.fnOf "__init__" "InvalidTree.__init__" (defArgs sXI2) (defBody sXI2) (defScope sXI2) .none kVXI2 dcXI2 pmXI2 anXI2 cdXI2 ctXI2), slXI2⟩) (cXI2 : PySem.W.codeIn K cdXI2 "InvalidTree.__init__" = true) (kXI2 : PySem.W.keepIn K (.ref fXI2) = true)
    (aDuplicateName : PySem.W.nsIn K mainGlobals "DuplicateName" = some (some (.ref CDuplicateName)))
    {odXI3 anXI3 : Option Addr} {slXI3 : Array (Option Value)} {ocXI3 kVXI3 dcXI3 pmXI3 cdXI3 ctXI3 : Value}
    (aXI3 : PySem.W.findIn K (.ref CDuplicateName) "__init__" = some (some (.ref fXI3))) (iXI3 : PySem.W.isFn K (.ref fXI3) = true)
    (lXI3 : K.lookup fXI3 = some ⟨ocXI3, odXI3, .func (PySem.W.fnOf "__init__" "DuplicateName.__init__" (defArgs sXI3) (defBody sXI3) (defScope sXI3) .none kVXI3 dcXI3 pmXI3 anXI3 cdXI3 ctXI3), slXI3⟩) (cXI3 : PySem.W.codeIn K cdXI3 "DuplicateName.__init__" = true) (kXI3 : PySem.W.keepIn K (.ref fXI3) = true)
    (aUnknownName : PySem.W.nsIn K mainGlobals "UnknownName" = some (some (.ref CUnknownName)))
    {odXI4 anXI4 : Option Addr} {slXI4 : Array (Option Value)} {ocXI4 kVXI4 dcXI4 pmXI4 cdXI4 ctXI4 : Value}
    (aXI4 : PySem.W.findIn K (.ref CUnknownName) "__init__" = some (some (.ref fXI4))) (iXI4 : PySem.W.isFn K (.ref fXI4) = true)
    (lXI4 : K.lookup fXI4 = some ⟨ocXI4, odXI4, .func (PySem.W.fnOf "__init__" "UnknownName.__init__" (defArgs sXI4) (defBody sXI4) (defScope sXI4) .none kVXI4 dcXI4 pmXI4 anXI4 cdXI4 ctXI4), slXI4⟩) (cXI4 : PySem.W.codeIn K cdXI4 "UnknownName.__init__" = true) (kXI4 : PySem.W.keepIn K (.ref fXI4) = true)
    (aWrongArguments : PySem.W.nsIn K mainGlobals "WrongArguments" = some (some (.ref CWrongArguments)))
    {odXI5 anXI5 : Option Addr} {slXI5 : Array (Option Value)} {ocXI5 kVXI5 dcXI5 pmXI5 cdXI5 ctXI5 : Value}
    (aXI5 : PySem.W.findIn K (.ref CWrongArguments) "__init__" = some (some (.ref fXI5))) (iXI5 : PySem.W.isFn K (.ref fXI5) = true)
    (lXI5 : K.lookup fXI5 = some ⟨ocXI5, odXI5, .func (PySem.W.fnOf "__init__" "WrongArguments.__init__" (defArgs sXI5) (defBody sXI5) (defScope sXI5) .none kVXI5 dcXI5 pmXI5 anXI5 cdXI5 ctXI5), slXI5⟩) (cXI5 : PySem.W.codeIn K cdXI5 "WrongArguments.__init__" = true) (kXI5 : PySem.W.keepIn K (.ref fXI5) = true)
    (aInvalidFinally : PySem.W.nsIn K mainGlobals "InvalidFinally" = some (some (.ref CInvalidFinally)))
    {odXI6 anXI6 : Option Addr} {slXI6 : Array (Option Value)} {ocXI6 kVXI6 dcXI6 pmXI6 cdXI6 ctXI6 : Value}
    (aXI6 : PySem.W.findIn K (.ref CInvalidFinally) "__init__" = some (some (.ref fXI6))) (iXI6 : PySem.W.isFn K (.ref fXI6) = true)
    (lXI6 : K.lookup fXI6 = some ⟨ocXI6, odXI6, .func (PySem.W.fnOf "__init__" "InvalidFinally.__init__" (defArgs sXI6) (defBody sXI6) (defScope sXI6) .none kVXI6 dcXI6 pmXI6 anXI6 cdXI6 ctXI6), slXI6⟩) (cXI6 : PySem.W.codeIn K cdXI6 "InvalidFinally.__init__" = true) (kXI6 : PySem.W.keepIn K (.ref fXI6) = true)
    (aTooLarge : PySem.W.nsIn K mainGlobals "TooLarge" = some (some (.ref CTooLarge)))
    {odXI7 anXI7 : Option Addr} {slXI7 : Array (Option Value)} {ocXI7 kVXI7 dcXI7 pmXI7 cdXI7 ctXI7 : Value}
    (aXI7 : PySem.W.findIn K (.ref CTooLarge) "__init__" = some (some (.ref fXI7))) (iXI7 : PySem.W.isFn K (.ref fXI7) = true)
    (lXI7 : K.lookup fXI7 = some ⟨ocXI7, odXI7, .func (PySem.W.fnOf "__init__" "TooLarge.__init__" (defArgs sXI7) (defBody sXI7) (defScope sXI7) .none kVXI7 dcXI7 pmXI7 anXI7 cdXI7 ctXI7), slXI7⟩) (cXI7 : PySem.W.codeIn K cdXI7 "TooLarge.__init__" = true) (kXI7 : PySem.W.keepIn K (.ref fXI7) = true)
    (aInvalidRow : PySem.W.nsIn K mainGlobals "InvalidRow" = some (some (.ref CInvalidRow)))
    {odXI8 anXI8 : Option Addr} {slXI8 : Array (Option Value)} {ocXI8 kVXI8 dcXI8 pmXI8 cdXI8 ctXI8 : Value}
    (aXI8 : PySem.W.findIn K (.ref CInvalidRow) "__init__" = some (some (.ref fXI8))) (iXI8 : PySem.W.isFn K (.ref fXI8) = true)
    (lXI8 : K.lookup fXI8 = some ⟨ocXI8, odXI8, .func (PySem.W.fnOf "__init__" "InvalidRow.__init__" (defArgs sXI8) (defBody sXI8) (defScope sXI8) .none kVXI8 dcXI8 pmXI8 anXI8 cdXI8 ctXI8), slXI8⟩) (cXI8 : PySem.W.codeIn K cdXI8 "InvalidRow.__init__" = true) (kXI8 : PySem.W.keepIn K (.ref fXI8) = true)
    (aInvalidCase : PySem.W.nsIn K mainGlobals "InvalidCase" = some (some (.ref CInvalidCase)))
    {odXI9 anXI9 : Option Addr} {slXI9 : Array (Option Value)} {ocXI9 kVXI9 dcXI9 pmXI9 cdXI9 ctXI9 : Value}
    (aXI9 : PySem.W.findIn K (.ref CInvalidCase) "__init__" = some (some (.ref fXI9))) (iXI9 : PySem.W.isFn K (.ref fXI9) = true)
    (lXI9 : K.lookup fXI9 = some ⟨ocXI9, odXI9, .func (PySem.W.fnOf "__init__" "InvalidCase.__init__" (defArgs sXI9) (defBody sXI9) (defScope sXI9) .none kVXI9 dcXI9 pmXI9 anXI9 cdXI9 ctXI9), slXI9⟩) (cXI9 : PySem.W.codeIn K cdXI9 "InvalidCase.__init__" = true) (kXI9 : PySem.W.keepIn K (.ref fXI9) = true)
    (aInvalidEntry : PySem.W.nsIn K mainGlobals "InvalidEntry" = some (some (.ref CInvalidEntry)))
    {odXI10 anXI10 : Option Addr} {slXI10 : Array (Option Value)} {ocXI10 kVXI10 dcXI10 pmXI10 cdXI10 ctXI10 : Value}
    (aXI10 : PySem.W.findIn K (.ref CInvalidEntry) "__init__" = some (some (.ref fXI10))) (iXI10 : PySem.W.isFn K (.ref fXI10) = true)
    (lXI10 : K.lookup fXI10 = some ⟨ocXI10, odXI10, .func (PySem.W.fnOf "__init__" "InvalidEntry.__init__" (defArgs sXI10) (defBody sXI10) (defScope sXI10) .none kVXI10 dcXI10 pmXI10 anXI10 cdXI10 ctXI10), slXI10⟩) (cXI10 : PySem.W.codeIn K cdXI10 "InvalidEntry.__init__" = true) (kXI10 : PySem.W.keepIn K (.ref fXI10) = true)
    (aInvalidChoices : PySem.W.nsIn K mainGlobals "InvalidChoices" = some (some (.ref CInvalidChoices)))
    {odXI11 anXI11 : Option Addr} {slXI11 : Array (Option Value)} {ocXI11 kVXI11 dcXI11 pmXI11 cdXI11 ctXI11 : Value}
    (aXI11 : PySem.W.findIn K (.ref CInvalidChoices) "__init__" = some (some (.ref fXI11))) (iXI11 : PySem.W.isFn K (.ref fXI11) = true)
    (lXI11 : K.lookup fXI11 = some ⟨ocXI11, odXI11, .func (PySem.W.fnOf "__init__" "InvalidChoices.__init__" (defArgs sXI11) (defBody sXI11) (defScope sXI11) .none kVXI11 dcXI11 pmXI11 anXI11 cdXI11 ctXI11), slXI11⟩) (cXI11 : PySem.W.codeIn K cdXI11 "InvalidChoices.__init__" = true) (kXI11 : PySem.W.keepIn K (.ref fXI11) = true)
    (aInvalidInjection : PySem.W.nsIn K mainGlobals "InvalidInjection" = some (some (.ref CInvalidInjection)))
    {odXI12 anXI12 : Option Addr} {slXI12 : Array (Option Value)} {ocXI12 kVXI12 dcXI12 pmXI12 cdXI12 ctXI12 : Value}
    (aXI12 : PySem.W.findIn K (.ref CInvalidInjection) "__init__" = some (some (.ref fXI12))) (iXI12 : PySem.W.isFn K (.ref fXI12) = true)
    (lXI12 : K.lookup fXI12 = some ⟨ocXI12, odXI12, .func (PySem.W.fnOf "__init__" "InvalidInjection.__init__" (defArgs sXI12) (defBody sXI12) (defScope sXI12) .none kVXI12 dcXI12 pmXI12 anXI12 cdXI12 ctXI12), slXI12⟩) (cXI12 : PySem.W.codeIn K cdXI12 "InvalidInjection.__init__" = true) (kXI12 : PySem.W.keepIn K (.ref fXI12) = true)
    (aInvalidOrder : PySem.W.nsIn K mainGlobals "InvalidOrder" = some (some (.ref CInvalidOrder)))
    {odXI13 anXI13 : Option Addr} {slXI13 : Array (Option Value)} {ocXI13 kVXI13 dcXI13 pmXI13 cdXI13 ctXI13 : Value}
    (aXI13 : PySem.W.findIn K (.ref CInvalidOrder) "__init__" = some (some (.ref fXI13))) (iXI13 : PySem.W.isFn K (.ref fXI13) = true)
    (lXI13 : K.lookup fXI13 = some ⟨ocXI13, odXI13, .func (PySem.W.fnOf "__init__" "InvalidOrder.__init__" (defArgs sXI13) (defBody sXI13) (defScope sXI13) .none kVXI13 dcXI13 pmXI13 anXI13 cdXI13 ctXI13), slXI13⟩) (cXI13 : PySem.W.codeIn K cdXI13 "InvalidOrder.__init__" = true) (kXI13 : PySem.W.keepIn K (.ref fXI13) = true)
    (aInvalidEvent : PySem.W.nsIn K mainGlobals "InvalidEvent" = some (some (.ref CInvalidEvent)))
    {odXI14 anXI14 : Option Addr} {slXI14 : Array (Option Value)} {ocXI14 kVXI14 dcXI14 pmXI14 cdXI14 ctXI14 : Value}
    (aXI14 : PySem.W.findIn K (.ref CInvalidEvent) "__init__" = some (some (.ref fXI14))) (iXI14 : PySem.W.isFn K (.ref fXI14) = true)
    (lXI14 : K.lookup fXI14 = some ⟨ocXI14, odXI14, .func (PySem.W.fnOf "__init__" "InvalidEvent.__init__" (defArgs sXI14) (defBody sXI14) (defScope sXI14) .none kVXI14 dcXI14 pmXI14 anXI14 cdXI14 ctXI14), slXI14⟩) (cXI14 : PySem.W.codeIn K cdXI14 "InvalidEvent.__init__" = true) (kXI14 : PySem.W.keepIn K (.ref fXI14) = true)
    (aInvalidValues : PySem.W.nsIn K mainGlobals "InvalidValues" = some (some (.ref CInvalidValues)))
    {odXI15 anXI15 : Option Addr} {slXI15 : Array (Option Value)} {ocXI15 kVXI15 dcXI15 pmXI15 cdXI15 ctXI15 : Value}
    (aXI15 : PySem.W.findIn K (.ref CInvalidValues) "__init__" = some (some (.ref fXI15))) (iXI15 : PySem.W.isFn K (.ref fXI15) = true)
    (lXI15 : K.lookup fXI15 = some ⟨ocXI15, odXI15, .func (PySem.W.fnOf "__init__" "InvalidValues.__init__" (defArgs sXI15) (defBody sXI15) (defScope sXI15) .none kVXI15 dcXI15 pmXI15 anXI15 cdXI15 ctXI15), slXI15⟩) (cXI15 : PySem.W.codeIn K cdXI15 "InvalidValues.__init__" = true) (kXI15 : PySem.W.keepIn K (.ref fXI15) = true)
    (aInvalidQuestion : PySem.W.nsIn K mainGlobals "InvalidQuestion" = some (some (.ref CInvalidQuestion)))
    {odXI16 anXI16 : Option Addr} {slXI16 : Array (Option Value)} {ocXI16 kVXI16 dcXI16 pmXI16 cdXI16 ctXI16 : Value}
    (aXI16 : PySem.W.findIn K (.ref CInvalidQuestion) "__init__" = some (some (.ref fXI16))) (iXI16 : PySem.W.isFn K (.ref fXI16) = true)
    (lXI16 : K.lookup fXI16 = some ⟨ocXI16, odXI16, .func (PySem.W.fnOf "__init__" "InvalidQuestion.__init__" (defArgs sXI16) (defBody sXI16) (defScope sXI16) .none kVXI16 dcXI16 pmXI16 anXI16 cdXI16 ctXI16), slXI16⟩) (cXI16 : PySem.W.codeIn K cdXI16 "InvalidQuestion.__init__" = true) (kXI16 : PySem.W.keepIn K (.ref fXI16) = true)
    (aInvalidCommand : PySem.W.nsIn K mainGlobals "InvalidCommand" = some (some (.ref CInvalidCommand)))
    {odXI17 anXI17 : Option Addr} {slXI17 : Array (Option Value)} {ocXI17 kVXI17 dcXI17 pmXI17 cdXI17 ctXI17 : Value}
    (aXI17 : PySem.W.findIn K (.ref CInvalidCommand) "__init__" = some (some (.ref fXI17))) (iXI17 : PySem.W.isFn K (.ref fXI17) = true)
    (lXI17 : K.lookup fXI17 = some ⟨ocXI17, odXI17, .func (PySem.W.fnOf "__init__" "InvalidCommand.__init__" (defArgs sXI17) (defBody sXI17) (defScope sXI17) .none kVXI17 dcXI17 pmXI17 anXI17 cdXI17 ctXI17), slXI17⟩) (cXI17 : PySem.W.codeIn K cdXI17 "InvalidCommand.__init__" = true) (kXI17 : PySem.W.keepIn K (.ref fXI17) = true)
    (aUnknownFunction : PySem.W.nsIn K mainGlobals "UnknownFunction" = some (some (.ref CUnknownFunction)))
    {odXI18 anXI18 : Option Addr} {slXI18 : Array (Option Value)} {ocXI18 kVXI18 dcXI18 pmXI18 cdXI18 ctXI18 : Value}
    (aXI18 : PySem.W.findIn K (.ref CUnknownFunction) "__init__" = some (some (.ref fXI18))) (iXI18 : PySem.W.isFn K (.ref fXI18) = true)
    (lXI18 : K.lookup fXI18 = some ⟨ocXI18, odXI18, .func (PySem.W.fnOf "__init__" "UnknownFunction.__init__" (defArgs sXI18) (defBody sXI18) (defScope sXI18) .none kVXI18 dcXI18 pmXI18 anXI18 cdXI18 ctXI18), slXI18⟩) (cXI18 : PySem.W.codeIn K cdXI18 "UnknownFunction.__init__" = true) (kXI18 : PySem.W.keepIn K (.ref fXI18) = true)
    (aLimitExceeded : PySem.W.nsIn K mainGlobals "LimitExceeded" = some (some (.ref CLimitExceeded)))
    {odXI19 anXI19 : Option Addr} {slXI19 : Array (Option Value)} {ocXI19 kVXI19 dcXI19 pmXI19 cdXI19 ctXI19 : Value}
    (aXI19 : PySem.W.findIn K (.ref CLimitExceeded) "__init__" = some (some (.ref fXI19))) (iXI19 : PySem.W.isFn K (.ref fXI19) = true)
    (lXI19 : K.lookup fXI19 = some ⟨ocXI19, odXI19, .func (PySem.W.fnOf "__init__" "LimitExceeded.__init__" (defArgs sXI19) (defBody sXI19) (defScope sXI19) .none kVXI19 dcXI19 pmXI19 anXI19 cdXI19 ctXI19), slXI19⟩) (cXI19 : PySem.W.codeIn K cdXI19 "LimitExceeded.__init__" = true) (kXI19 : PySem.W.keepIn K (.ref fXI19) = true)
    (aProgramError : PySem.W.nsIn K mainGlobals "ProgramError" = some (some (.ref CProgramError)))
    (n_int : PySem.W.nsIn K mainGlobals "int" = some none)
    (n_len : PySem.W.nsIn K mainGlobals "len" = some none)
    (n_isinstance : PySem.W.nsIn K mainGlobals "isinstance" = some none)
    (n_range : PySem.W.nsIn K mainGlobals "range" = some none)
    (n_ValueError : PySem.W.nsIn K mainGlobals "ValueError" = some none)
    (n_KeyError : PySem.W.nsIn K mainGlobals "KeyError" = some none)
    (n_RuntimeError : PySem.W.nsIn K mainGlobals "RuntimeError" = some none)
    {nm0 qn0 : Str} {N0 : Addr} {bs0 su0 : List Value} {sn0 : List Str} {ab0 : Bool} {col0 : Option Bool} {dd0 : Option Addr} {ka0 kb0 kc0 kd0 ke0 : Option Value}
    (xl0 : K.lookup CInvalidText = some (excClassObj nm0 qn0 CInvalidText N0 bs0 (.ref CProgramError :: XC.tlV) true sn0 su0 ab0 col0 dd0 ka0 kb0 kc0 kd0 ke0 "ValueError.__new__")) (xs0 : PySem.W.findIn K (.ref CInvalidText) "__setattr__" = some (some (.builtin "object.__setattr__"))) (xk0 : PySem.W.keepIn K (.ref CInvalidText) = true) (xn0 : PySem.W.findIn K (.ref CInvalidText) "value" = some none) (xa0 : PySem.W.findIn K (.ref CInvalidText) "__getattribute__" = some (some (.builtin "BaseException.__getattribute__"))) (xg0 : PySem.W.findIn K (.ref CInvalidText) "__getattr__" = some none) (xc0 : PySem.W.findIn K (.ref CInvalidText) "__class__" = some (some (.builtin "object.__class__"))) (xt0 : PySem.W.typeIn K (.ref fXI0) = some (.type "function"))
    {nm1 qn1 : Str} {N1 : Addr} {bs1 su1 : List Value} {sn1 : List Str} {ab1 : Bool} {col1 : Option Bool} {dd1 : Option Addr} {ka1 kb1 kc1 kd1 ke1 : Option Value}
    (xl1 : K.lookup CInvalidSyntax = some (excClassObj nm1 qn1 CInvalidSyntax N1 bs1 (.ref CProgramError :: XC.tlV) true sn1 su1 ab1 col1 dd1 ka1 kb1 kc1 kd1 ke1 "ValueError.__new__")) (xs1 : PySem.W.findIn K (.ref CInvalidSyntax) "__setattr__" = some (some (.builtin "object.__setattr__"))) (xk1 : PySem.W.keepIn K (.ref CInvalidSyntax) = true) (xn1 : PySem.W.findIn K (.ref CInvalidSyntax) "position" = some none) (xa1 : PySem.W.findIn K (.ref CInvalidSyntax) "__getattribute__" = some (some (.builtin "BaseException.__getattribute__"))) (xg1 : PySem.W.findIn K (.ref CInvalidSyntax) "__getattr__" = some none) (xc1 : PySem.W.findIn K (.ref CInvalidSyntax) "__class__" = some (some (.builtin "object.__class__"))) (xt1 : PySem.W.typeIn K (.ref fXI1) = some (.type "function"))
    {nm2 qn2 : Str} {N2 : Addr} {bs2 su2 : List Value} {sn2 : List Str} {ab2 : Bool} {col2 : Option Bool} {dd2 : Option Addr} {ka2 kb2 kc2 kd2 ke2 : Option Value}
    (xl2 : K.lookup CInvalidTree = some (excClassObj nm2 qn2 CInvalidTree N2 bs2 (.ref CProgramError :: XC.tlV) true sn2 su2 ab2 col2 dd2 ka2 kb2 kc2 kd2 ke2 "ValueError.__new__")) (xs2 : PySem.W.findIn K (.ref CInvalidTree) "__setattr__" = some (some (.builtin "object.__setattr__"))) (xk2 : PySem.W.keepIn K (.ref CInvalidTree) = true) (xn2 : PySem.W.findIn K (.ref CInvalidTree) "value" = some none) (xa2 : PySem.W.findIn K (.ref CInvalidTree) "__getattribute__" = some (some (.builtin "BaseException.__getattribute__"))) (xg2 : PySem.W.findIn K (.ref CInvalidTree) "__getattr__" = some none) (xc2 : PySem.W.findIn K (.ref CInvalidTree) "__class__" = some (some (.builtin "object.__class__"))) (xt2 : PySem.W.typeIn K (.ref fXI2) = some (.type "function"))
    {nm3 qn3 : Str} {N3 : Addr} {bs3 su3 : List Value} {sn3 : List Str} {ab3 : Bool} {col3 : Option Bool} {dd3 : Option Addr} {ka3 kb3 kc3 kd3 ke3 : Option Value}
    (xl3 : K.lookup CDuplicateName = some (excClassObj nm3 qn3 CDuplicateName N3 bs3 (.ref CProgramError :: XC.tlV) true sn3 su3 ab3 col3 dd3 ka3 kb3 kc3 kd3 ke3 "ValueError.__new__")) (xs3 : PySem.W.findIn K (.ref CDuplicateName) "__setattr__" = some (some (.builtin "object.__setattr__"))) (xk3 : PySem.W.keepIn K (.ref CDuplicateName) = true) (xn3 : PySem.W.findIn K (.ref CDuplicateName) "name" = some none) (xa3 : PySem.W.findIn K (.ref CDuplicateName) "__getattribute__" = some (some (.builtin "BaseException.__getattribute__"))) (xg3 : PySem.W.findIn K (.ref CDuplicateName) "__getattr__" = some none) (xc3 : PySem.W.findIn K (.ref CDuplicateName) "__class__" = some (some (.builtin "object.__class__"))) (xt3 : PySem.W.typeIn K (.ref fXI3) = some (.type "function"))
    {nm4 qn4 : Str} {N4 : Addr} {bs4 su4 : List Value} {sn4 : List Str} {ab4 : Bool} {col4 : Option Bool} {dd4 : Option Addr} {ka4 kb4 kc4 kd4 ke4 : Option Value}
    (xl4 : K.lookup CUnknownName = some (excClassObj nm4 qn4 CUnknownName N4 bs4 (.ref CProgramError :: XC.tlV) true sn4 su4 ab4 col4 dd4 ka4 kb4 kc4 kd4 ke4 "ValueError.__new__")) (xs4 : PySem.W.findIn K (.ref CUnknownName) "__setattr__" = some (some (.builtin "object.__setattr__"))) (xk4 : PySem.W.keepIn K (.ref CUnknownName) = true) (xn4 : PySem.W.findIn K (.ref CUnknownName) "name" = some none) (xa4 : PySem.W.findIn K (.ref CUnknownName) "__getattribute__" = some (some (.builtin "BaseException.__getattribute__"))) (xg4 : PySem.W.findIn K (.ref CUnknownName) "__getattr__" = some none) (xc4 : PySem.W.findIn K (.ref CUnknownName) "__class__" = some (some (.builtin "object.__class__"))) (xt4 : PySem.W.typeIn K (.ref fXI4) = some (.type "function"))
    {nm5 qn5 : Str} {N5 : Addr} {bs5 su5 : List Value} {sn5 : List Str} {ab5 : Bool} {col5 : Option Bool} {dd5 : Option Addr} {ka5 kb5 kc5 kd5 ke5 : Option Value}
    (xl5 : K.lookup CWrongArguments = some (excClassObj nm5 qn5 CWrongArguments N5 bs5 (.ref CProgramError :: XC.tlV) true sn5 su5 ab5 col5 dd5 ka5 kb5 kc5 kd5 ke5 "ValueError.__new__")) (xs5 : PySem.W.findIn K (.ref CWrongArguments) "__setattr__" = some (some (.builtin "object.__setattr__"))) (xk5 : PySem.W.keepIn K (.ref CWrongArguments) = true) (xn5 : PySem.W.findIn K (.ref CWrongArguments) "place" = some none) (xa5 : PySem.W.findIn K (.ref CWrongArguments) "__getattribute__" = some (some (.builtin "BaseException.__getattribute__"))) (xg5 : PySem.W.findIn K (.ref CWrongArguments) "__getattr__" = some none) (xc5 : PySem.W.findIn K (.ref CWrongArguments) "__class__" = some (some (.builtin "object.__class__"))) (xt5 : PySem.W.typeIn K (.ref fXI5) = some (.type "function"))
    {nm6 qn6 : Str} {N6 : Addr} {bs6 su6 : List Value} {sn6 : List Str} {ab6 : Bool} {col6 : Option Bool} {dd6 : Option Addr} {ka6 kb6 kc6 kd6 ke6 : Option Value}
    (xl6 : K.lookup CInvalidFinally = some (excClassObj nm6 qn6 CInvalidFinally N6 bs6 (.ref CProgramError :: XC.tlV) true sn6 su6 ab6 col6 dd6 ka6 kb6 kc6 kd6 ke6 "ValueError.__new__")) (xs6 : PySem.W.findIn K (.ref CInvalidFinally) "__setattr__" = some (some (.builtin "object.__setattr__"))) (xk6 : PySem.W.keepIn K (.ref CInvalidFinally) = true) (xn6 : PySem.W.findIn K (.ref CInvalidFinally) "place" = some none) (xa6 : PySem.W.findIn K (.ref CInvalidFinally) "__getattribute__" = some (some (.builtin "BaseException.__getattribute__"))) (xg6 : PySem.W.findIn K (.ref CInvalidFinally) "__getattr__" = some none) (xc6 : PySem.W.findIn K (.ref CInvalidFinally) "__class__" = some (some (.builtin "object.__class__"))) (xt6 : PySem.W.typeIn K (.ref fXI6) = some (.type "function"))
    {nm7 qn7 : Str} {N7 : Addr} {bs7 su7 : List Value} {sn7 : List Str} {ab7 : Bool} {col7 : Option Bool} {dd7 : Option Addr} {ka7 kb7 kc7 kd7 ke7 : Option Value}
    (xl7 : K.lookup CTooLarge = some (excClassObj nm7 qn7 CTooLarge N7 bs7 (.ref CProgramError :: XC.tlV) true sn7 su7 ab7 col7 dd7 ka7 kb7 kc7 kd7 ke7 "ValueError.__new__")) (xs7 : PySem.W.findIn K (.ref CTooLarge) "__setattr__" = some (some (.builtin "object.__setattr__"))) (xk7 : PySem.W.keepIn K (.ref CTooLarge) = true) (xn7 : PySem.W.findIn K (.ref CTooLarge) "word" = some none) (xa7 : PySem.W.findIn K (.ref CTooLarge) "__getattribute__" = some (some (.builtin "BaseException.__getattribute__"))) (xg7 : PySem.W.findIn K (.ref CTooLarge) "__getattr__" = some none) (xc7 : PySem.W.findIn K (.ref CTooLarge) "__class__" = some (some (.builtin "object.__class__"))) (xt7 : PySem.W.typeIn K (.ref fXI7) = some (.type "function"))
    {nm8 qn8 : Str} {N8 : Addr} {bs8 su8 : List Value} {sn8 : List Str} {ab8 : Bool} {col8 : Option Bool} {dd8 : Option Addr} {ka8 kb8 kc8 kd8 ke8 : Option Value}
    (xl8 : K.lookup CInvalidRow = some (excClassObj nm8 qn8 CInvalidRow N8 bs8 (.ref CProgramError :: XC.tlV) true sn8 su8 ab8 col8 dd8 ka8 kb8 kc8 kd8 ke8 "ValueError.__new__")) (xs8 : PySem.W.findIn K (.ref CInvalidRow) "__setattr__" = some (some (.builtin "object.__setattr__"))) (xk8 : PySem.W.keepIn K (.ref CInvalidRow) = true) (xn8 : PySem.W.findIn K (.ref CInvalidRow) "value" = some none) (xa8 : PySem.W.findIn K (.ref CInvalidRow) "__getattribute__" = some (some (.builtin "BaseException.__getattribute__"))) (xg8 : PySem.W.findIn K (.ref CInvalidRow) "__getattr__" = some none) (xc8 : PySem.W.findIn K (.ref CInvalidRow) "__class__" = some (some (.builtin "object.__class__"))) (xt8 : PySem.W.typeIn K (.ref fXI8) = some (.type "function"))
    {nm9 qn9 : Str} {N9 : Addr} {bs9 su9 : List Value} {sn9 : List Str} {ab9 : Bool} {col9 : Option Bool} {dd9 : Option Addr} {ka9 kb9 kc9 kd9 ke9 : Option Value}
    (xl9 : K.lookup CInvalidCase = some (excClassObj nm9 qn9 CInvalidCase N9 bs9 (.ref CProgramError :: XC.tlV) true sn9 su9 ab9 col9 dd9 ka9 kb9 kc9 kd9 ke9 "ValueError.__new__")) (xs9 : PySem.W.findIn K (.ref CInvalidCase) "__setattr__" = some (some (.builtin "object.__setattr__"))) (xk9 : PySem.W.keepIn K (.ref CInvalidCase) = true) (xn9 : PySem.W.findIn K (.ref CInvalidCase) "value" = some none) (xa9 : PySem.W.findIn K (.ref CInvalidCase) "__getattribute__" = some (some (.builtin "BaseException.__getattribute__"))) (xg9 : PySem.W.findIn K (.ref CInvalidCase) "__getattr__" = some none) (xc9 : PySem.W.findIn K (.ref CInvalidCase) "__class__" = some (some (.builtin "object.__class__"))) (xt9 : PySem.W.typeIn K (.ref fXI9) = some (.type "function"))
    {nm10 qn10 : Str} {N10 : Addr} {bs10 su10 : List Value} {sn10 : List Str} {ab10 : Bool} {col10 : Option Bool} {dd10 : Option Addr} {ka10 kb10 kc10 kd10 ke10 : Option Value}
    (xl10 : K.lookup CInvalidEntry = some (excClassObj nm10 qn10 CInvalidEntry N10 bs10 (.ref CProgramError :: XC.tlV) true sn10 su10 ab10 col10 dd10 ka10 kb10 kc10 kd10 ke10 "ValueError.__new__")) (xs10 : PySem.W.findIn K (.ref CInvalidEntry) "__setattr__" = some (some (.builtin "object.__setattr__"))) (xk10 : PySem.W.keepIn K (.ref CInvalidEntry) = true) (xn10 : PySem.W.findIn K (.ref CInvalidEntry) "value" = some none) (xa10 : PySem.W.findIn K (.ref CInvalidEntry) "__getattribute__" = some (some (.builtin "BaseException.__getattribute__"))) (xg10 : PySem.W.findIn K (.ref CInvalidEntry) "__getattr__" = some none) (xc10 : PySem.W.findIn K (.ref CInvalidEntry) "__class__" = some (some (.builtin "object.__class__"))) (xt10 : PySem.W.typeIn K (.ref fXI10) = some (.type "function"))
    {nm11 qn11 : Str} {N11 : Addr} {bs11 su11 : List Value} {sn11 : List Str} {ab11 : Bool} {col11 : Option Bool} {dd11 : Option Addr} {ka11 kb11 kc11 kd11 ke11 : Option Value}
    (xl11 : K.lookup CInvalidChoices = some (excClassObj nm11 qn11 CInvalidChoices N11 bs11 (.ref CProgramError :: XC.tlV) true sn11 su11 ab11 col11 dd11 ka11 kb11 kc11 kd11 ke11 "ValueError.__new__")) (xs11 : PySem.W.findIn K (.ref CInvalidChoices) "__setattr__" = some (some (.builtin "object.__setattr__"))) (xk11 : PySem.W.keepIn K (.ref CInvalidChoices) = true) (xn11 : PySem.W.findIn K (.ref CInvalidChoices) "value" = some none) (xa11 : PySem.W.findIn K (.ref CInvalidChoices) "__getattribute__" = some (some (.builtin "BaseException.__getattribute__"))) (xg11 : PySem.W.findIn K (.ref CInvalidChoices) "__getattr__" = some none) (xc11 : PySem.W.findIn K (.ref CInvalidChoices) "__class__" = some (some (.builtin "object.__class__"))) (xt11 : PySem.W.typeIn K (.ref fXI11) = some (.type "function"))
    {nm12 qn12 : Str} {N12 : Addr} {bs12 su12 : List Value} {sn12 : List Str} {ab12 : Bool} {col12 : Option Bool} {dd12 : Option Addr} {ka12 kb12 kc12 kd12 ke12 : Option Value}
    (xl12 : K.lookup CInvalidInjection = some (excClassObj nm12 qn12 CInvalidInjection N12 bs12 (.ref CProgramError :: XC.tlV) true sn12 su12 ab12 col12 dd12 ka12 kb12 kc12 kd12 ke12 "ValueError.__new__")) (xs12 : PySem.W.findIn K (.ref CInvalidInjection) "__setattr__" = some (some (.builtin "object.__setattr__"))) (xk12 : PySem.W.keepIn K (.ref CInvalidInjection) = true) (xn12 : PySem.W.findIn K (.ref CInvalidInjection) "value" = some none) (xa12 : PySem.W.findIn K (.ref CInvalidInjection) "__getattribute__" = some (some (.builtin "BaseException.__getattribute__"))) (xg12 : PySem.W.findIn K (.ref CInvalidInjection) "__getattr__" = some none) (xc12 : PySem.W.findIn K (.ref CInvalidInjection) "__class__" = some (some (.builtin "object.__class__"))) (xt12 : PySem.W.typeIn K (.ref fXI12) = some (.type "function"))
    {nm13 qn13 : Str} {N13 : Addr} {bs13 su13 : List Value} {sn13 : List Str} {ab13 : Bool} {col13 : Option Bool} {dd13 : Option Addr} {ka13 kb13 kc13 kd13 ke13 : Option Value}
    (xl13 : K.lookup CInvalidOrder = some (excClassObj nm13 qn13 CInvalidOrder N13 bs13 (.ref CProgramError :: XC.tlV) true sn13 su13 ab13 col13 dd13 ka13 kb13 kc13 kd13 ke13 "ValueError.__new__")) (xs13 : PySem.W.findIn K (.ref CInvalidOrder) "__setattr__" = some (some (.builtin "object.__setattr__"))) (xk13 : PySem.W.keepIn K (.ref CInvalidOrder) = true) (xn13 : PySem.W.findIn K (.ref CInvalidOrder) "value" = some none) (xa13 : PySem.W.findIn K (.ref CInvalidOrder) "__getattribute__" = some (some (.builtin "BaseException.__getattribute__"))) (xg13 : PySem.W.findIn K (.ref CInvalidOrder) "__getattr__" = some none) (xc13 : PySem.W.findIn K (.ref CInvalidOrder) "__class__" = some (some (.builtin "object.__class__"))) (xt13 : PySem.W.typeIn K (.ref fXI13) = some (.type "function"))
    {nm14 qn14 : Str} {N14 : Addr} {bs14 su14 : List Value} {sn14 : List Str} {ab14 : Bool} {col14 : Option Bool} {dd14 : Option Addr} {ka14 kb14 kc14 kd14 ke14 : Option Value}
    (xl14 : K.lookup CInvalidEvent = some (excClassObj nm14 qn14 CInvalidEvent N14 bs14 (.ref CProgramError :: XC.tlV) true sn14 su14 ab14 col14 dd14 ka14 kb14 kc14 kd14 ke14 "ValueError.__new__")) (xs14 : PySem.W.findIn K (.ref CInvalidEvent) "__setattr__" = some (some (.builtin "object.__setattr__"))) (xk14 : PySem.W.keepIn K (.ref CInvalidEvent) = true) (xn14 : PySem.W.findIn K (.ref CInvalidEvent) "value" = some none) (xa14 : PySem.W.findIn K (.ref CInvalidEvent) "__getattribute__" = some (some (.builtin "BaseException.__getattribute__"))) (xg14 : PySem.W.findIn K (.ref CInvalidEvent) "__getattr__" = some none) (xc14 : PySem.W.findIn K (.ref CInvalidEvent) "__class__" = some (some (.builtin "object.__class__"))) (xt14 : PySem.W.typeIn K (.ref fXI14) = some (.type "function"))
    {nm15 qn15 : Str} {N15 : Addr} {bs15 su15 : List Value} {sn15 : List Str} {ab15 : Bool} {col15 : Option Bool} {dd15 : Option Addr} {ka15 kb15 kc15 kd15 ke15 : Option Value}
    (xl15 : K.lookup CInvalidValues = some (excClassObj nm15 qn15 CInvalidValues N15 bs15 (.ref CProgramError :: XC.tlV) true sn15 su15 ab15 col15 dd15 ka15 kb15 kc15 kd15 ke15 "ValueError.__new__")) (xs15 : PySem.W.findIn K (.ref CInvalidValues) "__setattr__" = some (some (.builtin "object.__setattr__"))) (xk15 : PySem.W.keepIn K (.ref CInvalidValues) = true) (xn15 : PySem.W.findIn K (.ref CInvalidValues) "value" = some none) (xa15 : PySem.W.findIn K (.ref CInvalidValues) "__getattribute__" = some (some (.builtin "BaseException.__getattribute__"))) (xg15 : PySem.W.findIn K (.ref CInvalidValues) "__getattr__" = some none) (xc15 : PySem.W.findIn K (.ref CInvalidValues) "__class__" = some (some (.builtin "object.__class__"))) (xt15 : PySem.W.typeIn K (.ref fXI15) = some (.type "function"))
    {nm16 qn16 : Str} {N16 : Addr} {bs16 su16 : List Value} {sn16 : List Str} {ab16 : Bool} {col16 : Option Bool} {dd16 : Option Addr} {ka16 kb16 kc16 kd16 ke16 : Option Value}
    (xl16 : K.lookup CInvalidQuestion = some (excClassObj nm16 qn16 CInvalidQuestion N16 bs16 (.ref CProgramError :: XC.tlV) true sn16 su16 ab16 col16 dd16 ka16 kb16 kc16 kd16 ke16 "ValueError.__new__")) (xs16 : PySem.W.findIn K (.ref CInvalidQuestion) "__setattr__" = some (some (.builtin "object.__setattr__"))) (xk16 : PySem.W.keepIn K (.ref CInvalidQuestion) = true) (xn16 : PySem.W.findIn K (.ref CInvalidQuestion) "position" = some none) (xa16 : PySem.W.findIn K (.ref CInvalidQuestion) "__getattribute__" = some (some (.builtin "BaseException.__getattribute__"))) (xg16 : PySem.W.findIn K (.ref CInvalidQuestion) "__getattr__" = some none) (xc16 : PySem.W.findIn K (.ref CInvalidQuestion) "__class__" = some (some (.builtin "object.__class__"))) (xt16 : PySem.W.typeIn K (.ref fXI16) = some (.type "function"))
    {nm17 qn17 : Str} {N17 : Addr} {bs17 su17 : List Value} {sn17 : List Str} {ab17 : Bool} {col17 : Option Bool} {dd17 : Option Addr} {ka17 kb17 kc17 kd17 ke17 : Option Value}
    (xl17 : K.lookup CInvalidCommand = some (excClassObj nm17 qn17 CInvalidCommand N17 bs17 (.ref CProgramError :: XC.tlV) true sn17 su17 ab17 col17 dd17 ka17 kb17 kc17 kd17 ke17 "ValueError.__new__")) (xs17 : PySem.W.findIn K (.ref CInvalidCommand) "__setattr__" = some (some (.builtin "object.__setattr__"))) (xk17 : PySem.W.keepIn K (.ref CInvalidCommand) = true) (xn17 : PySem.W.findIn K (.ref CInvalidCommand) "word" = some none) (xa17 : PySem.W.findIn K (.ref CInvalidCommand) "__getattribute__" = some (some (.builtin "BaseException.__getattribute__"))) (xg17 : PySem.W.findIn K (.ref CInvalidCommand) "__getattr__" = some none) (xc17 : PySem.W.findIn K (.ref CInvalidCommand) "__class__" = some (some (.builtin "object.__class__"))) (xt17 : PySem.W.typeIn K (.ref fXI17) = some (.type "function"))
    {nm18 qn18 : Str} {N18 : Addr} {bs18 su18 : List Value} {sn18 : List Str} {ab18 : Bool} {col18 : Option Bool} {dd18 : Option Addr} {ka18 kb18 kc18 kd18 ke18 : Option Value}
    (xl18 : K.lookup CUnknownFunction = some (excClassObj nm18 qn18 CUnknownFunction N18 bs18 XC.tlK true sn18 su18 ab18 col18 dd18 ka18 kb18 kc18 kd18 ke18 "LookupError.__new__")) (xs18 : PySem.W.findIn K (.ref CUnknownFunction) "__setattr__" = some (some (.builtin "object.__setattr__"))) (xk18 : PySem.W.keepIn K (.ref CUnknownFunction) = true) (xn18 : PySem.W.findIn K (.ref CUnknownFunction) "name" = some none) (xa18 : PySem.W.findIn K (.ref CUnknownFunction) "__getattribute__" = some (some (.builtin "BaseException.__getattribute__"))) (xg18 : PySem.W.findIn K (.ref CUnknownFunction) "__getattr__" = some none) (xc18 : PySem.W.findIn K (.ref CUnknownFunction) "__class__" = some (some (.builtin "object.__class__"))) (xt18 : PySem.W.typeIn K (.ref fXI18) = some (.type "function"))
    {nm19 qn19 : Str} {N19 : Addr} {bs19 su19 : List Value} {sn19 : List Str} {ab19 : Bool} {col19 : Option Bool} {dd19 : Option Addr} {ka19 kb19 kc19 kd19 ke19 : Option Value}
    (xl19 : K.lookup CLimitExceeded = some (excClassObj nm19 qn19 CLimitExceeded N19 bs19 XC.tlR true sn19 su19 ab19 col19 dd19 ka19 kb19 kc19 kd19 ke19 "RuntimeError.__new__")) (xs19 : PySem.W.findIn K (.ref CLimitExceeded) "__setattr__" = some (some (.builtin "object.__setattr__"))) (xk19 : PySem.W.keepIn K (.ref CLimitExceeded) = true) (xn19 : PySem.W.findIn K (.ref CLimitExceeded) "word" = some none) (xa19 : PySem.W.findIn K (.ref CLimitExceeded) "__getattribute__" = some (some (.builtin "BaseException.__getattribute__"))) (xg19 : PySem.W.findIn K (.ref CLimitExceeded) "__getattr__" = some none) (xc19 : PySem.W.findIn K (.ref CLimitExceeded) "__class__" = some (some (.builtin "object.__class__"))) (xt19 : PySem.W.typeIn K (.ref fXI19) = some (.type "function"))
    {nmP qnP : Str} {NP : Addr} {bsP suP : List Value} {snP : List Str} {abP : Bool} {colP : Option Bool} {ddP : Option Addr} {kaP kbP kcP kdP keP : Option Value} (xlP : K.lookup CProgramError = some (excClassObj nmP qnP CProgramError NP bsP XC.tlV true snP suP abP colP ddP kaP kbP kcP kdP keP "ValueError.__new__")) (xtP : PySem.W.typeIn K (.ref CProgramError) = some (.type "type"))
    (xsp : PySem.W.specialIn K (.builtin "object.__class__") "__get__" = some (some (.builtin "getset_descriptor.__get__"))) (xtk : PySem.W.takesIn K (.builtin "object.__class__") = some true) (xnd : ([CInvalidText, CInvalidSyntax, CInvalidTree, CDuplicateName, CUnknownName, CWrongArguments, CInvalidFinally, CTooLarge, CInvalidRow, CInvalidCase, CInvalidEntry, CInvalidChoices, CInvalidInjection, CInvalidOrder, CInvalidEvent, CInvalidValues, CInvalidQuestion, CInvalidCommand, CUnknownFunction, CLimitExceeded, CProgramError] : List Addr).Nodup)
    : ∃ fd : FuncData, (∀ (s : Shared) (v : Value), BindsTo s fd ⟨[v], []⟩ [("_law_script", v)]) ∧ ∀ base : Heap, K.In base → base.Ns mainGlobals mg → FnOk l.prog w K mg base CX0 6 fa fd PLaw (spLaw K) := by
  have e := hfa.symm.trans (PySem.W.mg_of X G aLaw)
  cases e
  have FSecond := fun_mk (st := sSecond) lSecond cSecond kSecond
  have bSecond := FSecond.binds (ps := PSecond) fun _ _ _ _ _ _ us hl => match us, hl with | [_, _], _ => rfl
  have gSecond := PySem.W.mg_of X G aSecond
  have FFirst := fun_mk (st := sFirst) lFirst cFirst kFirst
  have bFirst := FFirst.binds (ps := PFirst) fun _ _ _ _ _ _ us hl => match us, hl with | [_, _], _ => rfl
  have gFirst := PySem.W.mg_of X G aFirst
  have FField := fun_mk (st := sField) lField cField kField
  have bField := FField.binds (ps := PField) fun _ _ _ _ _ _ us hl => match us, hl with | [_, _], _ => rfl
  have gField := PySem.W.mg_of X G aField
  have FMixed := fun_mk (st := sMixed) lMixed cMixed kMixed
  have bMixed := FMixed.binds (ps := PMixed) fun _ _ _ _ _ _ us hl => match us, hl with | [_, _, _], _ => rfl
  have gMixed := PySem.W.mg_of X G aMixed
  have FDraw := fun_mk (st := sDraw) lDraw cDraw kDraw
  have bDraw := FDraw.binds (ps := PDraw) fun _ _ _ _ _ _ us hl => match us, hl with | [_, _], _ => rfl
  have gDraw := PySem.W.mg_of X G aDraw
  have FPool := fun_mk (st := sPool) lPool cPool kPool
  have bPool := FPool.binds (ps := PPool) fun _ _ _ _ _ _ us hl => match us, hl with | [_], _ => rfl
  have gPool := PySem.W.mg_of X G aPool
  have FKinds := fun_mk (st := sKinds) lKinds cKinds kKinds
  have bKinds := FKinds.binds (ps := PKinds) fun _ _ _ _ _ _ us hl => match us, hl with | [_], _ => rfl
  have gKinds := PySem.W.mg_of X G aKinds
  have FLaw := fun_mk (st := sLaw) lLaw cLaw kLaw
  have bLaw := FLaw.binds (ps := PLaw) fun _ _ _ _ _ _ us hl => match us, hl with | [_], _ => rfl
  have gLaw := PySem.W.mg_of X G aLaw
  have gInvalidText := PySem.W.mg_of X G aInvalidText
  have meXI0 : Meth K CInvalidText "__init__" fXI0 := ⟨aXI0, iXI0, kXI0⟩
  have FXI0 := fun_mk (st := sXI0) lXI0 cXI0 kXI0
  have bXI0 := FXI0.binds (ps := PXI0) fun _ _ _ _ _ _ us hl => match us, hl with | [_, _], _ => rfl
  have gInvalidSyntax := PySem.W.mg_of X G aInvalidSyntax
  have meXI1 : Meth K CInvalidSyntax "__init__" fXI1 := ⟨aXI1, iXI1, kXI1⟩
  have FXI1 := fun_mk (st := sXI1) lXI1 cXI1 kXI1
  have bXI1 := FXI1.binds (ps := PXI1) fun _ _ _ _ _ _ us hl => match us, hl with | [_, _], _ => rfl
  have gInvalidTree := PySem.W.mg_of X G aInvalidTree
  have meXI2 : Meth K CInvalidTree "__init__" fXI2 := ⟨aXI2, iXI2, kXI2⟩
  have FXI2 := fun_mk (st := sXI2) lXI2 cXI2 kXI2
  have bXI2 := FXI2.binds (ps := PXI2) fun _ _ _ _ _ _ us hl => match us, hl with | [_, _], _ => rfl
  have gDuplicateName := PySem.W.mg_of X G aDuplicateName
  have meXI3 : Meth K CDuplicateName "__init__" fXI3 := ⟨aXI3, iXI3, kXI3⟩
  have FXI3 := fun_mk (st := sXI3) lXI3 cXI3 kXI3
  have bXI3 := FXI3.binds (ps := PXI3) fun _ _ _ _ _ _ us hl => match us, hl with | [_, _], _ => rfl
  have gUnknownName := PySem.W.mg_of X G aUnknownName
  have meXI4 : Meth K CUnknownName "__init__" fXI4 := ⟨aXI4, iXI4, kXI4⟩
  have FXI4 := fun_mk (st := sXI4) lXI4 cXI4 kXI4
  have bXI4 := FXI4.binds (ps := PXI4) fun _ _ _ _ _ _ us hl => match us, hl with | [_, _], _ => rfl
  have gWrongArguments := PySem.W.mg_of X G aWrongArguments
  have meXI5 : Meth K CWrongArguments "__init__" fXI5 := ⟨aXI5, iXI5, kXI5⟩
  have FXI5 := fun_mk (st := sXI5) lXI5 cXI5 kXI5
  have bXI5 := FXI5.binds (ps := PXI5) fun _ _ _ _ _ _ us hl => match us, hl with | [_, _], _ => rfl
  have gInvalidFinally := PySem.W.mg_of X G aInvalidFinally
  have meXI6 : Meth K CInvalidFinally "__init__" fXI6 := ⟨aXI6, iXI6, kXI6⟩
  have FXI6 := fun_mk (st := sXI6) lXI6 cXI6 kXI6
  have bXI6 := FXI6.binds (ps := PXI6) fun _ _ _ _ _ _ us hl => match us, hl with | [_, _], _ => rfl
  have gTooLarge := PySem.W.mg_of X G aTooLarge
  have meXI7 : Meth K CTooLarge "__init__" fXI7 := ⟨aXI7, iXI7, kXI7⟩
  have FXI7 := fun_mk (st := sXI7) lXI7 cXI7 kXI7
  have bXI7 := FXI7.binds (ps := PXI7) fun _ _ _ _ _ _ us hl => match us, hl with | [_, _], _ => rfl
  have gInvalidRow := PySem.W.mg_of X G aInvalidRow
  have meXI8 : Meth K CInvalidRow "__init__" fXI8 := ⟨aXI8, iXI8, kXI8⟩
  have FXI8 := fun_mk (st := sXI8) lXI8 cXI8 kXI8
  have bXI8 := FXI8.binds (ps := PXI8) fun _ _ _ _ _ _ us hl => match us, hl with | [_, _], _ => rfl
  have gInvalidCase := PySem.W.mg_of X G aInvalidCase
  have meXI9 : Meth K CInvalidCase "__init__" fXI9 := ⟨aXI9, iXI9, kXI9⟩
  have FXI9 := fun_mk (st := sXI9) lXI9 cXI9 kXI9
  have bXI9 := FXI9.binds (ps := PXI9) fun _ _ _ _ _ _ us hl => match us, hl with | [_, _], _ => rfl
  have gInvalidEntry := PySem.W.mg_of X G aInvalidEntry
  have meXI10 : Meth K CInvalidEntry "__init__" fXI10 := ⟨aXI10, iXI10, kXI10⟩
  have FXI10 := fun_mk (st := sXI10) lXI10 cXI10 kXI10
  have bXI10 := FXI10.binds (ps := PXI10) fun _ _ _ _ _ _ us hl => match us, hl with | [_, _], _ => rfl
  have gInvalidChoices := PySem.W.mg_of X G aInvalidChoices
  have meXI11 : Meth K CInvalidChoices "__init__" fXI11 := ⟨aXI11, iXI11, kXI11⟩
  have FXI11 := fun_mk (st := sXI11) lXI11 cXI11 kXI11
  have bXI11 := FXI11.binds (ps := PXI11) fun _ _ _ _ _ _ us hl => match us, hl with | [_, _], _ => rfl
  have gInvalidInjection := PySem.W.mg_of X G aInvalidInjection
  have meXI12 : Meth K CInvalidInjection "__init__" fXI12 := ⟨aXI12, iXI12, kXI12⟩
  have FXI12 := fun_mk (st := sXI12) lXI12 cXI12 kXI12
  have bXI12 := FXI12.binds (ps := PXI12) fun _ _ _ _ _ _ us hl => match us, hl with | [_, _], _ => rfl
  have gInvalidOrder := PySem.W.mg_of X G aInvalidOrder
  have meXI13 : Meth K CInvalidOrder "__init__" fXI13 := ⟨aXI13, iXI13, kXI13⟩
  have FXI13 := fun_mk (st := sXI13) lXI13 cXI13 kXI13
  have bXI13 := FXI13.binds (ps := PXI13) fun _ _ _ _ _ _ us hl => match us, hl with | [_, _], _ => rfl
  have gInvalidEvent := PySem.W.mg_of X G aInvalidEvent
  have meXI14 : Meth K CInvalidEvent "__init__" fXI14 := ⟨aXI14, iXI14, kXI14⟩
  have FXI14 := fun_mk (st := sXI14) lXI14 cXI14 kXI14
  have bXI14 := FXI14.binds (ps := PXI14) fun _ _ _ _ _ _ us hl => match us, hl with | [_, _], _ => rfl
  have gInvalidValues := PySem.W.mg_of X G aInvalidValues
  have meXI15 : Meth K CInvalidValues "__init__" fXI15 := ⟨aXI15, iXI15, kXI15⟩
  have FXI15 := fun_mk (st := sXI15) lXI15 cXI15 kXI15
  have bXI15 := FXI15.binds (ps := PXI15) fun _ _ _ _ _ _ us hl => match us, hl with | [_, _], _ => rfl
  have gInvalidQuestion := PySem.W.mg_of X G aInvalidQuestion
  have meXI16 : Meth K CInvalidQuestion "__init__" fXI16 := ⟨aXI16, iXI16, kXI16⟩
  have FXI16 := fun_mk (st := sXI16) lXI16 cXI16 kXI16
  have bXI16 := FXI16.binds (ps := PXI16) fun _ _ _ _ _ _ us hl => match us, hl with | [_, _], _ => rfl
  have gInvalidCommand := PySem.W.mg_of X G aInvalidCommand
  have meXI17 : Meth K CInvalidCommand "__init__" fXI17 := ⟨aXI17, iXI17, kXI17⟩
  have FXI17 := fun_mk (st := sXI17) lXI17 cXI17 kXI17
  have bXI17 := FXI17.binds (ps := PXI17) fun _ _ _ _ _ _ us hl => match us, hl with | [_, _], _ => rfl
  have gUnknownFunction := PySem.W.mg_of X G aUnknownFunction
  have meXI18 : Meth K CUnknownFunction "__init__" fXI18 := ⟨aXI18, iXI18, kXI18⟩
  have FXI18 := fun_mk (st := sXI18) lXI18 cXI18 kXI18
  have bXI18 := FXI18.binds (ps := PXI18) fun _ _ _ _ _ _ us hl => match us, hl with | [_, _], _ => rfl
  have gLimitExceeded := PySem.W.mg_of X G aLimitExceeded
  have meXI19 : Meth K CLimitExceeded "__init__" fXI19 := ⟨aXI19, iXI19, kXI19⟩
  have FXI19 := fun_mk (st := sXI19) lXI19 cXI19 kXI19
  have bXI19 := FXI19.binds (ps := PXI19) fun _ _ _ _ _ _ us hl => match us, hl with | [_, _], _ => rfl
  have gProgramError := PySem.W.mg_of X G aProgramError
  have m_int := PySem.W.mg_none_of X G n_int
  have m_len := PySem.W.mg_none_of X G n_len
  have m_isinstance := PySem.W.mg_none_of X G n_isinstance
  have m_range := PySem.W.mg_none_of X G n_range
  have m_ValueError := PySem.W.mg_none_of X G n_ValueError
  have m_KeyError := PySem.W.mg_none_of X G n_KeyError
  have m_RuntimeError := PySem.W.mg_none_of X G n_RuntimeError

  have T0 : TxPool mg := ⟨m_int, m_len⟩
  have T : TxE mg := ⟨m_isinstance, m_range, m_ValueError, m_KeyError, m_RuntimeError⟩
  refine ⟨PySem.W.fnOf "law" "law" (defArgs sLaw) (defBody sLaw) (defScope sLaw) .none kVLaw dcLaw pmLaw anLaw cdLaw ctLaw, fun s v => .of_eq rfl, fun base kB gB => ?_⟩
  generalize hL : ([CInvalidText, CInvalidSyntax, CInvalidTree, CDuplicateName, CUnknownName, CWrongArguments, CInvalidFinally, CTooLarge, CInvalidRow, CInvalidCase, CInvalidEntry, CInvalidChoices, CInvalidInjection, CInvalidOrder, CInvalidEvent, CInvalidValues, CInvalidQuestion, CInvalidCommand, CUnknownFunction, CLimitExceeded, CProgramError] : List Addr) = L at xnd
  have hT : ∀ i, i < 20 → XcK K (L.getD i 0) (bmf CProgramError i) (nwf i) (eFl i) := by
    subst hL
    exact fun i hi => match i, hi with
      | 0, _ => ⟨⟨_, _, _, _, _, _, _, _, _, _, _, _, _, _, xl0⟩, xs0, xk0, xn0, xa0, xg0, xc0⟩
      | 1, _ => ⟨⟨_, _, _, _, _, _, _, _, _, _, _, _, _, _, xl1⟩, xs1, xk1, xn1, xa1, xg1, xc1⟩
      | 2, _ => ⟨⟨_, _, _, _, _, _, _, _, _, _, _, _, _, _, xl2⟩, xs2, xk2, xn2, xa2, xg2, xc2⟩
      | 3, _ => ⟨⟨_, _, _, _, _, _, _, _, _, _, _, _, _, _, xl3⟩, xs3, xk3, xn3, xa3, xg3, xc3⟩
      | 4, _ => ⟨⟨_, _, _, _, _, _, _, _, _, _, _, _, _, _, xl4⟩, xs4, xk4, xn4, xa4, xg4, xc4⟩
      | 5, _ => ⟨⟨_, _, _, _, _, _, _, _, _, _, _, _, _, _, xl5⟩, xs5, xk5, xn5, xa5, xg5, xc5⟩
      | 6, _ => ⟨⟨_, _, _, _, _, _, _, _, _, _, _, _, _, _, xl6⟩, xs6, xk6, xn6, xa6, xg6, xc6⟩
      | 7, _ => ⟨⟨_, _, _, _, _, _, _, _, _, _, _, _, _, _, xl7⟩, xs7, xk7, xn7, xa7, xg7, xc7⟩
      | 8, _ => ⟨⟨_, _, _, _, _, _, _, _, _, _, _, _, _, _, xl8⟩, xs8, xk8, xn8, xa8, xg8, xc8⟩
      | 9, _ => ⟨⟨_, _, _, _, _, _, _, _, _, _, _, _, _, _, xl9⟩, xs9, xk9, xn9, xa9, xg9, xc9⟩
      | 10, _ => ⟨⟨_, _, _, _, _, _, _, _, _, _, _, _, _, _, xl10⟩, xs10, xk10, xn10, xa10, xg10, xc10⟩
      | 11, _ => ⟨⟨_, _, _, _, _, _, _, _, _, _, _, _, _, _, xl11⟩, xs11, xk11, xn11, xa11, xg11, xc11⟩
      | 12, _ => ⟨⟨_, _, _, _, _, _, _, _, _, _, _, _, _, _, xl12⟩, xs12, xk12, xn12, xa12, xg12, xc12⟩
      | 13, _ => ⟨⟨_, _, _, _, _, _, _, _, _, _, _, _, _, _, xl13⟩, xs13, xk13, xn13, xa13, xg13, xc13⟩
      | 14, _ => ⟨⟨_, _, _, _, _, _, _, _, _, _, _, _, _, _, xl14⟩, xs14, xk14, xn14, xa14, xg14, xc14⟩
      | 15, _ => ⟨⟨_, _, _, _, _, _, _, _, _, _, _, _, _, _, xl15⟩, xs15, xk15, xn15, xa15, xg15, xc15⟩
      | 16, _ => ⟨⟨_, _, _, _, _, _, _, _, _, _, _, _, _, _, xl16⟩, xs16, xk16, xn16, xa16, xg16, xc16⟩
      | 17, _ => ⟨⟨_, _, _, _, _, _, _, _, _, _, _, _, _, _, xl17⟩, xs17, xk17, xn17, xa17, xg17, xc17⟩
      | 18, _ => ⟨⟨_, _, _, _, _, _, _, _, _, _, _, _, _, _, xl18⟩, xs18, xk18, xn18, xa18, xg18, xc18⟩
      | 19, _ => ⟨⟨_, _, _, _, _, _, _, _, _, _, _, _, _, _, xl19⟩, xs19, xk19, xn19, xa19, xg19, xc19⟩
      | n + 20, h => absurd h (by omega)
  have at_ : ∀ i, i < 21 → L[i]? = some (L.getD i 0) := fun i hi => by
    have hl : i < L.length := by rw [← hL]; exact hi
    rw [List.getD_eq_getElem?_getD, List.getElem?_eq_getElem hl]; rfl
  have eP : L.getD 20 0 = CProgramError := by rw [← hL]; rfl
  have M : ErrM K (fun i => L.getD i 0) CProgramError := errM hT (lk_cls xlP) xtP (fun i j hi hj e => nd_ix xnd (at_ i (by omega)) (by rw [e]; exact at_ j (by omega))) (fun i hi e => by
    have z := nd_ix xnd (at_ i (by omega)) (by rw [← e, ← eP]; exact at_ 20 (by omega))
    omega) xsp xtk
  have ox : ∀ i, i < 20 → OexG K (L.getD i 0) := fun i hi => (hT i hi).oex (tlf_bas i) (bmf_tail _ i) (tlf_base i)
  have X : ErrH l.prog w K mg base (fun i => L.getD i 0) := by
    subst hL
    exact ⟨⟨_, _, _, ox 0 (by decide), aXI0, xt0, ok_XI0 FXI0 (ox 0 (by decide)) xn0, gInvalidText, bXI0⟩, ⟨_, _, _, ox 1 (by decide), aXI1, xt1, ok_XI1 FXI1 (ox 1 (by decide)) xn1, gInvalidSyntax, bXI1⟩, ⟨_, _, _, ox 2 (by decide), aXI2, xt2, ok_XI2 FXI2 (ox 2 (by decide)) xn2, gInvalidTree, bXI2⟩, ⟨_, _, _, ox 3 (by decide), aXI3, xt3, ok_XI3 FXI3 (ox 3 (by decide)) xn3, gDuplicateName, bXI3⟩, ⟨_, _, _, ox 4 (by decide), aXI4, xt4, ok_XI4 FXI4 (ox 4 (by decide)) xn4, gUnknownName, bXI4⟩, ⟨_, _, _, ox 5 (by decide), aXI5, xt5, ok_XI5 FXI5 (ox 5 (by decide)) xn5, gWrongArguments, bXI5⟩, ⟨_, _, _, ox 6 (by decide), aXI6, xt6, ok_XI6 FXI6 (ox 6 (by decide)) xn6, gInvalidFinally, bXI6⟩, ⟨_, _, _, ox 7 (by decide), aXI7, xt7, ok_XI7 FXI7 (ox 7 (by decide)) xn7, gTooLarge, bXI7⟩, ⟨_, _, _, ox 8 (by decide), aXI8, xt8, ok_XI8 FXI8 (ox 8 (by decide)) xn8, gInvalidRow, bXI8⟩, ⟨_, _, _, ox 9 (by decide), aXI9, xt9, ok_XI9 FXI9 (ox 9 (by decide)) xn9, gInvalidCase, bXI9⟩, ⟨_, _, _, ox 10 (by decide), aXI10, xt10, ok_XI10 FXI10 (ox 10 (by decide)) xn10, gInvalidEntry, bXI10⟩, ⟨_, _, _, ox 11 (by decide), aXI11, xt11, ok_XI11 FXI11 (ox 11 (by decide)) xn11, gInvalidChoices, bXI11⟩, ⟨_, _, _, ox 12 (by decide), aXI12, xt12, ok_XI12 FXI12 (ox 12 (by decide)) xn12, gInvalidInjection, bXI12⟩, ⟨_, _, _, ox 13 (by decide), aXI13, xt13, ok_XI13 FXI13 (ox 13 (by decide)) xn13, gInvalidOrder, bXI13⟩, ⟨_, _, _, ox 14 (by decide), aXI14, xt14, ok_XI14 FXI14 (ox 14 (by decide)) xn14, gInvalidEvent, bXI14⟩, ⟨_, _, _, ox 15 (by decide), aXI15, xt15, ok_XI15 FXI15 (ox 15 (by decide)) xn15, gInvalidValues, bXI15⟩, ⟨_, _, _, ox 16 (by decide), aXI16, xt16, ok_XI16 FXI16 (ox 16 (by decide)) xn16, gInvalidQuestion, bXI16⟩, ⟨_, _, _, ox 17 (by decide), aXI17, xt17, ok_XI17 FXI17 (ox 17 (by decide)) xn17, gInvalidCommand, bXI17⟩, ⟨_, _, _, ox 18 (by decide), aXI18, xt18, ok_XI18 FXI18 (ox 18 (by decide)) xn18, gUnknownFunction, bXI18⟩, ⟨_, _, _, ox 19 (by decide), aXI19, xt19, ok_XI19 FXI19 (ox 19 (by decide)) xn19, gLimitExceeded, bXI19⟩⟩
  have GM : Has l.prog w K mg base CX0 1 "_law_mixed" PMixed spMixed := ⟨_, _, ok_Mixed FMixed T0, gMixed, kMixed, bMixed⟩
  have GD : Has l.prog w K mg base CX0 2 "_law_draw" PDraw spDraw := ⟨_, _, ok_Draw FDraw T0 GM, gDraw, kDraw, bDraw⟩
  have GP : Has l.prog w K mg base CX0 1 "_law_pool" PPool (spPool K) := ⟨_, _, ok_Pool FPool T0, gPool, kPool, bPool⟩
  have GS : Has l.prog w K mg base (L2N.CX l.prog w) 3 "_law_second" PSecond (spErr 9 fun i => L.getD i 0) := ⟨_, _, ok_Second FSecond X, gSecond, kSecond, bSecond⟩
  have GF : Has l.prog w K mg base (L2N.CX l.prog w) 4 "_law_first" PFirst (spErr 0 fun i => L.getD i 0) := ⟨_, _, ok_First FFirst X GS, gFirst, kFirst, bFirst⟩
  have GE : Has l.prog w K mg base CX0 5 "_law_field" PField spField := ⟨_, _, ok_Field FField X M GF, gField, kField, bField⟩
  have GK : HasP l.prog w K mg base 1 "_law_kinds" PKinds (spKinds fun i => L.getD i 0) := ⟨_, _, ok_Kinds FKinds T X M, gKinds, kKinds, bKinds⟩
  exact ok_Law FLaw T gProgramError X M GP GD GF GE GK
theorem walk {l : PySem.W.OpenLaw} {q : Program} {loose : List Str} {XP : (Str → Option Value) → Heap → Prop} {YP : World → Heap → Prop} {d : DefRec} {K : Params → PySem.W.Frag} (hn : l.most = some 63) (hdf : d.params.defaults = [])
    (hY : ∀ (w : World) (h : Heap), YP w h → (K w.params).In h)
    (F : ∀ (w : World) (mg : Str → Option Value) (fa : Addr) (h : Heap), (K w.params).In h → h.Ns mainGlobals mg → mg d.name = some (.ref fa) →
      ∃ fd : FuncData, (∀ (s : Shared) (u : Value), BindsTo s fd ⟨[u], []⟩ [("_law_script", u)]) ∧ ∀ base : Heap, (K w.params).In base → base.Ns mainGlobals mg → FnOk l.prog w (K w.params) mg base CX0 6 fa fd PLaw (spLaw (K w.params))) :
    PySem.W.WalkO q loose XP YP l.row.toRowW d [] (fun f vs => PySem.call f vs) :=
  L2.walk_of (n := 63) (k := 6) (x := "_law_script") (CX := fun _ => CX0) (sp := fun w => spLaw (K w.params)) hn (by decide) hdf ⟨rfl, by decide, by decide⟩ hY F (fun _ _ a ns hl _ hS => ⟨a, ns, rfl, hS, hl, fun _ => rfl⟩) fun _ _ _ _ _ z => z
end Aon
open PySem PySem.W PyProof.Rows
set_option maxRecDepth 100000 in
set_option maxHeartbeats 0 in
theorem PySem.Challenge.cw_allornothing_k12_classes_of_errors_holds : PySem.Challenge.rw_allornothing_k12_classes_of_errors.Holds := by
  w_on; o_law; k_head; (case hw => w_witness2)
  k_fill
  refine Aon.walk (l := PySem.Challenge.rw_allornothing_k12_classes_of_errors) rfl rfl (fun w h Y => PySem.W.kIn_of Y) ?F
  case F =>
    intro w mg fa h KX G hmg
    refine' Aon.all_mk KX G hmg ?aSecond ?lSecond ?cSecond ?kSecond ?aFirst ?lFirst ?cFirst ?kFirst ?aField ?lField ?cField ?kField ?aMixed ?lMixed ?cMixed ?kMixed ?aDraw ?lDraw ?cDraw ?kDraw ?aPool ?lPool ?cPool ?kPool ?aKinds ?lKinds ?cKinds ?kKinds ?aLaw ?lLaw ?cLaw ?kLaw ?aInvalidText ?aXI0 ?iXI0 ?lXI0 ?cXI0 ?kXI0 ?aInvalidSyntax ?aXI1 ?iXI1 ?lXI1 ?cXI1 ?kXI1 ?aInvalidTree ?aXI2 ?iXI2 ?lXI2 ?cXI2 ?kXI2 ?aDuplicateName ?aXI3 ?iXI3 ?lXI3 ?cXI3 ?kXI3 ?aUnknownName ?aXI4 ?iXI4 ?lXI4 ?cXI4 ?kXI4 ?aWrongArguments ?aXI5 ?iXI5 ?lXI5 ?cXI5 ?kXI5 ?aInvalidFinally ?aXI6 ?iXI6 ?lXI6 ?cXI6 ?kXI6 ?aTooLarge ?aXI7 ?iXI7 ?lXI7 ?cXI7 ?kXI7 ?aInvalidRow ?aXI8 ?iXI8 ?lXI8 ?cXI8 ?kXI8 ?aInvalidCase ?aXI9 ?iXI9 ?lXI9 ?cXI9 ?kXI9 ?aInvalidEntry ?aXI10 ?iXI10 ?lXI10 ?cXI10 ?kXI10 ?aInvalidChoices ?aXI11 ?iXI11 ?lXI11 ?cXI11 ?kXI11 ?aInvalidInjection ?aXI12 ?iXI12 ?lXI12 ?cXI12 ?kXI12 ?aInvalidOrder ?aXI13 ?iXI13 ?lXI13 ?cXI13 ?kXI13 ?aInvalidEvent ?aXI14 ?iXI14 ?lXI14 ?cXI14 ?kXI14 ?aInvalidValues ?aXI15 ?iXI15 ?lXI15 ?cXI15 ?kXI15 ?aInvalidQuestion ?aXI16 ?iXI16 ?lXI16 ?cXI16 ?kXI16 ?aInvalidCommand ?aXI17 ?iXI17 ?lXI17 ?cXI17 ?kXI17 ?aUnknownFunction ?aXI18 ?iXI18 ?lXI18 ?cXI18 ?kXI18 ?aLimitExceeded ?aXI19 ?iXI19 ?lXI19 ?cXI19 ?kXI19 ?aProgramError ?n_int ?n_len ?n_isinstance ?n_range ?n_ValueError ?n_KeyError ?n_RuntimeError ?xl0 ?xs0 ?xk0 ?xn0 ?xa0 ?xg0 ?xc0 ?xt0 ?xl1 ?xs1 ?xk1 ?xn1 ?xa1 ?xg1 ?xc1 ?xt1 ?xl2 ?xs2 ?xk2 ?xn2 ?xa2 ?xg2 ?xc2 ?xt2 ?xl3 ?xs3 ?xk3 ?xn3 ?xa3 ?xg3 ?xc3 ?xt3 ?xl4 ?xs4 ?xk4 ?xn4 ?xa4 ?xg4 ?xc4 ?xt4 ?xl5 ?xs5 ?xk5 ?xn5 ?xa5 ?xg5 ?xc5 ?xt5 ?xl6 ?xs6 ?xk6 ?xn6 ?xa6 ?xg6 ?xc6 ?xt6 ?xl7 ?xs7 ?xk7 ?xn7 ?xa7 ?xg7 ?xc7 ?xt7 ?xl8 ?xs8 ?xk8 ?xn8 ?xa8 ?xg8 ?xc8 ?xt8 ?xl9 ?xs9 ?xk9 ?xn9 ?xa9 ?xg9 ?xc9 ?xt9 ?xl10 ?xs10 ?xk10 ?xn10 ?xa10 ?xg10 ?xc10 ?xt10 ?xl11 ?xs11 ?xk11 ?xn11 ?xa11 ?xg11 ?xc11 ?xt11 ?xl12 ?xs12 ?xk12 ?xn12 ?xa12 ?xg12 ?xc12 ?xt12 ?xl13 ?xs13 ?xk13 ?xn13 ?xa13 ?xg13 ?xc13 ?xt13 ?xl14 ?xs14 ?xk14 ?xn14 ?xa14 ?xg14 ?xc14 ?xt14 ?xl15 ?xs15 ?xk15 ?xn15 ?xa15 ?xg15 ?xc15 ?xt15 ?xl16 ?xs16 ?xk16 ?xn16 ?xa16 ?xg16 ?xc16 ?xt16 ?xl17 ?xs17 ?xk17 ?xn17 ?xa17 ?xg17 ?xc17 ?xt17 ?xl18 ?xs18 ?xk18 ?xn18 ?xa18 ?xg18 ?xc18 ?xt18 ?xl19 ?xs19 ?xk19 ?xn19 ?xa19 ?xg19 ?xc19 ?xt19 ?xlP ?xtP ?xsp ?xtk ?xnd
    (case aSecond => k_is)
    (case lSecond => k_is)
    (case cSecond => k_is)
    (case kSecond => k_is)
    (case aFirst => k_is)
    (case lFirst => k_is)
    (case cFirst => k_is)
    (case kFirst => k_is)
    (case aField => k_is)
    (case lField => k_is)
    (case cField => k_is)
    (case kField => k_is)
    (case aMixed => k_is)
    (case lMixed => k_is)
    (case cMixed => k_is)
    (case kMixed => k_is)
    (case aDraw => k_is)
    (case lDraw => k_is)
    (case cDraw => k_is)
    (case kDraw => k_is)
    (case aPool => k_is)
    (case lPool => k_is)
    (case cPool => k_is)
    (case kPool => k_is)
    (case aKinds => k_is)
    (case lKinds => k_is)
    (case cKinds => k_is)
    (case kKinds => k_is)
    (case aLaw => k_is)
    (case lLaw => k_is)
    (case cLaw => k_is)
    (case kLaw => k_is)
    (case aInvalidText => k_is)
    (case aXI0 => k_is)
    (case iXI0 => k_is)
    (case lXI0 => k_is)
    (case cXI0 => k_is)
    (case kXI0 => k_is)
    (case aInvalidSyntax => k_is)
    (case aXI1 => k_is)
    (case iXI1 => k_is)
    (case lXI1 => k_is)
    (case cXI1 => k_is)
    (case kXI1 => k_is)
    (case aInvalidTree => k_is)
    (case aXI2 => k_is)
    (case iXI2 => k_is)
    (case lXI2 => k_is)
    (case cXI2 => k_is)
    (case kXI2 => k_is)
    (case aDuplicateName => k_is)
    (case aXI3 => k_is)
    (case iXI3 => k_is)
    (case lXI3 => k_is)
    (case cXI3 => k_is)
    (case kXI3 => k_is)
    (case aUnknownName => k_is)
    (case aXI4 => k_is)
    (case iXI4 => k_is)
    (case lXI4 => k_is)
    (case cXI4 => k_is)
    (case kXI4 => k_is)
    (case aWrongArguments => k_is)
    (case aXI5 => k_is)
    (case iXI5 => k_is)
    (case lXI5 => k_is)
    (case cXI5 => k_is)
    (case kXI5 => k_is)
    (case aInvalidFinally => k_is)
    (case aXI6 => k_is)
    (case iXI6 => k_is)
    (case lXI6 => k_is)
    (case cXI6 => k_is)
    (case kXI6 => k_is)
    (case aTooLarge => k_is)
    (case aXI7 => k_is)
    (case iXI7 => k_is)
    (case lXI7 => k_is)
    (case cXI7 => k_is)
    (case kXI7 => k_is)
    (case aInvalidRow => k_is)
    (case aXI8 => k_is)
    (case iXI8 => k_is)
    (case lXI8 => k_is)
    (case cXI8 => k_is)
    (case kXI8 => k_is)
    (case aInvalidCase => k_is)
    (case aXI9 => k_is)
    (case iXI9 => k_is)
    (case lXI9 => k_is)
    (case cXI9 => k_is)
    (case kXI9 => k_is)
    (case aInvalidEntry => k_is)
    (case aXI10 => k_is)
    (case iXI10 => k_is)
    (case lXI10 => k_is)
    (case cXI10 => k_is)
    (case kXI10 => k_is)
    (case aInvalidChoices => k_is)
    (case aXI11 => k_is)
    (case iXI11 => k_is)
    (case lXI11 => k_is)
    (case cXI11 => k_is)
    (case kXI11 => k_is)
    (case aInvalidInjection => k_is)
    (case aXI12 => k_is)
    (case iXI12 => k_is)
    (case lXI12 => k_is)
    (case cXI12 => k_is)
    (case kXI12 => k_is)
    (case aInvalidOrder => k_is)
    (case aXI13 => k_is)
    (case iXI13 => k_is)
    (case lXI13 => k_is)
    (case cXI13 => k_is)
    (case kXI13 => k_is)
    (case aInvalidEvent => k_is)
    (case aXI14 => k_is)
    (case iXI14 => k_is)
    (case lXI14 => k_is)
    (case cXI14 => k_is)
    (case kXI14 => k_is)
    (case aInvalidValues => k_is)
    (case aXI15 => k_is)
    (case iXI15 => k_is)
    (case lXI15 => k_is)
    (case cXI15 => k_is)
    (case kXI15 => k_is)
    (case aInvalidQuestion => k_is)
    (case aXI16 => k_is)
    (case iXI16 => k_is)
    (case lXI16 => k_is)
    (case cXI16 => k_is)
    (case kXI16 => k_is)
    (case aInvalidCommand => k_is)
    (case aXI17 => k_is)
    (case iXI17 => k_is)
    (case lXI17 => k_is)
    (case cXI17 => k_is)
    (case kXI17 => k_is)
    (case aUnknownFunction => k_is)
    (case aXI18 => k_is)
    (case iXI18 => k_is)
    (case lXI18 => k_is)
    (case cXI18 => k_is)
    (case kXI18 => k_is)
    (case aLimitExceeded => k_is)
    (case aXI19 => k_is)
    (case iXI19 => k_is)
    (case lXI19 => k_is)
    (case cXI19 => k_is)
    (case kXI19 => k_is)
    (case aProgramError => k_is)
    (case n_int => k_is)
    (case n_len => k_is)
    (case n_isinstance => k_is)
    (case n_range => k_is)
    (case n_ValueError => k_is)
    (case n_KeyError => k_is)
    (case n_RuntimeError => k_is)
    (case xl0 => k_is)
    (case xs0 => k_is)
    (case xk0 => k_is)
    (case xn0 => k_is)
    (case xa0 => k_is)
    (case xg0 => k_is)
    (case xc0 => k_is)
    (case xt0 => k_is)
    (case xl1 => k_is)
    (case xs1 => k_is)
    (case xk1 => k_is)
    (case xn1 => k_is)
    (case xa1 => k_is)
    (case xg1 => k_is)
    (case xc1 => k_is)
    (case xt1 => k_is)
    (case xl2 => k_is)
    (case xs2 => k_is)
    (case xk2 => k_is)
    (case xn2 => k_is)
    (case xa2 => k_is)
    (case xg2 => k_is)
    (case xc2 => k_is)
    (case xt2 => k_is)
    (case xl3 => k_is)
    (case xs3 => k_is)
    (case xk3 => k_is)
    (case xn3 => k_is)
    (case xa3 => k_is)
    (case xg3 => k_is)
    (case xc3 => k_is)
    (case xt3 => k_is)
    (case xl4 => k_is)
    (case xs4 => k_is)
    (case xk4 => k_is)
    (case xn4 => k_is)
    (case xa4 => k_is)
    (case xg4 => k_is)
    (case xc4 => k_is)
    (case xt4 => k_is)
    (case xl5 => k_is)
    (case xs5 => k_is)
    (case xk5 => k_is)
    (case xn5 => k_is)
    (case xa5 => k_is)
    (case xg5 => k_is)
    (case xc5 => k_is)
    (case xt5 => k_is)
    (case xl6 => k_is)
    (case xs6 => k_is)
    (case xk6 => k_is)
    (case xn6 => k_is)
    (case xa6 => k_is)
    (case xg6 => k_is)
    (case xc6 => k_is)
    (case xt6 => k_is)
    (case xl7 => k_is)
    (case xs7 => k_is)
    (case xk7 => k_is)
    (case xn7 => k_is)
    (case xa7 => k_is)
    (case xg7 => k_is)
    (case xc7 => k_is)
    (case xt7 => k_is)
    (case xl8 => k_is)
    (case xs8 => k_is)
    (case xk8 => k_is)
    (case xn8 => k_is)
    (case xa8 => k_is)
    (case xg8 => k_is)
    (case xc8 => k_is)
    (case xt8 => k_is)
    (case xl9 => k_is)
    (case xs9 => k_is)
    (case xk9 => k_is)
    (case xn9 => k_is)
    (case xa9 => k_is)
    (case xg9 => k_is)
    (case xc9 => k_is)
    (case xt9 => k_is)
    (case xl10 => k_is)
    (case xs10 => k_is)
    (case xk10 => k_is)
    (case xn10 => k_is)
    (case xa10 => k_is)
    (case xg10 => k_is)
    (case xc10 => k_is)
    (case xt10 => k_is)
    (case xl11 => k_is)
    (case xs11 => k_is)
    (case xk11 => k_is)
    (case xn11 => k_is)
    (case xa11 => k_is)
    (case xg11 => k_is)
    (case xc11 => k_is)
    (case xt11 => k_is)
    (case xl12 => k_is)
    (case xs12 => k_is)
    (case xk12 => k_is)
    (case xn12 => k_is)
    (case xa12 => k_is)
    (case xg12 => k_is)
    (case xc12 => k_is)
    (case xt12 => k_is)
    (case xl13 => k_is)
    (case xs13 => k_is)
    (case xk13 => k_is)
    (case xn13 => k_is)
    (case xa13 => k_is)
    (case xg13 => k_is)
    (case xc13 => k_is)
    (case xt13 => k_is)
    (case xl14 => k_is)
    (case xs14 => k_is)
    (case xk14 => k_is)
    (case xn14 => k_is)
    (case xa14 => k_is)
    (case xg14 => k_is)
    (case xc14 => k_is)
    (case xt14 => k_is)
    (case xl15 => k_is)
    (case xs15 => k_is)
    (case xk15 => k_is)
    (case xn15 => k_is)
    (case xa15 => k_is)
    (case xg15 => k_is)
    (case xc15 => k_is)
    (case xt15 => k_is)
    (case xl16 => k_is)
    (case xs16 => k_is)
    (case xk16 => k_is)
    (case xn16 => k_is)
    (case xa16 => k_is)
    (case xg16 => k_is)
    (case xc16 => k_is)
    (case xt16 => k_is)
    (case xl17 => k_is)
    (case xs17 => k_is)
    (case xk17 => k_is)
    (case xn17 => k_is)
    (case xa17 => k_is)
    (case xg17 => k_is)
    (case xc17 => k_is)
    (case xt17 => k_is)
    (case xl18 => k_is)
    (case xs18 => k_is)
    (case xk18 => k_is)
    (case xn18 => k_is)
    (case xa18 => k_is)
    (case xg18 => k_is)
    (case xc18 => k_is)
    (case xt18 => k_is)
    (case xl19 => k_is)
    (case xs19 => k_is)
    (case xk19 => k_is)
    (case xn19 => k_is)
    (case xa19 => k_is)
    (case xg19 => k_is)
    (case xc19 => k_is)
    (case xt19 => k_is)
    (case xlP => k_is)
    (case xtP => k_is)
    (case xsp => k_is)
    (case xtk => k_is)
    (case xnd => decide)
#print axioms PySem.Challenge.cw_allornothing_k12_classes_of_errors_holds

