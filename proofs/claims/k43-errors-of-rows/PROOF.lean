import PyProof.Rows.All
import Wide.All
import OpenK.AllK
import Wide.FinOn
import HandS.ForMost
import HandS.Wide
import HandS.IsInst
import HandS.Walk
import HandS.Flow
import HandS.Property
import HandS.Star
import HandS.DictComp
import HandS.Conv
import HandS.Zip
import HandS.SortKw
import HandS.MapSum
import HandS.Text
import HandS.TryOnly
import HandS.FStr
import HandS.TupAny
import HandS.Codes
import HandS.Replace
import HandS.ReplaceList
import PyProof.StrBlock
import PyProof.RulesMatchSeq
import PyProof.Rows.MatchSeqLen
import KE.GoesEnumKw
import KE.KTurns
import KE.GoesMore
import PyProof.GenRules
import HandS.GenList
import HandS.OwnEq
import HandS.TupLe
import HandS.TryMany
import HandS.ExcInit
import HandS.ExcInitHot
import HandS.ExcIs
import HandS.ExcField
import HandS.WordsExc
import HandS.DeepEq
import HandS.Deep
import KE.KExcInit
import KE.KStateDown
import HandS.Defaults
import HandS.Head0
import HandS.Head1
import HandS.Head2
import HandS.HeadEnd
import HandS.HeadHook1
import HandS.HeadHook2
import HandS.Strs
import HandS.SetFor
import HandS.TupSets
import HandS.ClsMeth
import HandS.HeadNt
import PySem.Challenge.RW_allornothing_k43_errors_of_rows
import HandS.Records
import HandS.TupMul
import KE.KRevSl
import PyProof.FactsAll.enumerate_1
import PyProof.InstEq
import PyProof.ReprRoads
import HandS.EndTab
import HandS.ExcValue
import HandS.RaiseMore
import KE.KWithOwn
import HandS.Finally
import HandS.Lambda
import HandS.HeadWalk
set_option Elab.async false
set_option linter.all false
set_option maxRecDepth 100000
set_option maxHeartbeats 4000000
namespace Aon
open PySem L2
def topS (i : Nat) : Stmt := PySem.Challenge.pw_allornothing_k43_errors_of_rows.main.body.getD i (.Pass ⟨0, 0, 0, 0⟩)

/-! ### words of this text, over HandS -/
theorem bb_int : bootBuiltins "int" = some (.type "int") := by decide +kernel
theorem bb_str : bootBuiltins "str" = some (.type "str") := by decide +kernel
theorem bb_bool : bootBuiltins "bool" = some (.type "bool") := by decide +kernel
theorem bb_list : bootBuiltins "list" = some (.type "list") := by decide +kernel
theorem bb_tuple : bootBuiltins "tuple" = some (.type "tuple") := by decide +kernel
theorem bb_len : bootBuiltins "len" = some (.builtin "len") := by decide +kernel
theorem bb_all : bootBuiltins "all" = some (.builtin "all") := by decide +kernel
theorem bb_isinstance : bootBuiltins "isinstance" = some (.builtin "isinstance") := by decide +kernel
/-- a def that stands under its name: its promise, and how it is called -/
structure Has (P : Program) (w : World) (K : PySem.W.Frag) (mg : Str → Option Value) (base : Heap) (CX : CXT) (k : Nat) (x : Str) (ps : List Str) (sp : Sp) : Prop where
  ex : ∃ (f : Addr) (fd : FuncData), FnOk P w K mg base CX k f fd ps sp ∧ mg x = some (.ref f) ∧ PySem.W.keepIn K (.ref f) = true ∧ Binds K fd ps []
section
variable {X : Cx}
theorem pe_callH {CX : CXT} {k : Nat} {x : Str} {ps : List Str} {sp : Sp} {E : XK} {e : Expr} {es : List Expr} {t : TA} {p pos : Pos} (F : Has X.prog X.w X.K X.mg X.base CX k x ps sp) (hr : Room k X.A) (hg : Gl X x) (hx : Passes CX X E) (ha : PA X (e :: es) t)
    (hd : (x == ("__debug__" : Str)) = false := by decide) (he : starEach (e :: es) X.env = (false, eval e X.env) :: starEach es X.env := by rfl) (hpl : (backTo pos (starEach es X.env)).any (·.1) = false := by rfl) :
    PE X (.Call (.Name x p) (e :: es) [] pos) (tCall sp [] E t) := by
  obtain ⟨f, fd, F, m, kp, b⟩ := F.ex
  exact pe_call F hr hg m kp b .nil hx ha hd he hpl
theorem pe_callH0 {CX : CXT} {k : Nat} {x : Str} {ps : List Str} {sp : Sp} {E : XK} {p pos : Pos} (F : Has X.prog X.w X.K X.mg X.base CX k x ps sp) (hr : Room k X.A) (hg : Gl X x) (hx : Passes CX X E) (hd : (x == ("__debug__" : Str)) = false := by decide) :
    PE X (.Call (.Name x p) [] [] pos) (tCall sp [] E tNil) := by
  obtain ⟨f, fd, F, m, kp, b⟩ := F.ex
  exact pe_call0 F hr hg m kp b .nil hx hd
theorem pe_globE {x : Str} {v : V} {pos : Pos} (hg : Gl X x) (hm : ∃ u, X.mg x = some u ∧ RelV v u) (hd : (x == ("__debug__" : Str)) = false := by decide) : PE X (.Name x pos) (tC v) := by
  obtain ⟨u, m, r⟩ := hm
  exact pe_glob hg m r hd
end
/-- a method of the class at C; a class under its name -/
structure HasM (P : Program) (w : World) (K : PySem.W.Frag) (mg : Str → Option Value) (base : Heap) (CX : CXT) (k : Nat) (C : Addr) (m : Str) (ps : List Str) (sp : Sp) : Prop where
  ex : ∃ (f : Addr) (fd : FuncData), Meth K C m f ∧ FnOk P w K mg base CX k f fd ps sp ∧ Binds K fd ps []
structure HasC (P : Program) (w : World) (K : PySem.W.Frag) (mg : Str → Option Value) (base : Heap) (CX : CXT) (k : Nat) (x : Str) (C : Addr) (ps : List Str) (sp : Sp) : Prop where
  ex : ∃ (f : Addr) (fd : FuncData), Mk K C f ∧ FnOk P w K mg base CX k f fd ps sp ∧ mg x = some (.ref C) ∧ Binds K fd ps []
section
variable {X : Cx}
theorem pe_methH {CX : CXT} {k : Nat} {C : Addr} {m : Str} {ps : List Str} {sp : Sp} {E : XK} {o e : Expr} {es : List Expr} {ta : TE} {t : TA} {apos pos : Pos} {pl : Sem Bool} (he : PE X o ta) (c : Cls X.K C) (M : HasM X.prog X.w X.K X.mg X.base CX k C m ps sp) (hr : Room k X.A) (hx : Passes CX X E)
    (ha : PA X (e :: es) t) (hst : starEach (e :: es) X.env = (false, eval e X.env) :: starEach es X.env := by rfl) (hpl : (backTo pos (starEach es X.env)).any (·.1) = false := by rfl)
    (ht : eval (.Call (.Attribute o m apos) (e :: es) [] pos) X.env = (do
      let v ← eval o X.env
      standAt apos.atName
      let (g, r) ← holding [v] (getMethod v m pl)
      callWith pos g r (backTo pos (starEach (e :: es) X.env)) (backToKw pos (keywordEach [] X.env))) := by rfl) : PE X (.Call (.Attribute o m apos) (e :: es) [] pos) (tMeth C m sp [] E ta t) := by
  obtain ⟨f, fd, hm, F, b⟩ := M.ex
  exact pe_meth (pl := pl) he c hm F hr b .nil hx ha hst hpl ht
theorem pe_methH0 {CX : CXT} {k : Nat} {C : Addr} {m : Str} {ps : List Str} {sp : Sp} {E : XK} {o : Expr} {ta : TE} {apos pos : Pos} {pl : Sem Bool} (he : PE X o ta) (c : Cls X.K C) (M : HasM X.prog X.w X.K X.mg X.base CX k C m ps sp) (hr : Room k X.A) (hx : Passes CX X E)
    (ht : eval (.Call (.Attribute o m apos) [] [] pos) X.env = (do
      let v ← eval o X.env
      standAt apos.atName
      let (g, r) ← holding [v] (getMethod v m pl)
      callWith pos g r (backTo pos (starEach [] X.env)) (backToKw pos (keywordEach [] X.env))) := by rfl) : PE X (.Call (.Attribute o m apos) [] [] pos) (tMeth C m sp [] E ta tNil) := by
  obtain ⟨f, fd, hm, F, b⟩ := M.ex
  exact pe_meth0 (pl := pl) he c hm F hr b .nil hx ht
theorem pe_makeH {CX : CXT} {k : Nat} {x : Str} {C : Addr} {ps : List Str} {sp : Sp} {E : XK} {e : Expr} {es : List Expr} {t : TA} {p pos : Pos} (M : HasC X.prog X.w X.K X.mg X.base CX k x C ps sp) (hr : Room (k + 1) X.A) (hg : Gl X x) (hx : Passes CX X E) (ha : PA X (e :: es) t)
    (hd : (x == ("__debug__" : Str)) = false := by decide) (he : starEach (e :: es) X.env = (false, eval e X.env) :: starEach es X.env := by rfl) (hpl : (backTo pos (starEach es X.env)).any (·.1) = false := by rfl) :
    PE X (.Call (.Name x p) (e :: es) [] pos) (tMake C sp [] E t) := by
  obtain ⟨f, fd, mk, F, m, b⟩ := M.ex
  exact pe_make mk F hr hg m b .nil hx ha hd he hpl
theorem pe_propH {CX : CXT} {k : Nat} {C p : Addr} {f : Str} {ps : List Str} {sp : Sp} {E : XK} {e : Expr} {ta : TE} {pos : Pos} (he : PE X e ta) (c : Cls X.K C) (M : ∃ (g : Addr) (fd : FuncData), PropOf X.K C f p g ∧ FnOk X.prog X.w X.K X.mg X.base CX k g fd ps sp ∧ Binds X.K fd ps []) (hr : Room (k + 1) X.A) (hx : Passes CX X.nox E)
    (hab : attributeBase e f X.env (eval e X.env) = eval e X.env := by rfl) : PE X (.Attribute e f pos) (tProp C sp [] E ta) := by
  obtain ⟨g, fd, hp, F, b⟩ := M
  exact pe_prop he c hp F hr b .nil hx hab
end
/-- all but p and c stands -/
def But (p c : Addr) (H H' : Hp) : Prop := ∀ b o, H b = some o → b ≠ p → b ≠ c → H' b = some o
theorem But.refl {p c : Addr} {H : Hp} : But p c H H := fun _ _ e _ _ => e
theorem But.trans {p c : Addr} {H H1 H2 : Hp} (a : But p c H H1) (b : But p c H1 H2) : But p c H H2 := fun x o e h1 h2 => b x o (a x o e h1 h2) h1 h2
theorem iteE {c : Bool} {A B : Prop} (hc : c = false) (k : B) : if c = true then A else B := by
  rw [hc]
  exact iteF k
theorem iteS {c : Bool} {A B : Prop} (hc : c = true) (k : A) : if c = true then A else B := by
  rw [hc]
  exact iteT k

def dOf : V → PyData
  | .non => .none | .bl b => .bool b | .int i => .int i | .str z => .str z | _ => .none
theorem dp_flat {K : PySem.W.Frag} {H : Hp} {v : V} (h : flatV v = true) : Dp K H v (dOf v) := by
  cases v with
  | non => exact .non
  | bl b => exact .bl b
  | int i => exact .int i
  | str z => exact .str z
  | _ => cases h
theorem dpAll_flat {K : PySem.W.Frag} {H : Hp} : ∀ {xs : List V}, xs.all flatV = true → DpAll K H xs (xs.map dOf)
  | [], _ => .nil
  | x :: xs, h => by
    rw [List.all_cons, Bool.and_eq_true] at h
    exact .cons (dp_flat h.1) (dpAll_flat h.2)
/-! shapes -/
def okV : V → Bool
  | .str z => PyData.strOk z
  | _ => true
theorem lay_dOf {v : V} (h : okV v = true) : (dOf v).canLay0 = true := by
  cases v with
  | str z => simpa [dOf, PyData.canLay0, okV] using h
  | _ => simp [dOf, PyData.canLay0]
theorem layAll_dOf : ∀ {xs : List V}, xs.all okV = true → PyData.canLayAll0 (xs.map dOf) = true
  | [], _ => by simp [PyData.canLayAll0]
  | x :: xs, h => by
    rw [List.all_cons, Bool.and_eq_true] at h
    simp only [List.map_cons, PyData.canLayAll0, Bool.and_eq_true]
    exact ⟨lay_dOf h.1, layAll_dOf h.2⟩
theorem depth_dOf (v : V) : (dOf v).depth = 0 := by cases v <;> simp [dOf, PyData.depth]
theorem depthAll_dOf : ∀ xs : List V, PyData.depthAll (xs.map dOf) = 0
  | [] => by simp [PyData.depthAll]
  | x :: xs => by simp only [List.map_cons, PyData.depthAll, depth_dOf, depthAll_dOf xs]; rfl
theorem shaped_tup {xs : List V} (h : xs.all okV = true) : SeqAt.shaped (.tuple (xs.map dOf)) = true := by
  unfold SeqAt.shaped
  simp only [PyData.canLay0, PyData.depth, layAll_dOf h, depthAll_dOf, Bool.true_and]
  decide

/-! ### zip(a, b, strict=True): the rule, for lists and tuples -/
section
variable {prog : Program} {w : World} {A : Around} {E : Value → Shared → Prop} {s : Shared}
/-- one of the two iterators under a zip: what it walks, where it stands -/
structure ZSrc (prog : Program) (w : World) (it src : Addr) (vs : Array Value) (S : Nat → Heap → Prop) : Prop where
  item : ∀ {A : Around} {E : Value → Shared → Prop} {s : Shared} {i : Nat} {x : Value} {Q : Value → Shared → Prop}, S i s.heap → vs[i]? = some x → (∀ h', S (i + 1) h' → Heap.SameBut it s.heap h' → Q x { s with heap := h' }) → wpAny (model prog w) A (Builtin.SmallTypes.nextOf (.ref it)) Q E s
  stop : ∀ {A : Around} {E : Value → Shared → Prop} {s : Shared} {i : Nat} {Q : Value → Shared → Prop}, A.handled = none → S i s.heap → vs[i]? = none →
    (∀ h' e, Heap.ExtBut it s.heap h' → (∃ o, h'.get? e = some o ∧ o.cls = .type "StopIteration") → E (.ref e) { s with heap := h' }) → wpAny (model prog w) A (Builtin.SmallTypes.nextOf (.ref it)) Q E s
  ext : ∀ {i : Nat} {h h' : Heap}, S i h → (∀ b, b = it ∨ b = src → ∀ o, h.get? b = some o → h'.get? b = some o) → S i h'
def zsT (it src : Addr) (vs : Array Value) (i : Nat) (h : Heap) : Prop := h.IsTupleIter it src i ∧ h.IsTuple src vs
def zsL (it src : Addr) (vs : Array Value) (i : Nat) (h : Heap) : Prop := h.IsListIter it src i ∧ h.IsList src vs
theorem zsrc_T {it src : Addr} {vs : Array Value} (ne : src ≠ it) : ZSrc prog w it src vs (zsT it src vs) where
  item := fun st hx k => RZ.nextOf_tuple_item st.1 st.2 hx fun h' q sb => k h' ⟨q, st.2.extBut sb.extBut ne⟩ sb
  stop := fun hh st hx k => RZ.nextOf_tuple_end hh st.1 st.2 hx k
  ext := fun st k => ⟨st.1.at fun o q => k _ (.inl rfl) o q, let ⟨o, ho, r⟩ := st.2; ⟨o, k _ (.inr rfl) o ho, r⟩⟩
theorem zsrc_L {it src : Addr} {vs : Array Value} (ne : src ≠ it) : ZSrc prog w it src vs (zsL it src vs) where
  item := fun st hx k => wpAny_nextOf_list_item st.1 st.2 hx fun h' q sb => k h' ⟨q, st.2.extBut sb.extBut ne⟩ sb
  stop := fun hh st hx k => wpAny_nextOf_list_end hh st.1 st.2 hx k
  ext := fun st k => ⟨st.1.at fun o q => k _ (.inl rfl) o q, let ⟨o, ho, r⟩ := st.2; ⟨o, k _ (.inr rfl) o ho, r⟩⟩
/-- the strict zip's own object -/
def ZipS (h : Heap) (z TI TO : Addr) (f0 : Value) : Prop := h.get? z = some { cls := .type "zip", dict := none, data := .fields #[f0, .bool false, .bool true, .ref TI, .ref TO], slots := #[] }
theorem draw_item {it src : Addr} {vs : Array Value} {S : Nat → Heap → Prop} (Z : ZSrc prog w it src vs S) {i : Nat} {x : Value} {Q : Option Value → Shared → Prop} (st : S i s.heap) (hx : vs[i]? = some x)
    (k : ∀ h', S (i + 1) h' → Heap.SameBut it s.heap h' → Q (some x) { s with heap := h' }) : wpAny (model prog w) A (Builtin.SmallTypes.nextOrEnd (.ref it)) Q E s := by
  unfold Builtin.SmallTypes.nextOrEnd
  exact wpAny_bind (wpAny_attempt (Z.item st hx fun h' q sb => wpAny_pure (k h' q sb)))
theorem draw_stop {it src : Addr} {vs : Array Value} {S : Nat → Heap → Prop} (Z : ZSrc prog w it src vs S) {i : Nat} {Q : Option Value → Shared → Prop} (hh : A.handled = none) (st : S i s.heap) (hx : vs[i]? = none)
    (k : ∀ h', Heap.ExtBut it s.heap h' → Q none { s with heap := h' }) : wpAny (model prog w) A (Builtin.SmallTypes.nextOrEnd (.ref it)) Q E s := by
  unfold Builtin.SmallTypes.nextOrEnd
  refine wpAny_bind (wpAny_attempt (Z.stop hh st hx fun h' e eb ⟨o, ho, hc⟩ => ?_))
  refine wpAny_bind (wpAny_isInstance (T := "StopIteration") (b := true) ⟨o, ho, hc⟩ isSubtype_stop ?_)
  exact wpAny_pure (k h' eb)
variable {z TI TO i1 i2 l1 l2 : Addr} {k1 k2 : Nat} {xs ys : Array Value} {x y a b : Value} {S1 S2 : Nat → Heap → Prop}
theorem zs_item {Q : Value → Shared → Prop} (D : ZipApart z TI TO i1 i2 l1 l2) (Z1 : ZSrc prog w i1 l1 xs S1) (Z2 : ZSrc prog w i2 l2 ys S2)
    (hz : ZipS s.heap z TI TO .none) (hTI : IsPair s.heap TI (.ref i1) (.ref i2)) (hTO : IsPair s.heap TO a b) (h1 : S1 k1 s.heap) (h2 : S2 k2 s.heap) (hx : xs[k1]? = some x) (hy : ys[k2]? = some y)
    (hQ : ∀ h', ZipS h' z TI TO (rawInt s.heap.objs.size) → IsPair h' TO x y → S1 (k1 + 1) h' → S2 (k2 + 1) h' → IsPair h' s.heap.objs.size x y → h'.objs.size = s.heap.objs.size + 1 →
      (∀ c o, c ≠ z → c ≠ TO → c ≠ i1 → c ≠ i2 → s.heap.get? c = some o → h'.get? c = some o) → Q (.ref s.heap.objs.size) { s with heap := h' }) :
    wpAny (model prog w) A (Builtin.«zip.__next__» ⟨[.ref z], []⟩) (fun fin s' => ∃ v, fin = .done (.ret v) ∧ Q v s') E s := by
  have two : ∀ {c it src : Addr} {h h' : Heap}, Heap.SameBut c h h' → it ≠ c → src ≠ c → ∀ b, b = it ∨ b = src → ∀ o, h.get? b = some o → h'.get? b = some o := fun {c it src h h'} sb n1 n2 b hb o q => by
    rcases hb with rfl | rfl
    · exact sb.extBut _ _ n1 q
    · exact sb.extBut _ _ n2 q
  show wpAny _ _ (field (.ref z) 2 >>= _) _ _ _
  refine wpAny_bind (wpAny_field hz rfl (x := .bool true) rfl ?_)
  show wpAny _ _ (field (.ref z) 3 >>= _) _ _ _
  refine wpAny_bind (wpAny_field hz rfl (x := .ref TI) rfl (wpAny_bind (wpAny_seqItems hTI rfl ?_)))
  show wpAny _ _ (Builtin.SmallTypes.ownedTupleIsFree (.ref z) >>= _) _ _ _
  refine wpAny_bind ?_
  unfold Builtin.SmallTypes.ownedTupleIsFree
  refine wpAny_bind (wpAny_field hz rfl (x := .none) rfl (wpAny_pure ?_))
  simp only [if_true]
  refine wpAny_bind (wpAny_rule (wpAny_bind (wpAny_field hz rfl (x := .ref TO) rfl ?_)))
  refine wpAny_bind (wpAny_setField_rec hz (by simp) fun g1 z1 b1 => ?_)
  replace z1 : ZipS g1 z TI TO .ellipsis := z1
  refine wpAny_bind ?_
  simp only [List.zipIdx_cons, List.zipIdx_nil, List.forIn_cons, List.forIn_nil]
  refine wpAny_bind (wpAny_bind (wpAny_onRaise ?_))
  show wpAny _ _ (Builtin.SmallTypes.nextOrEnd (.ref i1)) _ _ _
  refine draw_item Z1 (Z1.ext h1 (two b1 D.i1z D.l1z)) hx fun g2 q2 b2 => ?_
  have t2 : IsPair g2 TO a b := b2.extBut _ _ D.TOi1 (b1.extBut _ _ D.TOz hTO)
  refine wpAny_bind (wpAny_seqItems t2 rfl (wpAny_bind (wpAny_updateSeq_pair t2 fun g3 t3 b3 => ?_)))
  replace t3 : IsPair g3 TO x b := t3
  refine wpAny_bind (wpAny_letGo (wpAny_pure ?_))
  refine wpAny_bind (wpAny_bind (wpAny_onRaise ?_))
  show wpAny _ _ (Builtin.SmallTypes.nextOrEnd (.ref i2)) _ _ _
  refine draw_item Z2 (Z2.ext (Z2.ext (Z2.ext h2 (two b1 D.i2z D.l2z)) (two b2 D.i12.symm D.l2i1)) (two b3 D.TOi2.symm D.l2TO)) hy fun g4 q4 b4 => ?_
  have t4 : IsPair g4 TO x b := b4.extBut _ _ D.TOi2 t3
  refine wpAny_bind (wpAny_seqItems t4 rfl (wpAny_bind (wpAny_updateSeq_pair t4 fun g5 t5 b5 => ?_)))
  replace t5 : IsPair g5 TO x y := t5
  refine wpAny_bind (wpAny_letGo (wpAny_pure (wpAny_pure ?_)))
  refine wpAny_bind (wpAny_seqItems t5 rfl (wpAny_bind (wpAny_newTuple ?_)))
  have hsz : g5.objs.size = s.heap.objs.size := by rw [b5.1, b4.1, b3.1, b2.1, b1.1]
  have z5 : ZipS g5 z TI TO .ellipsis := b5.extBut _ _ D.TOz.symm (b4.extBut _ _ D.i2z.symm (b3.extBut _ _ D.TOz.symm (b2.extBut _ _ D.i1z.symm z1)))
  have k5 : ∀ c o, c ≠ z → c ≠ TO → c ≠ i1 → c ≠ i2 → s.heap.get? c = some o → g5.get? c = some o := fun c o c1 c2 c3 c4 e =>
    b5.extBut _ _ c2 (b4.extBut _ _ c4 (b3.extBut _ _ c2 (b2.extBut _ _ c3 (b1.extBut _ _ c1 e))))
  have p5 : S1 (k1 + 1) g5 := Z1.ext (Z1.ext (Z1.ext q2 (two b3 D.TOi1.symm D.l1TO)) (two b4 D.i12 D.l1i2)) (two b5 D.TOi1.symm D.l1TO)
  have r5 : S2 (k2 + 1) g5 := Z2.ext q4 (two b5 D.TOi2.symm D.l2TO)
  have zlt : z < g5.objs.size := Heap.lt_size z5
  show wpAny _ _ (Builtin.SmallTypes.ownedTupleHandOut (.ref z) (.ref g5.objs.size) >>= _) _ _ _
  refine wpAny_bind ?_
  unfold Builtin.SmallTypes.ownedTupleHandOut
  have z6 : ZipS (g5.push { cls := .type "tuple", data := .seq #[x, y] }) z TI TO .ellipsis := Heap.get?_push_of_some _ z5
  refine wpAny_bind (wpAny_setField_rec z6 (by simp) fun g7 z7 b7 => ?_)
  replace z7 : ZipS g7 z TI TO (rawInt g5.objs.size) := z7
  refine wpAny_setField_rec z7 (by simp) fun g8 z8 b8 => ?_
  replace z8 : ZipS g8 z TI TO (rawInt g5.objs.size) := z8
  have up : ∀ c o, c ≠ z → g5.get? c = some o → g8.get? c = some o := fun c o c1 e => b8.extBut _ _ c1 (b7.extBut _ _ c1 (Heap.get?_push_of_some _ e))
  have T8 : IsPair g8 g5.objs.size x y := b8.extBut _ _ (Nat.ne_of_gt zlt) (b7.extBut _ _ (Nat.ne_of_gt zlt) (Heap.get?_push_size _ rfl))
  have n8 : g8.objs.size = g5.objs.size + 1 := by rw [b8.1, b7.1, Heap.size_push]
  rw [hsz] at z8 T8 n8
  refine wpAny_pure ⟨_, rfl, ?_⟩
  show Q (.ref g5.objs.size) _
  rw [hsz]
  refine hQ g8 z8 (up _ _ D.TOz t5) (Z1.ext p5 fun c hc o q => ?_) (Z2.ext r5 fun c hc o q => ?_) T8 n8 fun c o c1 c2 c3 c4 e => up c o c1 (k5 c o c1 c2 c3 c4 e)
  · rcases hc with rfl | rfl
    · exact up _ _ D.i1z q
    · exact up _ _ D.l1z q
  · rcases hc with rfl | rfl
    · exact up _ _ D.i2z q
    · exact up _ _ D.l2z q
theorem zs_stop {Q : PySem.Fin → Shared → Prop} (hh : A.handled = none) (D : ZipApart z TI TO i1 i2 l1 l2) (Z1 : ZSrc prog w i1 l1 xs S1) (Z2 : ZSrc prog w i2 l2 ys S2)
    (hz : ZipS s.heap z TI TO .none) (hTI : IsPair s.heap TI (.ref i1) (.ref i2)) (hTO : IsPair s.heap TO a b) (h1 : S1 k1 s.heap) (h2 : S2 k2 s.heap) (hx : xs[k1]? = none) (hy : ys[k2]? = none)
    (hE : ∀ h' e, (∀ c o, c ≠ z → c ≠ TO → c ≠ i1 → c ≠ i2 → s.heap.get? c = some o → h'.get? c = some o) → (∃ o, h'.get? e = some o ∧ o.cls = .type "StopIteration") → E (.ref e) { s with heap := h' }) :
    wpAny (model prog w) A (Builtin.«zip.__next__» ⟨[.ref z], []⟩) Q E s := by
  show wpAny _ _ (field (.ref z) 2 >>= _) _ _ _
  refine wpAny_bind (wpAny_field hz rfl (x := .bool true) rfl ?_)
  show wpAny _ _ (field (.ref z) 3 >>= _) _ _ _
  refine wpAny_bind (wpAny_field hz rfl (x := .ref TI) rfl (wpAny_bind (wpAny_seqItems hTI rfl ?_)))
  show wpAny _ _ (Builtin.SmallTypes.ownedTupleIsFree (.ref z) >>= _) _ _ _
  refine wpAny_bind ?_
  unfold Builtin.SmallTypes.ownedTupleIsFree
  refine wpAny_bind (wpAny_field hz rfl (x := .none) rfl (wpAny_pure ?_))
  simp only [if_true]
  refine wpAny_bind (wpAny_rule (wpAny_bind (wpAny_field hz rfl (x := .ref TO) rfl ?_)))
  refine wpAny_bind (wpAny_setField_rec hz (by simp) fun g1 z1 b1 => ?_)
  replace z1 : ZipS g1 z TI TO .ellipsis := z1
  refine wpAny_bind ?_
  simp only [List.zipIdx_cons, List.zipIdx_nil, List.forIn_cons, List.forIn_nil]
  refine wpAny_bind (wpAny_bind (wpAny_onRaise ?_))
  show wpAny _ _ (Builtin.SmallTypes.nextOrEnd (.ref i1)) _ _ _
  refine draw_stop Z1 hh (Z1.ext h1 fun c hc o q => ?_) hx fun g2 b2 => ?_
  · rcases hc with rfl | rfl
    · exact b1.extBut _ _ D.i1z q
    · exact b1.extBut _ _ D.l1z q
  have z2 : ZipS g2 z TI TO .ellipsis := b2 _ _ D.i1z.symm z1
  refine wpAny_bind (wpAny_setField_rec z2 (by simp) fun g3 z3 b3 => ?_)
  refine wpAny_bind ?_
  show wpAny _ _ (forIn [(Value.ref i2, 1)] PUnit.unit _ >>= _) _ _ _
  rw [List.forIn_cons]
  refine wpAny_bind (wpAny_bind (wpAny_bind (draw_stop Z2 hh (Z2.ext h2 fun c hc o q => ?_) hy fun g4 b4 => ?_)))
  · rcases hc with rfl | rfl
    · exact b3.extBut _ _ D.i2z (b2 _ _ D.i12.symm (b1.extBut _ _ D.i2z q))
    · exact b3.extBut _ _ D.l2z (b2 _ _ D.l2i1 (b1.extBut _ _ D.l2z q))
  show wpAny _ _ (pure (ForInStep.yield PUnit.unit)) _ _ _
  refine wpAny_pure ?_
  show wpAny _ _ (forIn [] PUnit.unit _) _ _ _
  rw [List.forIn_nil]
  refine wpAny_pure (wpAny_bind (wpAny_rule ?_))
  have k4 : ∀ c o, c ≠ z → c ≠ TO → c ≠ i1 → c ≠ i2 → s.heap.get? c = some o → g4.get? c = some o := fun c o c1 c2 c3 c4 q =>
    b4 _ _ c4 (b3.extBut _ _ c1 (b2 _ _ c3 (b1.extBut _ _ c1 q)))
  unfold Builtin.SmallTypes.stopIteration
  refine wpAny_bind ?_
  simp only [newExc, newTuple]
  refine wpAny_bind (wpAny_newObj_type ?_ (by size_fits))
  refine wpAny_bind (m := firstArgMember _ _) (wpAny_of_eq (a := Value.none) (by first | rfl | (simp only [firstArgMember]; rfl)) ?_)
  refine wpAny_newObj_type ?_ (by size_fits)
  simp only [raiseNew]
  refine wpAny_bind (wpAny_handled ?_)
  rw [hh]
  refine wpAny_bind (wpAny_pure (wpAny_throw ?_))
  exact hE _ _ (fun c o c1 c2 c3 c4 q => Heap.get?_push_of_some _ (Heap.get?_push_of_some _ (k4 c o c1 c2 c3 c4 q))) ⟨_, Heap.get?_push_size _ rfl, rfl⟩
theorem pyNext_zs_item {Q : Option Value → Shared → Prop} (D : ZipApart z TI TO i1 i2 l1 l2) (Z1 : ZSrc prog w i1 l1 xs S1) (Z2 : ZSrc prog w i2 l2 ys S2)
    (hz : ZipS s.heap z TI TO .none) (hTI : IsPair s.heap TI (.ref i1) (.ref i2)) (hTO : IsPair s.heap TO a b) (h1 : S1 k1 s.heap) (h2 : S2 k2 s.heap) (hx : xs[k1]? = some x) (hy : ys[k2]? = some y)
    (hQ : ∀ h', ZipS h' z TI TO (rawInt s.heap.objs.size) → IsPair h' TO x y → S1 (k1 + 1) h' → S2 (k2 + 1) h' → IsPair h' s.heap.objs.size x y → h'.objs.size = s.heap.objs.size + 1 →
      (∀ c o, c ≠ z → c ≠ TO → c ≠ i1 → c ≠ i2 → s.heap.get? c = some o → h'.get? c = some o) → Q (some (.ref s.heap.objs.size)) { s with heap := h' }) : wpAny (model prog w) A (pyNext (.ref z)) Q E s := by
  have hT : s.TypeIs (.ref z) "zip" := ⟨_, hz, rfl⟩
  unfold pyNext
  refine wpAny_bind (wpAny_attempt (wpAny_callSpecial?_slot (name := Str.ofString "__next__") hT F.slot_zip_next (wpAny_call_entry F.slot_zip_next hT F.entry_zip_next ?_ (F.args_zip_next_1 _))))
  exact zs_item D Z1 Z2 hz hTI hTO h1 h2 hx hy fun h' a1 a2 a3 a4 a5 a6 a7 => wpAny_pure (hQ h' a1 a2 a3 a4 a5 a6 a7)
theorem pyNext_zs_stop {Q : Option Value → Shared → Prop} (hh : A.handled = none) (D : ZipApart z TI TO i1 i2 l1 l2) (Z1 : ZSrc prog w i1 l1 xs S1) (Z2 : ZSrc prog w i2 l2 ys S2)
    (hz : ZipS s.heap z TI TO .none) (hTI : IsPair s.heap TI (.ref i1) (.ref i2)) (hTO : IsPair s.heap TO a b) (h1 : S1 k1 s.heap) (h2 : S2 k2 s.heap) (hx : xs[k1]? = none) (hy : ys[k2]? = none)
    (hQ : ∀ h', (∀ c o, c ≠ z → c ≠ TO → c ≠ i1 → c ≠ i2 → s.heap.get? c = some o → h'.get? c = some o) → Q none { s with heap := h' }) : wpAny (model prog w) A (pyNext (.ref z)) Q E s := by
  have hT : s.TypeIs (.ref z) "zip" := ⟨_, hz, rfl⟩
  unfold pyNext
  refine wpAny_bind (wpAny_attempt (wpAny_callSpecial?_slot (name := Str.ofString "__next__") hT F.slot_zip_next (wpAny_call_entry F.slot_zip_next hT F.entry_zip_next ?_ (F.args_zip_next_1 _))))
  refine zs_stop hh D Z1 Z2 hz hTI hTO h1 h2 hx hy fun h' e hk ⟨o, ho, hc⟩ => ?_
  refine wpAny_bind (wpAny_isInstance (T := "StopIteration") (b := true) ⟨o, ho, hc⟩ isSubtype_stop ?_)
  exact wpAny_pure (hQ _ hk)
theorem letGo_zs {elts : List Expr} {m : Nat} {pos : Pos} {T : Addr} {Q : Unit → Shared → Prop} (hz : ZipS s.heap z TI TO (rawInt T)) (hQ : ∀ h', ZipS h' z TI TO .none → Heap.SameBut z s.heap h' → Q () { s with heap := h' }) :
    wpAny (model prog w) A (letOwnedTupleGo (.Tuple elts m pos) (.ref z) (.ref T)) Q E s := by
  unfold letOwnedTupleGo
  refine wpAny_bind (wpAny_load hz ?_)
  dsimp only
  rw [if_pos (by simp)]
  refine wpAny_bind (wpAny_rule ?_)
  exact wpAny_setField_rec hz (by simp) fun h' z' b' => hQ h' z' b'
theorem iter_zs {f0 : Value} {Q : Value → Shared → Prop} (hz : ZipS s.heap z TI TO f0) (h : Q (.ref z) s) : wpAny (model prog w) A (pyIter (.ref z)) Q E s := by
  have hT : s.TypeIs (.ref z) "zip" := ⟨_, hz, rfl⟩
  refine wpAny_pyIter_slot hT F.slot_zip_iter (wpAny_call_entry F.slot_zip_iter hT F.entry_zip_iter ?_ (F.args_zip_iter_1 _))
  exact wpAny_pure ⟨_, rfl, "zip", _, hT, F.slot_zip_next.lookup, h⟩
end

/-! calling it -/
theorem tcall_zs (a b v : Value) : checkTypeCall "zip" ⟨[a, b], [(Str.ofString "strict", v)]⟩ = pure () := by kernel_rfl
theorem ncall_zs (a b v : Value) : checkBuiltinCall "zip.__new__" ⟨[.type "zip", a, b], [(Str.ofString "strict", v)]⟩ = pure () := by kernel_rfl
theorem icall_zs (o a b v : Value) : argsOk "object.__init__" ⟨[o, a, b], [(Str.ofString "strict", v)]⟩ := by unfold argsOk; kernel_rfl
/-- the objects that a strict zip lays down -/
def zsHeap (h : Heap) (o1 o2 : Obj) : Heap :=
  ((((h.push o1).push o2).push { cls := .type "tuple", data := .seq #[.ref h.objs.size, .ref (h.push o1).objs.size] }).push { cls := .type "tuple", data := .seq #[.none, .none] }).push
    { cls := .type "zip", data := .fields #[.none, .bool false, .bool true, .ref ((h.push o1).push o2).objs.size, .ref (((h.push o1).push o2).push { cls := .type "tuple", data := .seq #[.ref h.objs.size, .ref (h.push o1).objs.size] }).objs.size] }
def itO (t : Bool) (a : Addr) : Obj := { cls := .type (if t = true then "tuple_iterator" else "list_iterator"), data := .fields #[.ref a, .int 0 0] }
def isO (t : Bool) (h : Heap) (a : Addr) (vs : Array Value) : Prop := if t = true then h.IsTuple a vs else h.IsList a vs
theorem isO_push {t : Bool} {h : Heap} {a : Addr} {vs : Array Value} (x : isO t h a vs) (o : Obj) : isO t (h.push o) a vs := by
  cases t with
  | true => exact Heap.IsTuple.push x o
  | false =>
    obtain ⟨o', ho, r⟩ := x
    exact ⟨o', Heap.get?_push_of_some o ho, r⟩
theorem isO_iter {prog : Program} {w : World} {A : Around} {E : Value → Shared → Prop} {t : Bool} {a : Addr} {vs : Array Value} {s : Shared} {Q : Value → Shared → Prop} (x : isO t s.heap a vs) (h : Q (.ref s.heap.objs.size) { s with heap := s.heap.push (itO t a) }) : wpAny (model prog w) A (pyIter (.ref a)) Q E s := by
  cases t with
  | true => exact wpAny_pyIter_tuple x h
  | false => exact wpAny_pyIter_list x h
theorem meets_zs (t1 t2 : Bool) (a b : Addr) (xs ys : Array Value) : Meets (Builtin.«zip.__new__» ⟨[.type "zip", .ref a, .ref b], [(Str.ofString "strict", .bool true)]⟩)
    (fun _ R s => isO t1 s.heap a xs ∧ isO t2 s.heap b ys ∧ R (.ok (.ret (.ref (s.heap.objs.size + 4)))) { s with heap := zsHeap s.heap (itO t1 a) (itO t2 b) }) :=
  .of_wp fun prog w A R s h => by
    obtain ⟨hp, g, d, tk, os⟩ := s
    obtain ⟨q1, q2, h⟩ := h
    have hsub := sub_zip
    have k1 : ∀ {A' : Around} {E : Value → Shared → Prop} {Q : Value → Shared → Prop}, Q (.ref hp.objs.size) ⟨hp.push (itO t1 a), g, d, tk, os⟩ → wpAny (model prog w) A' (pyIter (.ref a)) Q E ⟨hp, g, d, tk, os⟩ := fun q => isO_iter (s := ⟨hp, g, d, tk, os⟩) q1 q
    have k2 : ∀ {A' : Around} {E : Value → Shared → Prop} {Q : Value → Shared → Prop}, Q (.ref (hp.push (itO t1 a)).objs.size) ⟨(hp.push (itO t1 a)).push (itO t2 b), g, d, tk, os⟩ → wpAny (model prog w) A' (pyIter (.ref b)) Q E ⟨hp.push (itO t1 a), g, d, tk, os⟩ := fun q => isO_iter (s := ⟨hp.push (itO t1 a), g, d, tk, os⟩) (isO_push q2 _) q
    have e2 : (Str.ofString "strict" != ("strict" : Str)) = false := by decide +kernel
    wp_walk using k1, k2
    have e : ∀ o1 o2 o3 o4 : Obj, ((((hp.push o1).push o2).push o3).push o4).objs.size = hp.objs.size + 4 := fun _ _ _ _ => by simp only [Heap.size_push]
    exact ⟨.ref (hp.objs.size + 4), congrArg (fun n => PySem.Fin.done (Flow.ret (Value.ref n))) (e _ _ _ _), h⟩
section
variable {prog : Program} {w : World} {A : Around} {E : Value → Shared → Prop} {s : Shared}
theorem call_zs {t1 t2 : Bool} {a b : Addr} {xs ys : Array Value} {Q : Value → Shared → Prop} (q1 : isO t1 s.heap a xs) (q2 : isO t2 s.heap b ys)
    (h : ∀ h', ZipS h' (s.heap.objs.size + 4) (s.heap.objs.size + 2) (s.heap.objs.size + 3) .none → IsPair h' (s.heap.objs.size + 2) (.ref s.heap.objs.size) (.ref (s.heap.objs.size + 1)) →
      IsPair h' (s.heap.objs.size + 3) .none .none → h'.get? s.heap.objs.size = some (itO t1 a) → h'.get? (s.heap.objs.size + 1) = some (itO t2 b) →
      (∀ c o, s.heap.get? c = some o → h'.get? c = some o) → Q (.ref (s.heap.objs.size + 4)) { s with heap := h' }) :
    wpAny (model prog w) A (call (.type "zip") [.ref a, .ref b] [(Str.ofString "strict", .bool true)]) Q E s := by
  refine callType_newKw F.called_zip (by decide) (tcall_zs _ _ _) (ncall_zs _ _ _) (fun obj => icall_zs obj _ _ _) F.entry_zip_new (meets_zs t1 t2 a b xs ys) ⟨q1, q2, ?_⟩
  have z1 : (s.heap.push (itO t1 a)).objs.size = s.heap.objs.size + 1 := Heap.size_push ..
  have z2 : ((s.heap.push (itO t1 a)).push (itO t2 b)).objs.size = s.heap.objs.size + 2 := by rw [Heap.size_push, z1]
  have z3 : ∀ o, (((s.heap.push (itO t1 a)).push (itO t2 b)).push o).objs.size = s.heap.objs.size + 3 := fun o => by rw [Heap.size_push, z2]
  have z4 : ∀ o o', ((((s.heap.push (itO t1 a)).push (itO t2 b)).push o).push o').objs.size = s.heap.objs.size + 4 := fun o o' => by rw [Heap.size_push, z3]
  have g5 : ∀ o o' o'', o''.isFreed = false → (((((s.heap.push (itO t1 a)).push (itO t2 b)).push o).push o').push o'').get? (s.heap.objs.size + 4) = some o'' := fun o o' o'' hf => by rw [← z4 o o']; exact Heap.get?_push_size _ hf
  have g4 : ∀ o o' o'', o'.isFreed = false → (((((s.heap.push (itO t1 a)).push (itO t2 b)).push o).push o').push o'').get? (s.heap.objs.size + 3) = some o' := fun o o' o'' hf => by rw [← z3 o]; exact Heap.get?_push_of_some _ (Heap.get?_push_size _ hf)
  have g3 : ∀ o o' o'', o.isFreed = false → (((((s.heap.push (itO t1 a)).push (itO t2 b)).push o).push o').push o'').get? (s.heap.objs.size + 2) = some o := fun o o' o'' hf => by rw [← z2]; exact Heap.get?_push_of_some _ (Heap.get?_push_of_some _ (Heap.get?_push_size _ hf))
  have g2 : ∀ o o' o'', (((((s.heap.push (itO t1 a)).push (itO t2 b)).push o).push o').push o'').get? (s.heap.objs.size + 1) = some (itO t2 b) := fun o o' o'' => by rw [← z1]; exact Heap.get?_push_of_some _ (Heap.get?_push_of_some _ (Heap.get?_push_of_some _ (Heap.get?_push_size _ rfl)))
  have g1 : ∀ o o' o'', (((((s.heap.push (itO t1 a)).push (itO t2 b)).push o).push o').push o'').get? s.heap.objs.size = some (itO t1 a) := fun o o' o'' => Heap.get?_push_of_some _ (Heap.get?_push_of_some _ (Heap.get?_push_of_some _ (Heap.get?_push_of_some _ (Heap.get?_push_size _ rfl))))
  have g5' := g5 { cls := .type "tuple", data := .seq #[.ref s.heap.objs.size, .ref (s.heap.push (itO t1 a)).objs.size] } { cls := .type "tuple", data := .seq #[.none, .none] } { cls := .type "zip", data := .fields #[.none, .bool false, .bool true, .ref ((s.heap.push (itO t1 a)).push (itO t2 b)).objs.size, .ref (((s.heap.push (itO t1 a)).push (itO t2 b)).push { cls := .type "tuple", data := .seq #[.ref s.heap.objs.size, .ref (s.heap.push (itO t1 a)).objs.size] }).objs.size] } rfl
  have g3' := g3 { cls := .type "tuple", data := .seq #[.ref s.heap.objs.size, .ref (s.heap.push (itO t1 a)).objs.size] } { cls := .type "tuple", data := .seq #[.none, .none] } { cls := .type "zip", data := .fields #[.none, .bool false, .bool true, .ref ((s.heap.push (itO t1 a)).push (itO t2 b)).objs.size, .ref (((s.heap.push (itO t1 a)).push (itO t2 b)).push { cls := .type "tuple", data := .seq #[.ref s.heap.objs.size, .ref (s.heap.push (itO t1 a)).objs.size] }).objs.size] } rfl
  refine ⟨⟨_, g5', rfl⟩, h _ ?_ ?_ (g4 _ _ _ rfl) (g1 _ _ _) (g2 _ _ _) fun c o q => Heap.get?_push_of_some _ (Heap.get?_push_of_some _ (Heap.get?_push_of_some _ (Heap.get?_push_of_some _ (Heap.get?_push_of_some _ q))))⟩
  · have q := g5'
    conv at q => rhs; rw [z2, z3]
    exact q
  · have q := g3'
    conv at q => rhs; rw [z1]
    exact q
end
/-! callWith of a built-in class with keywords -/
section
variable {M : Model} {A : Around} {E : Value → Shared → Prop} {s : Shared} {env : Env}
theorem cw_typeKw {pos : Pos} {T : String} {e : Expr} {rest : List Expr} {kws : List Keyword} {Q : Value → Shared → Prop}
    (h : wpAny M A (spliced (backTo pos (starEach (e :: rest) env))) (fun vs s₁ => wpAny M A (evalAll ((backToKw pos (keywordEach kws env)).map (·.2)))
      (fun kvs s₂ => wpAny M A (call (.type T) vs (((backToKw pos (keywordEach kws env)).filterMap (·.1)).zip kvs)) Q E s₂) E s₁) E s)
    (he : starEach (e :: rest) env = (false, eval e env) :: starEach rest env) (hp : (backTo pos (starEach (e :: rest) env)).any (·.1) = false)
    (ha : (backToKw pos (keywordEach kws env)).all (·.1.isSome) = true) (hk : (backToKw pos (keywordEach kws env)).any (·.1.isNone) = false) :
    wpAny M A (callWith pos (.type T) [] (backTo pos (starEach (e :: rest) env)) (backToKw pos (keywordEach kws env))) Q E s := by
  unfold callWith
  refine wpAny_bind (wpAny_holding (PyProof.Rows.evalArgs_kw2 ha (wpAny_mono h (fun vs s1 h1 => wpAny_mono h1 (fun kvs s2 h2 => wpAny_bind (wpAny_standAt ?_)) fun _ _ x => x) fun _ _ x => x) he))
  simp only [hp, hk, Bool.or_false]
  refine wpAny_bind (wpAny_pure ?_)
  exact wpAny_bind (wpAny_mono h2 (fun r s3 hr => wpAny_bind (wpAny_holding (wpAny_point (wpAny_pure hr)))) fun _ _ x => x)
end
/-! the walk -/
/-- a list (t false) or a tuple (t true) of the heap -/
def SqB (K : PySem.W.Frag) (t : Bool) (H : Hp) (a : Addr) (xs : List V) : Prop := if t = true then SqT K H a xs else SqL K H a xs
def ItS (K : PySem.W.Frag) (t1 t2 : Bool) (a b : Addr) : It :=
  ⟨fun i H => ∃ (xs ys : List V) (x y : V), SqB K t1 H a xs ∧ SqB K t2 H b ys ∧ xs[i]? = some x ∧ ys[i]? = some y,
    fun i H v H' => ∃ T x y, v = .ref T ∧ H T = none ∧ H' = upd H T (.tup [x, y]) ∧ (∀ xs, SqB K t1 H a xs → xs[i]? = some x) ∧ ∀ ys, SqB K t2 H b ys → ys[i]? = some y,
    fun i H => ∃ xs ys : List V, SqB K t1 H a xs ∧ SqB K t2 H b ys ∧ xs.length ≤ i ∧ ys.length ≤ i⟩
def zsB (t : Bool) (it src : Addr) (i : Nat) (h : Heap) : Prop := if t = true then h.IsTupleIter it src i else h.IsListIter it src i
section
variable {X : Cx} {pins : List (Addr × Obj)} {σ : L2.St} {H : Hp} {s : Shared}
theorem sqb_at {t : Bool} {a : Addr} {xs : List V} (I : Inv X pins σ H s) (h : SqB X.K t H a xs) : ∃ its : List Value, Vals xs its ∧ isO t s.heap a its.toArray ∧ a < s.heap.objs.size := by
  cases t with
  | true =>
    obtain ⟨its, rv, p, _⟩ := I.tuple h
    obtain ⟨o, ho, _⟩ := id p
    exact ⟨its, rv, p, Heap.lt_size ho⟩
  | false =>
    obtain ⟨its, rv, p, _⟩ := I.list h
    exact ⟨its, rv, p.isList, p.lt⟩
theorem sqb_inj {t : Bool} {a : Addr} {xs ys : List V} (I : Inv X pins σ H s) (h : SqB X.K t H a xs) (k : SqB X.K t H a ys) : xs = ys := by
  cases t with
  | true => exact I.tuple_inj h k
  | false => exact I.list_inj h k
end
theorem zsrc_B {prog : Program} {w : World} {t : Bool} {it src : Addr} {vs : Array Value} (ne : src ≠ it) : ZSrc prog w it src vs (fun i h => zsB t it src i h ∧ isO t h src vs) := by
  cases t with
  | true => exact zsrc_T ne
  | false => exact zsrc_L ne
theorem zsB_at {t : Bool} {it src : Addr} {i : Nat} {h h' : Heap} (x : zsB t it src i h) (e : ∀ o, h.get? it = some o → h'.get? it = some o) : zsB t it src i h' := by
  cases t with
  | true => exact Heap.IsTupleIter.at x e
  | false => exact Heap.IsListIter.at x e
theorem zsB_obj {t : Bool} {it src : Addr} {i : Nat} {h : Heap} (x : zsB t it src i h) : ∃ o, h.get? it = some o ∧ ∀ v, o.data ≠ .cell v := by
  cases t with
  | true => obtain ⟨o, e, _, d⟩ := x; exact ⟨o, e, fun v q => by rw [d] at q; cases q⟩
  | false => obtain ⟨o, e, _, d⟩ := x; exact ⟨o, e, fun v q => by rw [d] at q; cases q⟩
theorem turn_zs {P : Program} {w : World} {K : PySem.W.Frag} {elts : List Expr} {kk : Nat} {tpos : Pos} {t1 t2 : Bool} {a b z TI TO i1 i2 : Addr} (D : ZipApart z TI TO i1 i2 a b) :
    Turn P w K (.Tuple elts kk tpos) (ItS K t1 t2 a b) [z, TI, TO, i1, i2] z (fun i h => ZipS h z TI TO .none ∧ IsPair h TI (.ref i1) (.ref i2) ∧ (∃ x y, IsPair h TO x y) ∧ zsB t1 i1 a i h ∧ zsB t2 i2 b i h) where
  mem := by simp
  obj := fun i h st c hc => by
    obtain ⟨hz, hTI, ⟨x, y, hTO⟩, h1, h2⟩ := st
    simp only [List.mem_cons, List.not_mem_nil, or_false] at hc
    rcases hc with rfl | rfl | rfl | rfl | rfl
    · exact ⟨_, hz, fun v q => nomatch q⟩
    · exact ⟨_, hTI, fun v q => nomatch q⟩
    · exact ⟨_, hTO, fun v q => nomatch q⟩
    · exact zsB_obj h1
    · exact zsB_obj h2
  keep := fun i h h' st k => by
    obtain ⟨hz, hTI, ⟨x, y, hTO⟩, h1, h2⟩ := st
    exact ⟨k z (by simp) _ hz, k TI (by simp) _ hTI, ⟨x, y, k TO (by simp) _ hTO⟩, zsB_at h1 fun o q => k i1 (by simp) o q, zsB_at h2 fun o q => k i2 (by simp) o q⟩
  item := by
    intro X hP hw hK hc i pins s σ H E I hf st hg
    subst hP hw hK
    obtain ⟨hz, hTI, ⟨x0, y0, hTO⟩, h1, h2⟩ := st
    obtain ⟨xs, ys, x, y, hqx, hqy, hx, hy⟩ := hg
    obtain ⟨its, rv, p, _⟩ := sqb_at I hqx
    obtain ⟨its2, rv2, p2, _⟩ := sqb_at I hqy
    obtain ⟨u, hu, ru⟩ := rv.get hx
    obtain ⟨u2, hu2, ru2⟩ := rv2.get hy
    have hzl : z < s.heap.objs.size := Heap.lt_size hz
    refine pyNext_zs_item D (zsrc_B D.l1i1) (zsrc_B D.l2i2) hz hTI hTO ⟨h1, p⟩ ⟨h2, p2⟩ (x := u) (y := u2) (by simpa using hu) (by simpa using hu2) fun h' z' TO' h1' h2' hT hsz hk => ?_
    refine ⟨_, rfl, letGo_zs (s := { s with heap := h' }) z' fun h'' z'' sb => ?_⟩
    have hT2 : h''.get? s.heap.objs.size = some { cls := .type "tuple", data := .seq #[u, u2] } := (sb.2 _ (Nat.ne_of_gt hzl)).trans hT
    have new : ObjOk X.prog X.w (upd H s.heap.objs.size (.tup [x, y])) h'' s.heap.objs.size (.tup [x, y]) := ⟨by show 2 ≤ sizeLine; decide, [u, u2], .cons ru (.cons ru2 .nil), ⟨_, hT2, rfl, _, rfl⟩⟩
    have all : ∀ c o, c ∉ [z, TI, TO, i1, i2] → s.heap.get? c = some o → h''.get? c = some o := fun c o hb q => by
      simp only [List.mem_cons, List.not_mem_nil, or_false, not_or] at hb
      exact (sb.2 c hb.1).trans (hk c o hb.1 hb.2.2.1 hb.2.2.2.1 hb.2.2.2.2 q)
    have I1 : Inv X pins σ (upd H s.heap.objs.size (.tup [x, y])) { s with heap := h'' } := I.turnedNew (t' := s.toks) (ch := [z, TI, TO, i1, i2]) all hf (Nat.le_refl _) new
    refine ⟨.ref s.heap.objs.size, _, I1, rfl, ⟨_, x, y, rfl, I.hok.fresh (Nat.le_refl _), rfl, fun l hl => by rw [sqb_inj I hl hqx]; exact hx, fun l hl => by rw [sqb_inj I hl hqy]; exact hy⟩, ⟨z'', ?_, ⟨u, u2, ?_⟩, ?_, ?_⟩, fun c hcm => ?_⟩
    · exact (sb.2 _ D.TIz).trans (hk _ _ D.TIz D.TITO D.TIi1 D.TIi2 hTI)
    · exact (sb.2 _ D.TOz).trans TO'
    · exact zsB_at h1'.1 fun o q => (sb.2 _ D.i1z).trans q
    · exact zsB_at h2'.1 fun o q => (sb.2 _ D.i2z).trans q
    · have hlt : c < s.heap.objs.size := by
        simp only [List.mem_cons, List.not_mem_nil, or_false] at hcm
        rcases hcm with rfl | rfl | rfl | rfl | rfl
        · exact hzl
        · exact Heap.lt_size hTI
        · exact Heap.lt_size hTO
        · obtain ⟨_, e, _⟩ := zsB_obj h1; exact Heap.lt_size e
        · obtain ⟨_, e, _⟩ := zsB_obj h2; exact Heap.lt_size e
      rw [upd_ne (Nat.ne_of_lt hlt)]
      exact (hf c hcm).1
  done := by
    intro X hP hw hK hc i pins s σ H E I hf st hg
    subst hP hw hK
    obtain ⟨hz, hTI, ⟨x0, y0, hTO⟩, h1, h2⟩ := st
    obtain ⟨xs, ys, hqx, hqy, n1, n2⟩ := hg
    obtain ⟨its, rv, p, _⟩ := sqb_at I hqx
    obtain ⟨its2, rv2, p2, _⟩ := sqb_at I hqy
    have l1 := rv.length
    have l2 := rv2.length
    exact pyNext_zs_stop (I.ok.hd hc) D (zsrc_B D.l1i1) (zsrc_B D.l2i2) hz hTI hTO ⟨h1, p⟩ ⟨h2, p2⟩ (by simp; omega) (by simp; omega) fun h' hk => ⟨rfl, I.turnedL (t' := s.toks) (ch := [z, TI, TO, i1, i2]) (fun c o hb q => by
      simp only [List.mem_cons, List.not_mem_nil, or_false, not_or] at hb
      exact hk c o hb.1 hb.2.2.1 hb.2.2.2.1 hb.2.2.2.2 q) hf⟩
  self := fun A i s Q E st h => iter_zs st.1 h
def iZipS (K : PySem.W.Frag) (t1 t2 : Bool) (ta tk : TA) : TI := fun σ H R => ta σ H fun vs H1 => tk σ H1 fun zs H2 => ∃ a b xs ys, zs = [.bl true] ∧ vs = [.ref a, .ref b] ∧ SqB K t1 H2 a xs ∧ SqB K t2 H2 b ys ∧ R (ItS K t1 t2 a b) H2
theorem pi_zipS {X : Cx} (t1 t2 : Bool) {e e2 : Expr} {ta tk : TA} {p pos tpos : Pos} {elts : List Expr} {kk : Nat} {kws : List Keyword} (hg : Gl X "zip") (hm : X.mg "zip" = none) (ha : PA X [e, e2] ta) (hk : PK X kws tk)
    (hs : starEach [e, e2] X.env = (false, eval e X.env) :: starEach [e2] X.env := by rfl) (hpl : (backTo pos (starEach [e, e2] X.env)).any (·.1) = false := by rfl)
    (hall : (backToKw pos (keywordEach kws X.env)).all (·.1.isSome) = true := by rfl) (hnone : (backToKw pos (keywordEach kws X.env)).any (·.1.isNone) = false := by rfl) (hks : (backToKw pos (keywordEach kws X.env)).filterMap (·.1) = [Str.ofString "strict"] := by rfl) :
    PI X (.Tuple elts kk tpos) (.Call (.Name "zip" p) [e, e2] kws pos) (iZipS X.K t1 t2 ta tk) := by
  refine ⟨fun pins s σ H R I h => ?_⟩
  refine wpAny_Call_Name_kw (ld_blt I hg hm PyProof.Rows.boot_zip ?_)
  refine cw_typeKw (thn (ha.run pos pins s σ H _ I h) fun us s1 ⟨vs, H1, I1, r1, q1⟩ => thn (hk.run pos pins s1 σ H1 _ I1 q1) fun ws s2 ⟨zs, H2, I2, r2, q2⟩ => ?_) hs hpl hall hnone
  rw [hks]
  obtain ⟨a, b, xs, ys, rfl, rfl, hqx, hqy, q⟩ := q2
  obtain ⟨w1, rfl, e1⟩ := vals1 r2
  obtain rfl : w1 = Value.bool true := e1
  obtain ⟨u1, u2, rfl, c1, c2⟩ := vals2 r1
  cases c1
  cases c2
  have fresh5 : ∀ c, c ∈ [s2.heap.objs.size + 4, s2.heap.objs.size + 2, s2.heap.objs.size + 3, s2.heap.objs.size, s2.heap.objs.size + 1] → FpOk X pins H2 c := fun c hcm => by
    have hle : s2.heap.objs.size ≤ c := by
      simp only [List.mem_cons, List.not_mem_nil, or_false] at hcm
      rcases hcm with rfl | rfl | rfl | rfl | rfl <;> exact (by first | exact Nat.le_refl _ | exact Nat.le_add_right _ _)
    exact I2.fpOk hle (I2.hok.fresh hle)
  obtain ⟨its, rv, p1, l1⟩ := sqb_at I2 hqx
  obtain ⟨its2, rv2, p2, l2⟩ := sqb_at I2 hqy
  refine call_zs p1 p2 fun h' hz hTI hTO g1 g2 hk => iter_zs hz ?_
  have I3 : Inv X pins σ H2 { s2 with heap := h' } := I2.kept (t' := s2.toks) hk
  refine ⟨s2.heap.objs.size + 4, [s2.heap.objs.size + 4, s2.heap.objs.size + 2, s2.heap.objs.size + 3, s2.heap.objs.size, s2.heap.objs.size + 1], _, _, H2, rfl, I3, turn_zs (t1 := t1) (t2 := t2) (PySem.W.ktu_apart s2.heap.objs.size a b l1 l2), ⟨hz, hTI, ⟨_, _, hTO⟩, ?_, ?_⟩, fresh5, q⟩
  · cases t1 with
    | true => exact ⟨_, g1, rfl, rfl⟩
    | false => exact ⟨_, g1, rfl, rfl⟩
  · cases t2 with
    | true => exact ⟨_, g2, rfl, rfl⟩
    | false => exact ⟨_, g2, rfl, rfl⟩
theorem walk_zs {K : PySem.W.Frag} {t1 t2 : Bool} {a b : Addr} {xs ys : List V} (hl : xs.length = ys.length) : Walk (ItS K t1 t2 a b) xs.length (fun H => SqB K t1 H a xs ∧ SqB K t2 H b ys) (fun i H v H' => ∃ T x y, v = .ref T ∧ H T = none ∧ H' = upd H T (.tup [x, y]) ∧ xs[i]? = some x ∧ ys[i]? = some y) := by
  refine ⟨fun i _ hi q => ⟨xs, ys, xs[i], ys[i]'(by omega), q.1, q.2, by simp [hi], by simp [show i < ys.length by omega]⟩, fun _ q => ⟨xs, ys, q.1, q.2, Nat.le_refl _, by omega⟩, fun i H v H' _ q w => ?_⟩
  obtain ⟨T, x, y, h1, h2, h3, h4, h5⟩ := w
  exact ⟨T, x, y, h1, h2, h3, h4 xs q.1, h5 ys q.2⟩

/-! ### enumerate(t), t a tuple -/
set_option maxHeartbeats 1000000 in
theorem meets_enumT (a : Addr) (xs : Array Value) : Meets (Builtin.«enumerate.__new__» ⟨[.type "enumerate", .ref a], []⟩) (fun _ R s => s.heap.IsTuple a xs ∧
    R (.ok (.ret (.ref (s.heap.objs.size + 1)))) { s with heap := (s.heap.push { cls := .type "tuple_iterator", data := .fields #[.ref a, .int 0 0] }).push { cls := .type "enumerate", data := .fields #[.none, .bool false, .ref s.heap.objs.size, rawInt 0, .none, .none] } }) :=
  .of_wp fun prog w A R s h => by
    obtain ⟨hp, g, d, tk, os⟩ := s
    obtain ⟨h1, h⟩ := h
    have hsub := sub_enumerate
    have e : ∀ o : Obj, (hp.push o).objs.size = hp.objs.size + 1 := fun _ => Heap.size_push ..
    have k1 : ∀ {A' : Around} {E : Value → Shared → Prop} {Q : Value → Shared → Prop}, Q (.ref hp.objs.size) ⟨hp.push { cls := .type "tuple_iterator", data := .fields #[.ref a, .int 0 0] }, g, d, tk, os⟩ → wpAny (model prog w) A' (pyIter (.ref a)) Q E ⟨hp, g, d, tk, os⟩ := fun q => wpAny_pyIter_tuple (s := ⟨hp, g, d, tk, os⟩) h1 q
    wp_walk using k1
    refine wpAny_stack_any fun st => wpAny_pure ?_
    split
    · rename_i c _ _ _ _ _
      cases (c == Value.type "enumerate")
      · wp_walk using k1
        exact ⟨.ref (hp.objs.size + 1), congrArg (fun n => PySem.Fin.done (Flow.ret (Value.ref n))) (e _), h⟩
      · wp_walk using k1
        exact ⟨.ref (hp.objs.size + 1), congrArg (fun n => PySem.Fin.done (Flow.ret (Value.ref n))) (e _), h⟩
    · wp_walk using k1
      exact ⟨.ref (hp.objs.size + 1), congrArg (fun n => PySem.Fin.done (Flow.ret (Value.ref n))) (e _), h⟩
theorem call_enumT {prog : Program} {w : World} {A : Around} {E : Value → Shared → Prop} {s : Shared} {a : Addr} {xs : Array Value} {Q : Value → Shared → Prop} (hL : s.heap.IsTuple a xs)
    (h : ∀ h', IsEnum h' (s.heap.objs.size + 1) s.heap.objs.size 0 .none → h'.IsTupleIter s.heap.objs.size a 0 → (∀ b o, s.heap.get? b = some o → h'.get? b = some o) → Q (.ref (s.heap.objs.size + 1)) { s with heap := h' }) :
    wpAny (model prog w) A (call (.type "enumerate") [.ref a]) Q E s := by
  refine callType_new F.called_enumerate (by decide) (F.typeCall_enumerate_1 _) (F.newCall_enumerate_1 _) (fun obj => F.args_object_init_2 obj _) F.entry_enumerate_new (meets_enumT a xs) ⟨hL, ?_⟩
  have z : (s.heap.push { cls := .type "tuple_iterator", data := .fields #[.ref a, .int 0 0] }).objs.size = s.heap.objs.size + 1 := Heap.size_push ..
  have he : IsEnum ((s.heap.push { cls := .type "tuple_iterator", data := .fields #[.ref a, .int 0 0] }).push { cls := .type "enumerate", data := .fields #[.none, .bool false, .ref s.heap.objs.size, rawInt 0, .none, .none] }) (s.heap.objs.size + 1) s.heap.objs.size 0 .none := by
    rw [← z]
    exact Heap.get?_push_size _ rfl
  exact ⟨⟨_, he, rfl⟩, h _ he ⟨_, Heap.get?_push_of_some _ (Heap.get?_push_size _ rfl), rfl, rfl⟩ fun b o q => Heap.get?_push_of_some _ (Heap.get?_push_of_some _ q)⟩
def IteT (K : PySem.W.Frag) (a : Addr) : It :=
  ⟨fun i H => ∃ (xs : List V) (x : V), SqT K H a xs ∧ xs[i]? = some x, fun i H v H' => ∃ T x, v = .ref T ∧ H T = none ∧ H' = upd H T (.tup [.int (i : Nat), x]) ∧ ∀ xs, SqT K H a xs → xs[i]? = some x, fun i H => ∃ xs : List V, SqT K H a xs ∧ xs.length = i⟩
theorem turn_enumT {P : Program} {w : World} {K : PySem.W.Frag} {elts : List Expr} {kk : Nat} {tpos : Pos} (a e it : Addr) :
    Turn P w K (.Tuple elts kk tpos) (IteT K a) [e, it] e (fun i h => (∃ old, IsEnum h e it ((i : Nat) : Int) old) ∧ h.IsTupleIter it a i ∧ e ≠ it ∧ a ≠ it ∧ a ≠ e) where
  mem := by simp
  obj := fun i h st b hb => by
    obtain ⟨⟨old, he⟩, ⟨o, ho, hc, hd⟩, _⟩ := st
    simp only [List.mem_cons, List.not_mem_nil, or_false] at hb
    rcases hb with rfl | rfl
    · exact ⟨_, he, fun v q => nomatch q⟩
    · exact ⟨o, ho, fun v q => by rw [hd] at q; cases q⟩
  keep := fun i h h' st k => let ⟨⟨old, he⟩, hi, hne⟩ := st; ⟨⟨old, k e (by simp) _ he⟩, hi.at fun o q => k it (by simp) o q, hne⟩
  item := by
    intro X hP hw hK hc i pins s σ H E I hf st hg
    subst hP hw hK
    obtain ⟨⟨old, he⟩, hit, hne, hai, hae⟩ := st
    obtain ⟨xs, x, hq, hx⟩ := hg
    obtain ⟨its, rv, p, hz⟩ := I.tuple hq
    obtain ⟨u, hu, ru⟩ := rv.get hx
    have hel : e < s.heap.objs.size := Heap.lt_size he
    have hil : it < s.heap.objs.size := by obtain ⟨_, q, _⟩ := hit; exact Heap.lt_size q
    have hlt : i < its.toArray.size := by
      have q := (List.getElem?_eq_some_iff.mp hu).1
      simpa using q
    refine wpAny_pyNext_enum_itemC (Draws.tuple (prog := X.prog) (w := X.w) (A := X.A.in1) (I.ok.hd hc) it a hai its.toArray) he ⟨hit, p⟩ hlt hne ?_ fun x' h' tk hP ho hst hT hsz hk => ?_
    · intro hm
      simp only [List.mem_cons, List.not_mem_nil, or_false] at hm
      rcases hm with q | q
      · exact hne q
      · exact hae q.symm
    obtain rfl : x' = u := by
      rw [List.getElem?_toArray, hu] at hP
      exact (Option.some.inj hP).symm
    refine ⟨_, rfl, wpAny_letOwnedTupleGo_enum (s := { s with heap := h', toks := tk + 1 }) ho fun h2 he2 sb => ?_⟩
    have hT2 : h2.get? s.heap.objs.size = some { cls := .type "tuple", data := .seq #[.int i tk, x'] } := (sb.2 _ (Nat.ne_of_gt hel)).trans hT
    have new : ObjOk X.prog X.w (upd H s.heap.objs.size (.tup [.int (i : Nat), x])) h2 s.heap.objs.size (.tup [.int (i : Nat), x]) := ⟨by show 2 ≤ sizeLine; decide, [.int i tk, x'], .cons ⟨_, rfl⟩ (.cons ru .nil), ⟨_, hT2, rfl, _, rfl⟩⟩
    have all : ∀ b ob, b ∉ [e, it] → s.heap.get? b = some ob → h2.get? b = some ob := fun b ob hb q => by
      simp only [List.mem_cons, List.not_mem_nil, or_false, not_or] at hb
      exact (sb.2 b hb.1).trans (hk b ob hb.1 hb.2 q)
    have I1 : Inv X pins σ (upd H s.heap.objs.size (.tup [.int (i : Nat), x])) { s with heap := h2, toks := tk + 1 } := I.turnedNew (ch := [e, it]) all hf (Nat.le_refl _) new
    refine ⟨.ref s.heap.objs.size, _, I1, rfl, ⟨_, x, rfl, I.hok.fresh (Nat.le_refl _), rfl, fun ys hy => by rw [I.tuple_inj hy hq]; exact hx⟩, ⟨⟨x', ?_⟩, hst.1.at fun o q => (sb.2 it (Ne.symm hne)).trans q, hne, hai, hae⟩, fun b hb => ?_⟩
    · rw [show ((i + 1 : Nat) : Int) = (i : Int) + 1 by omega]
      exact he2
    · have hb' : b < s.heap.objs.size := by
        simp only [List.mem_cons, List.not_mem_nil, or_false] at hb
        rcases hb with rfl | rfl
        · exact hel
        · exact hil
      rw [upd_ne (Nat.ne_of_lt hb')]
      exact (hf b hb).1
  done := by
    intro X hP hw hK hc i pins s σ H E I hf st hg
    subst hP hw hK
    obtain ⟨⟨old, he⟩, hit, hne, hai, hae⟩ := st
    obtain ⟨xs, hq, hx⟩ := hg
    obtain ⟨its, rv, p, hz⟩ := I.tuple hq
    obtain ⟨f0, f1, f2, f3, f4, f5⟩ := hf it (by simp)
    have hl := rv.length
    have hT : s.TypeIs (.ref e) "enumerate" := ⟨_, he, rfl⟩
    unfold pyNext
    refine wpAny_bind (wpAny_attempt (wpAny_callSpecial?_slot (name := Str.ofString "__next__") hT F.slot_enumerate_next (wpAny_call_entry F.slot_enumerate_next hT F.entry_enumerate_next ?_ (F.args_enumerate_next_1 _))))
    show wpAny _ _ (field (.ref e) 2 >>= _) _ _ _
    refine wpAny_bind (wpAny_field he rfl (x := .ref it) rfl ?_)
    refine wpAny_bind (RZ.nextOf_tuple_end (I.ok.hd hc) hit p (by simp; omega) fun h' x eb ⟨o, ho, hcl⟩ => ?_)
    refine wpAny_bind (wpAny_isInstance (T := "StopIteration") (b := true) ⟨o, ho, hcl⟩ isSubtype_stop ?_)
    exact wpAny_pure ⟨rfl, I.turned (t' := s.toks) (fun b o hb q => eb b o hb q) f0 f1 f3 f4 f5⟩
  self := fun A i s Q E st h => let ⟨⟨_, he⟩, _⟩ := st; wpAny_pyIter_enum he h
def iEnumT (K : PySem.W.Frag) (ta : TA) : TI := fun σ H R => ta σ H fun vs H1 => ∃ a xs, vs = [.ref a] ∧ SqT K H1 a xs ∧ R (IteT K a) H1
theorem pi_enumT {X : Cx} {e : Expr} {ta : TA} {p pos tpos : Pos} {elts : List Expr} {kk : Nat} (hg : Gl X "enumerate") (hm : X.mg "enumerate" = none) (ha : PA X [e] ta) (hs : starEach [e] X.env = [(false, eval e X.env)] := by rfl) :
    PI X (.Tuple elts kk tpos) (.Call (.Name "enumerate" p) [e] [] pos) (iEnumT X.K ta) := by
  refine ⟨fun pins s σ H R I h => ?_⟩
  refine wpAny_Call_Name_kw (ld_blt I hg hm PyProof.Rows.boot_enumerate (PyProof.Rows.callWith_type1 (thn (ha.run pos pins s σ H _ I h) fun us s1 ⟨vs, H1, I1, r1, q1⟩ => ?_) hs rfl))
  obtain ⟨a, xs, rfl, hq, q⟩ := q1
  obtain ⟨u, rfl, ru⟩ := vals1 r1
  obtain rfl : u = Value.ref a := ru
  obtain ⟨its, rv, p', hz⟩ := I1.tuple hq
  have lt : a < s1.heap.objs.size := by obtain ⟨o, ho, _⟩ := id p'; exact Heap.lt_size ho
  refine call_enumT (xs := its.toArray) p' fun h' he hit hk => wpAny_pyIter_enum he ?_
  have I2 : Inv X pins σ H1 { s1 with heap := h' } := I1.kept (t' := s1.toks) hk
  refine ⟨s1.heap.objs.size + 1, [s1.heap.objs.size + 1, s1.heap.objs.size], _, _, H1, rfl, I2, turn_enumT a (s1.heap.objs.size + 1) s1.heap.objs.size, ⟨⟨.none, he⟩, hit, Nat.succ_ne_self _, Nat.ne_of_lt lt, Nat.ne_of_lt (Nat.lt_succ_of_lt lt)⟩, fun b hb => ?_, q⟩
  have hle : s1.heap.objs.size ≤ b := by
    simp only [List.mem_cons, List.not_mem_nil, or_false] at hb
    rcases hb with rfl | rfl
    · exact Nat.le_add_right _ _
    · exact Nat.le_refl _
  exact I1.fpOk hle (I1.hok.fresh hle)
theorem walk_enumT {K : PySem.W.Frag} {a : Addr} {xs : List V} : Walk (IteT K a) xs.length (fun H => SqT K H a xs) (fun i H v H' => ∃ T x, v = .ref T ∧ H T = none ∧ H' = upd H T (.tup [.int (i : Nat), x]) ∧ xs[i]? = some x) := by
  refine ⟨fun i _ hi q => ⟨xs, xs[i], q, by simp [hi]⟩, fun _ q => ⟨xs, q, rfl⟩, fun i H v H' _ q y => ?_⟩
  obtain ⟨T, x, h1, h2, h3, h4⟩ := y
  exact ⟨T, x, h1, h2, h3, h4 xs q⟩

/-! ### sorted(xs, key=f), f an own def that gives ints: the rule -/
section
variable {prog : Program} {w : World} {A : Around} {E : Value → Shared → Prop} {s : Shared} {a kS : Addr} {vs : List Value} {kz : List Int} {keys : Array Value} {e e1 : Nat} {P : PySem.Fin → Shared → Prop}
open PyProof.Rows
theorem keys_tail {st : SortSt} (ok : s.heap.get? kS = some (seqObj "list" keys e)) (oa : s.heap.get? a = some (seqObj "list" #[] e1)) (hka : kS ≠ a) (hk : IntsAre keys.toList kz) (hlen : kz.length = vs.length) (h64 : vs.length < 64)
    (hp : (arrOf st).Perm (keys.zip vs.toArray)) (hs : SortedTo (arrOf st) (arrOf st).size) (hfl : failedOf st = none)
    (h : ∀ h' out c, (∀ b o, b ≠ a → b ≠ kS → s.heap.get? b = some o → h'.get? b = some o) → h'.get? a = some (seqObj "list" out c) → h'.objs.size = s.heap.objs.size → KskOut false kz vs out.toList → P (.done (.ret .none)) { s with heap := h' }) :
    wpAny (model prog w) A (ksk_tail a false e1 (.ref kS) st) P E s := by
  have n1 : keys.size = vs.length := by
    have q := hk.length
    rw [Array.length_toList] at q
    omega
  have n2 : (arrOf st).size = vs.length := by rw [hp.size_eq, Array.size_zip, n1, List.size_toArray, Nat.min_self]
  have u1 := Heap.SameBut.update s.heap kS (Obj.mapSeq fun _ => (#[] : Array Value))
  have oa1 : (s.heap.update kS (Obj.mapSeq fun _ => (#[] : Array Value))).get? a = some (seqObj "list" #[] e1) := (u1.2 a hka.symm).trans oa
  have u2 := Heap.SameBut.update (s.heap.update kS (Obj.mapSeq fun _ => (#[] : Array Value))) a (Obj.mapSeq fun _ => (arrOf st).map (·.2))
  have oa2 := get?_update_seq oa1 fun _ => (arrOf st).map (·.2)
  unfold ksk_tail
  dsimp only
  refine wpAny_bind (listUpdate_at ok rfl ?_ (by rw [n1, sizeLine_eq]; omega) (Nat.zero_le _))
  refine wpAny_bind (wpAny_letGo (wpAny_bind (seqEpoch_at oa1 rfl ?_)))
  simp only [Bool.false_eq_true, if_false]
  refine wpAny_bind (listUpdate_at oa1 rfl ?_ (Nat.zero_le _) (by rw [Array.size_map, n2, sizeLine_eq]; omega))
  rw [hfl]
  simp only [bne_self_eq_false, Bool.false_eq_true, if_false]
  exact wpAny_pure (h _ _ _ (fun b o b1 b2 q => (u2.2 b b1).trans ((u1.2 b b2).trans q)) oa2 (by rw [u2.1, u1.1]) (by simpa using ksk_out (b := false) hk hp hs))
theorem keys_end (ok : s.heap.get? kS = some (seqObj "list" keys e)) (oa : s.heap.get? a = some (seqObj "list" #[] e1)) (hka : kS ≠ a) (hk : IntsAre keys.toList kz) (hlen : kz.length = vs.length) (h64 : vs.length < 64)
    (h : ∀ h' out c, (∀ b o, b ≠ a → b ≠ kS → s.heap.get? b = some o → h'.get? b = some o) → h'.get? a = some (seqObj "list" out c) → h'.objs.size = s.heap.objs.size → KskOut false kz vs out.toList → P (.done (.ret .none)) { s with heap := h' }) :
    wpAny (model prog w) A (ksk_end a false vs.toArray e1 (.ref kS) keys) P E s := by
  have n1 : keys.size = vs.length := by
    have q := hk.length
    rw [Array.length_toList] at q
    omega
  have nz : (keys.zip vs.toArray).size = vs.length := by rw [Array.size_zip, n1, List.size_toArray, Nat.min_self]
  unfold ksk_end
  simp only [Bool.false_eq_true, if_false]
  by_cases h2 : vs.toArray.size < 2
  · rw [if_pos h2, if_pos h2]
    refine wpAny_bind (wpAny_pure ?_)
    rw [StateT.run_pure]
    refine wpAny_bind (wpAny_pure ?_)
    refine keys_tail (st := SortSt.mk' general' (keys.zip vs.toArray) #[] 7 none) ok oa hka hk hlen h64 (Array.Perm.refl _) (fun i j hij hj => ?_) rfl h
    have hj2 : j < (keys.zip vs.toArray).size := hj
    rw [nz] at hj2
    rw [List.size_toArray] at h2
    obtain rfl : i = j := by omega
    exact Int.le_refl _
  · rw [if_neg h2, if_neg h2]
    rw [List.size_toArray] at h2
    rw [ksk_kind hk (by rw [n1]; omega)]
    refine wpAny_bind (wpAny_pure ?_)
    refine wpAny_bind (wpAny_mono (wpS_sortRuns (a₀ := keys.zip vs.toArray) (st := SortSt.mk' oneType' (keys.zip vs.toArray) #[] 7 none)
      (Q := fun _ st' => (arrOf st').Perm (keys.zip vs.toArray) ∧ failedOf st' = none ∧ SortedTo (arrOf st') (keys.zip vs.toArray).size)
      (ksk_intKeys hk) ⟨Array.Perm.refl _, rfl, rfl, rfl⟩ (by rw [nz]; omega) (by rw [nz]; exact h64) fun st' a1 a2 a3 => ⟨a1, a2, a3⟩) ?_ fun _ _ z => z)
    rintro ⟨⟨⟩, st'⟩ s' ⟨rfl, hp, hf, hs⟩
    exact keys_tail ok oa hka hk hlen h64 hp (by rw [hp.size_eq]; exact hs) hf h
end
theorem paired_perm {α β : Type} {F : α → β → Prop} {n n' : List β} (h : n.Perm n') : ∀ {m : List α}, Paired F m n → ∃ m', m'.Perm m ∧ Paired F m' n' := by
  induction h with
  | nil => intro m p; exact ⟨m, List.Perm.refl _, p⟩
  | cons x _ ih =>
    intro m p
    cases p with
    | cons r t =>
      obtain ⟨m', h1, h2⟩ := ih t
      exact ⟨_ :: m', h1.cons _, .cons r h2⟩
  | swap x y l =>
    intro m p
    cases p with
    | cons r t =>
      cases t with
      | cons r2 t2 => exact ⟨_, List.Perm.swap .., .cons r2 (.cons r t2)⟩
  | trans _ _ ih1 ih2 =>
    intro m p
    obtain ⟨m1, h1, p1⟩ := ih1 p
    obtain ⟨m2, h2, p2⟩ := ih2 p1
    exact ⟨m2, h2.trans h1, p2⟩
theorem paired_zip {kz : List Int} : ∀ {ks : List Int} {xs : List V} {vs : List Value}, Vals xs vs → Paired (fun (p : Int × V) (q : Int × Value) => p.1 = q.1 ∧ RelV p.2 q.2) (ks.zip xs) (ks.zip vs)
  | [], _, _, _ => .nil
  | _ :: _, _, _, .nil => .nil
  | _ :: _, _, _, .cons r t => .cons ⟨rfl, r⟩ (paired_zip (kz := kz) t)
/-- what is asked: a walk of the keys, J behind each; then the list in the keys' order -/
def rSortK (K : PySem.W.Frag) (f : Addr) (sp : Sp) : List V → List V → Hp → VK → Prop := fun vs zs H Q => ∃ (l : Addr) (xs : List V) (kz : List Int) (J : Nat → Hp → Prop), vs = [.ref l] ∧ zs = [.ref f] ∧ SqL K H l xs ∧ kz.length = xs.length ∧ xs.length < 64 ∧ J 0 H ∧
  (∀ i x k H', xs[i]? = some x → kz[i]? = some k → J i H' → sp [x] H' (fun v H2 => v = .int k ∧ J (i + 1) H2) E0) ∧
  ∀ (ps : List (Int × V)) (p : Addr) (H' : Hp), J xs.length H' → ps.Perm (kz.zip xs) → ps.Pairwise (fun a b => a.1 ≤ b.1) → H' p = none → Q (.ref p) (upd H' p (.lst (ps.map Prod.snd)))
section
variable {X : Cx}
open PyProof.Rows
theorem run_key {CX : CXT} {k : Nat} {f : Addr} {fd : FuncData} {ps : List Str} {sp : Sp} {pins : List (Addr × Obj)} {σ : L2.St} {H : Hp} {s : Shared} {Q : VK} {u : Value} {v : V} {A' : Around} (F : FnOk X.prog X.w X.K X.mg X.base CX0 k f fd ps sp) (hr : Room k A') (hf : A'.frames = X.A.frames)
    (hb : Binds X.K fd ps []) (I : Inv X pins σ H s) (r : RelV v u) (h : sp [v] H Q E0) : wpAny (model X.prog X.w) A' (call (.ref f) [u]) (EP X pins σ Q) (fun _ _ => False) s := by
  have r2 : Vals [v] [u] := .cons r .nil
  have hl : ([u] ++ ([] : List Value)).length = ps.length := F.len _ _ _ _ h
  have e0 := I.env0
  refine wpAny_call (codeAny_mono (F.run A' X.stack s H ⟨[u], []⟩ [u] [v] Q E0 hr ⟨hf.trans e0.frames, e0.mod, e0.bs, e0.bsz, e0.funs, e0.frf, e0.hok, e0.bare⟩ (hb s [u] I.kIn hl) r2 h) fun r s' hq => ?_)
  cases r with
  | error e => exact False.elim hq
  | ok fl =>
    cases fl with
    | ret u => exact I.after hq
    | next => exact False.elim hq
    | brk => exact False.elim hq
    | cont => exact False.elim hq
theorem ints_snoc {n : Int} {t : Tok} {us : List Value} {ns : List Int} (h : IntsAre us ns) : IntsAre (us ++ [.int n t]) (ns ++ [n]) := ksk_snoc h
theorem seq_nocell {T : String} {ks : Array Value} {c : Nat} : ∀ v, (seqObj T ks c).data ≠ .cell v := fun v q => by cases q
theorem keys_rest {k : Nat} {f : Addr} {fd : FuncData} {ps : List Str} {sp : Sp} {pins : List (Addr × Obj)} {σ : L2.St} {H : Hp} {s : Shared} {A' : Around} {a kS : Addr} {vs : List Value} {xs : List V} {kz : List Int} {e1 : Nat} {J : Nat → Hp → Prop} {P : PySem.Fin → Shared → Prop} {E : Value → Shared → Prop}
    (F : FnOk X.prog X.w X.K X.mg X.base CX0 k f fd ps sp) (hr : Room k A') (hf : A'.frames = X.A.frames) (hb : Binds X.K fd ps []) (I : Inv X pins σ H s) (ok : s.heap.get? kS = some (seqObj "list" #[] 0)) (oa : s.heap.get? a = some (seqObj "list" #[] e1))
    (fk : FpOk X pins H kS) (fa : FpOk X pins H a) (hka : kS ≠ a) (rv : Vals xs vs) (hlen : kz.length = xs.length) (h64 : xs.length < 64) (j0 : J 0 H)
    (step : ∀ i x k H', xs[i]? = some x → kz[i]? = some k → J i H' → sp [x] H' (fun v H2 => v = .int k ∧ J (i + 1) H2) E0)
    (h : ∀ H' s' out c, Inv X pins σ H' s' → s'.heap.get? a = some (seqObj "list" out c) → H' a = none → J xs.length H' → KskOut false kz vs out.toList → P (.done (.ret .none)) s') :
    wpAny (model X.prog X.w) A' (ksk_rest a (.ref f) false vs.toArray e1 (.ref kS)) P E s := by
  have lv : xs.length = vs.length := rv.length
  unfold ksk_rest
  refine wpAny_bind (wpAny_rule ?_)
  rw [List.forIn_toArray]
  refine wpAny_bind (ksk_fold (fun i s' => ∃ H' kA e, Inv X ((kS, seqObj "list" kA e) :: (a, seqObj "list" #[] e1) :: pins) σ H' s' ∧ IntsAre kA.toList (kz.take i) ∧ J i H') vs 0 s ?st ?stp ?fn)
  case st =>
    refine ⟨H, #[], 0, I.pins_of fun p hp => ?_, by simpa using IntsAre.nil, j0⟩
    rcases List.mem_cons.mp hp with rfl | hp
    · exact ⟨ok, fk.1, fk.2.1, fk.2.2.1, seq_nocell⟩
    · rcases List.mem_cons.mp hp with rfl | hp
      · exact ⟨oa, fa.1, fa.2.1, fa.2.2.1, seq_nocell⟩
      · exact I.pin p (List.mem_append_right _ hp)
  case stp =>
    rintro j u s1 hu ⟨H1, kA, e, I1, hk, j1⟩
    rw [Nat.zero_add] at hk j1 ⊢
    have hj : j < vs.length := (List.getElem?_eq_some_iff.mp hu).1
    obtain ⟨x, hx⟩ : ∃ x, xs[j]? = some x := ⟨_, List.getElem?_eq_getElem (by omega)⟩
    obtain ⟨ky, hky⟩ : ∃ k, kz[j]? = some k := ⟨_, List.getElem?_eq_getElem (by omega)⟩
    obtain ⟨u', hu', ru⟩ := rv.get hx
    rw [hu] at hu'
    cases hu'
    have nA : kA.size ≤ vs.length := by
      have q := hk.length
      rw [Array.length_toList, List.length_take] at q
      omega
    refine wpAny_bind (wpAny_attempt (wpAny_mono (run_key (CX := CX0) F hr hf hb I1 ru (step j x ky H1 hx hky j1)) (fun v s2 hv => ?_) fun _ _ z => z.elim))
    obtain ⟨v', H2, I2, rv2, rfl, j2⟩ := hv
    obtain ⟨t2, rfl⟩ := rv2
    obtain ⟨p1, p2, p3, p4, _⟩ := I2.pin (kS, seqObj "list" kA e) (List.mem_append_right _ (List.mem_cons_self ..))
    obtain ⟨q1, q2, q3, q4, _⟩ := I2.pin (a, seqObj "list" #[] e1) (List.mem_append_right _ (List.mem_cons_of_mem _ (List.mem_cons_self ..)))
    have p1 : s2.heap.get? kS = some (seqObj "list" kA e) := p1
    have q1 : s2.heap.get? a = some (seqObj "list" #[] e1) := q1
    have I3 : Inv X pins σ H2 s2 := I2.pins_of fun p hp => I2.pin p (List.mem_append_right _ (List.mem_cons_of_mem _ (List.mem_cons_of_mem _ hp)))
    have sb := Heap.SameBut.update s2.heap kS (Obj.mapSeq (·.push (.int ky t2)))
    obtain ⟨c3, o3⟩ : ∃ c, (s2.heap.update kS (Obj.mapSeq (·.push (.int ky t2)))).get? kS = some (seqObj "list" (kA.push (.int ky t2)) c) := ⟨_, get?_update_seq p1 (·.push (.int ky t2))⟩
    have I4 := I3.turned (t' := s2.toks) (it := kS) (h' := s2.heap.update kS (Obj.mapSeq (·.push (.int ky t2)))) (fun b o hb q => (sb.2 b hb).trans q) p2 p3 fk.2.2.2.1 fk.2.2.2.2.1 fk.2.2.2.2.2
    refine wpAny_bind (listUpdate_at p1 rfl ?_ (by rw [sizeLine_eq]; omega) (Nat.le_trans (Nat.le_of_eq (Array.size_push ..)) (by rw [sizeLine_eq]; omega)))
    have ek : kz.take (j + 1) = kz.take j ++ [ky] := by rw [List.take_add_one, hky]; simp
    refine wpAny_pure ⟨rfl, H2, kA.push (.int ky t2), c3, I4.pins_of fun p hp => ?_, by rw [Array.toList_push, ek]; exact ints_snoc hk, j2⟩
    rcases List.mem_cons.mp hp with rfl | hp
    · exact ⟨o3, p2, p3, p4, seq_nocell⟩
    · rcases List.mem_cons.mp hp with rfl | hp
      · exact ⟨(sb.2 a hka.symm).trans q1, q2, q3, q4, seq_nocell⟩
      · exact I4.pin p (List.mem_append_right _ hp)
  case fn =>
    rintro s1 ⟨H1, kA, e, I1, hk, j1⟩
    rw [Nat.zero_add, ← lv, ← hlen, List.take_length] at hk
    rw [Nat.zero_add, ← lv] at j1
    obtain ⟨p1, p2, p3, p4, _⟩ := I1.pin (kS, seqObj "list" kA e) (List.mem_append_right _ (List.mem_cons_self ..))
    obtain ⟨q1, q2, q3, q4, _⟩ := I1.pin (a, seqObj "list" #[] e1) (List.mem_append_right _ (List.mem_cons_of_mem _ (List.mem_cons_self ..)))
    have p1 : s1.heap.get? kS = some (seqObj "list" kA e) := p1
    have q1 : s1.heap.get? a = some (seqObj "list" #[] e1) := q1
    have I3 : Inv X pins σ H1 s1 := I1.pins_of fun p hp => I1.pin p (List.mem_append_right _ (List.mem_cons_of_mem _ (List.mem_cons_of_mem _ hp)))
    refine wpAny_bind (listItems_at p1 rfl ?_)
    refine keys_end p1 q1 hka hk (by omega) (by omega) fun h' out c kp oa' hsz ko => h H1 _ out c ?_ oa' q2 j1 ko
    refine I3.turnedL (t' := s1.toks) (ch := [a, kS]) (fun b o hb q => kp b o (fun z => hb (by simp [z])) (fun z => hb (by simp [z])) q) fun b hb => ?_
    simp only [List.mem_cons, List.not_mem_nil, or_false] at hb
    rcases hb with rfl | rfl
    · exact ⟨q2, fa.2.1, fa.2.2.1, fa.2.2.2.1, fa.2.2.2.2.1, fa.2.2.2.2.2⟩
    · exact ⟨p2, fk.2.1, fk.2.2.1, fk.2.2.2.1, fk.2.2.2.2.1, fk.2.2.2.2.2⟩
theorem cr_sortK {k : Nat} {f : Addr} {fd : FuncData} {ps : List Str} {sp : Sp} (F : FnOk X.prog X.w X.K X.mg X.base CX0 k f fd ps sp) (hb : Binds X.K fd ps []) (hr : Room (k + 2) X.A) : CallRK X (.builtin "sorted") [Str.ofString "key"] (rSortK X.K f sp) := by
  intro pins s σ H xs0 zs0 us ws Q I r rz h
  obtain ⟨l, xs, kz, J, rfl, rfl, hs, hlen, h64, j0, step, fin⟩ := h
  obtain ⟨u1, rfl, c1⟩ := vals1 r
  obtain rfl : u1 = Value.ref l := c1
  obtain ⟨w1, rfl, c2⟩ := vals1 rz
  obtain rfl : w1 = Value.ref f := c2
  obtain ⟨vs, rv, hl, hz⟩ := I.list hs
  have lv : xs.length = vs.length := rv.length
  have hl : s.heap.IsList l vs.toArray := hl.isList
  show wpAny _ _ (call (.builtin "sorted") [.ref l] [(Str.ofString "key", .ref f)]) _ _ _
  refine call_function_entry_kw kind_sorted plain_sorted entry_sorted (ksk_s1 _ _) ?_
  unfold Builtin.«sorted»
  refine wpAny_bind (m := checkCount "sorted" 1 1 _) (wpAny_pure ?_)
  refine wpAny_bind (collect_list hl ?_ (by rw [sizeLine_eq]; omega))
  refine wpAny_bind (wpAny_newList ?_ (by rw [sizeLine_eq]; omega))
  have z1 : ((s.heap.push (seqObj "list" #[] 0)).update s.heap.objs.size (Obj.mapSeq (· ++ vs.toArray))).objs.size = s.heap.objs.size + 1 := by rw [Heap.size_update, size_push']
  have o1 : (((s.heap.push (seqObj "list" #[] 0)).update s.heap.objs.size (Obj.mapSeq (· ++ vs.toArray))).push (seqObj "list" vs.toArray 0)).get? (s.heap.objs.size + 1) = some (seqObj "list" vs.toArray 0) := by rw [← z1]; exact Heap.get?_push_size _ rfl
  have keep1 : ∀ b o, s.heap.get? b = some o → (((s.heap.push (seqObj "list" #[] 0)).update s.heap.objs.size (Obj.mapSeq (· ++ vs.toArray))).push (seqObj "list" vs.toArray 0)).get? b = some o := fun b o q => by
    have hlt : b < s.heap.objs.size := Heap.lt_size q
    refine Heap.get?_push_of_some _ ?_
    rw [Heap.get?_update_ne _ _ _ _ (Nat.ne_of_lt hlt)]
    exact Heap.get?_push_of_some _ q
  show wpAny _ _ _ _ _ { s with heap := ((s.heap.push (seqObj "list" #[] 0)).update s.heap.objs.size (Obj.mapSeq (· ++ vs.toArray))).push (seqObj "list" vs.toArray 0) }
  rw [z1]
  obtain ⟨a, ea⟩ : ∃ a, a = s.heap.objs.size + 1 := ⟨_, rfl⟩
  rw [← ea] at o1 ⊢
  have fa : FpOk X pins H a := I.fpOk (by rw [ea]; exact Nat.le_succ _) (I.hok.fresh (by rw [ea]; exact Nat.le_succ _))
  obtain ⟨h1, eh1⟩ : ∃ h1, h1 = ((s.heap.push (seqObj "list" #[] 0)).update s.heap.objs.size (Obj.mapSeq (· ++ vs.toArray))).push (seqObj "list" vs.toArray 0) := ⟨_, rfl⟩
  rw [← eh1] at o1 keep1 ⊢
  have I1 : Inv X pins σ H { s with heap := h1 } := I.kept (t' := s.toks) keep1
  refine wpAny_bind (wpAny_holding (wpAny_call_entry_kw slot_list_sort ⟨_, o1, rfl⟩ entry_list_sort ?body (ksk_l1 _ _)))
  case body =>
    show wpAny (model X.prog X.w) X.A.in1.in1 (Builtin.«list.sort» ⟨[.ref a], [(Str.ofString "key", .ref f)]⟩) _ _ _
    rw [ksk_t1]
    unfold ksk_tree
    refine wpAny_bind (listItems_at o1 rfl ?_)
    refine wpAny_bind (listUpdate_at o1 rfl ?_ (by rw [List.size_toArray, sizeLine_eq]; omega) (Nat.zero_le _))
    obtain ⟨e1, o2⟩ : ∃ e1, (h1.update a (Obj.mapSeq fun _ => (#[] : Array Value))).get? a = some (seqObj "list" #[] e1) := ⟨_, get?_update_seq o1 fun _ => #[]⟩
    have sb2 := Heap.SameBut.update h1 a (Obj.mapSeq fun _ => (#[] : Array Value))
    obtain ⟨h2, eh2⟩ : ∃ h2, h2 = h1.update a (Obj.mapSeq fun _ => (#[] : Array Value)) := ⟨_, rfl⟩
    rw [← eh2] at o2 sb2
    show wpAny _ _ _ _ _ { s with heap := h1.update a (Obj.mapSeq fun _ => (#[] : Array Value)) }
    rw [← eh2]
    have I2 : Inv X pins σ H { s with heap := h2 } := I1.turned (s := { s with heap := h1 }) (t' := s.toks) (it := a) (fun b o hb q => (sb2.2 b hb).trans q) fa.1 fa.2.1 fa.2.2.2.1 fa.2.2.2.2.1 fa.2.2.2.2.2
    refine wpAny_bind (seqEpoch_at o2 rfl ?_)
    refine wpAny_bind (wpAny_newTuple ?_ (by show vs.length ≤ _; rw [sizeLine_eq]; omega))
    refine wpAny_bind (wpAny_newList ?_ (Nat.zero_le _))
    refine wpAny_holding ?_
    obtain ⟨T, eT⟩ : ∃ T : Obj, T = { cls := Value.type "tuple", data := Data.seq vs.toArray.toList.toArray } := ⟨_, rfl⟩
    have I4 : Inv X pins σ H { s with heap := (h2.push T).push (seqObj "list" #[] 0) } := I2.kept (s := { s with heap := h2 }) (t' := s.toks) fun b o q => Heap.get?_push_of_some _ (Heap.get?_push_of_some _ q)
    have lt : a < (h2.push T).objs.size := by rw [Heap.size_push]; exact Nat.lt_succ_of_lt (Heap.lt_size o2)
    have fk : FpOk X pins H (h2.push T).objs.size := I2.fpOk (s := { s with heap := h2 }) (by show h2.objs.size ≤ _; rw [Heap.size_push]; exact Nat.le_succ _) (I2.hok.fresh (by show h2.objs.size ≤ _; rw [Heap.size_push]; exact Nat.le_succ _))
    rw [eT] at I4 lt fk
    refine keys_rest F hr.in1.in1 rfl hb I4 (Heap.get?_push_size _ rfl) (Heap.get?_push_of_some _ (Heap.get?_push_of_some _ o2)) fk fa (Nat.ne_of_gt lt) rv hlen h64 j0 step fun H' s' out c I5 oa hn jn ko => ⟨_, rfl, wpAny_pure ⟨_, rfl, ?_⟩⟩
    obtain ⟨qs, hq, ho, hw⟩ := ko
    obtain ⟨ms, m1, m2⟩ := paired_perm hq.symm (paired_zip (kz := kz) (ks := kz) rv)
    have no : ∀ (l1 : List (Int × V)) (l2 : List (Int × Value)), Paired (fun p q => p.1 = q.1 ∧ RelV p.2 q.2) l1 l2 → Vals (l1.map Prod.snd) (l2.map Prod.snd) := fun l1 l2 hp => by
      induction hp with
      | nil => exact .nil
      | cons r _ ih => exact .cons r.2 ih
    have so : ∀ (l1 : List (Int × V)) (l2 : List (Int × Value)), Paired (fun p q => p.1 = q.1 ∧ RelV p.2 q.2) l1 l2 → l2.map Prod.fst = l1.map Prod.fst := fun l1 l2 hp => by
      induction hp with
      | nil => rfl
      | cons r _ ih => rw [List.map_cons, List.map_cons, ih, r.1]
    have vo := no _ _ m2
    rw [← ho] at vo
    have ln : (ms.map Prod.snd).length ≤ sizeLine := by
      rw [List.length_map, m1.length_eq, List.length_zip, sizeLine_eq]
      omega
    refine ⟨.ref a, upd H' a (.lst (ms.map Prod.snd)), ?_, rfl, fin ms a H' jn m1 ?_ hn⟩
    · have no' : ∀ {b : Addr} {o : HO}, H' b = some o → b ≠ a := fun q z => by rw [z, hn] at q; cases q
      refine I5.call' (ch := [a]) rfl ⟨fun b o q n _ _ => q, fun b o q n _ _ => ⟨o.slots, q⟩, fun b o q n hc => by rw [upd_ne (fun z => hc (by simp [z]))]; exact n, fun b o q _ => ⟨o, q⟩, fun b ys q => by rw [upd_ne (no' q)]; exact q, fun b o v q => by rw [upd_ne (no' q)]; exact q, fun b qs q => ⟨#[], by rw [upd_ne (no' q), q]; simp⟩⟩ (fun b u q => ?_) I5.bare fun b hb => ?_
      · by_cases hba : b = a
        · subst hba
          rw [upd_same] at q
          cases q
          exact ⟨ln, out.toList, c, vo, by rw [Array.toArray_toList]; exact oa⟩
        · rw [upd_ne hba] at q
          exact (I5.hok b u q).stay (fun _ _ _ z => z) (fun d z => by rw [upd_ne (no' z)]; exact z) fun d ys z => by rw [upd_ne (no' z)]; exact z
      · rw [List.mem_singleton.mp hb]
        exact ⟨fa.2.2.2.1, fa.2.1, fa.2.2.2.2.1, fa.2.2.2.2.2⟩
    · have q : (qs.map Prod.fst).Pairwise (· ≤ ·) := by
        rw [List.pairwise_map]
        exact hw.imp fun h => by simpa using h
      rw [so _ _ m2, List.pairwise_map] at q
      exact q
end

/-! ### is_integer -/
abbrev sIsInt : Stmt := topS 5
abbrev NIsInt : List Str := ["value"]
abbrev PIsInt : List Str := ["value"]
theorem scIsInt : FnScope NIsInt PIsInt (defScope sIsInt) := ⟨rfl, rfl, rfl, by decide +kernel, rfl, by decide +kernel, by decide +kernel⟩
structure TxInt (mg : Str → Option Value) : Prop where
  n_int : mg "int" = none
  n_bool : mg "bool" = none
  n_isinstance : mg "isinstance" = none
def NoInt (K : PySem.W.Frag) (H : Hp) (v : V) : Prop := ∃ t b, TyX K H v t ∧ PySem.W.kitOne K t (.type "int") = some b ∧ (b = true → PySem.W.kitOne K t (.type "bool") = some true)
def spIsInt (K : PySem.W.Frag) : Sp := fun vs H Q _ => ∃ v, vs = [v] ∧ ((∃ i : Int, v = .int i ∧ Q (.bl true) H) ∨ (NoInt K H v ∧ Q (.bl false) H))
theorem ok_IsInt {P : Program} {w : World} {K : PySem.W.Frag} {mg : Str → Option Value} {base : Heap} {f : Addr} {fd : FuncData} (F : Fun K "is_integer" "is_integer" sIsInt f fd) (T : TxInt mg) : FnOk P w K mg base CX0 1 f fd PIsInt (spIsInt K) := by
  refine F.ok scIsInt (fun vs H Q E h => ?_) (fun cdv A outer s H vs Q E hr h => ?_)
  · obtain ⟨v, rfl, _⟩ := h
    rfl
  · obtain ⟨v, rfl, h⟩ := h
    refine ⟨_, (pss_one (ps_ret (pe_and (pe_callB call_isi (by rfl) T.n_isinstance bb_isinstance (pa_cons (pv 0) (pa_cons (pe_bltn (v := .ty "int") (by rfl) T.n_int bb_int rfl) pa_nil))) (pe_one (pe_not (pe_callB call_isi (by rfl) T.n_isinstance bb_isinstance (pa_cons (pv 0) (pa_cons (pe_bltn (v := .ty "bool") (by rfl) T.n_bool bb_bool rfl) pa_nil)))))))), ?_⟩
    rcases h with ⟨i, rfl, k⟩ | ⟨⟨t, b, ty, k1, k2⟩, k⟩
    · refine ⟨_, rfl, _, _, _, _, _, rfl, .ty _, .base (.int i), kit_ty (r := true) (by decide +kernel), _, rfl, ?_⟩
      exact ⟨_, rfl, _, _, _, _, _, rfl, .ty _, .base (.int i), kit_ty (r := false) (by decide +kernel), _, rfl, k⟩
    · refine ⟨_, rfl, _, _, _, _, _, rfl, .ty _, ty, k1, _, rfl, ?_⟩
      cases b with
      | false => exact k
      | true => exact ⟨_, rfl, _, _, _, _, _, rfl, .ty _, ty, k2 rfl, _, rfl, k⟩

/-! ### comprehensions whose steps only lay new objects down -/
theorem same_new {H : Hp} {p : Addr} {o : HO} (h : H p = none) : Same H (upd H p o) := fun b x e => by
  rw [upd_ne (ne_of_none e h)]
  exact e
theorem take_snoc {α : Type} {l : List α} {i : Nat} {z : α} (h : l[i]? = some z) : l.take (i + 1) = l.take i ++ [z] := by
  rw [List.take_succ, h]; rfl
theorem int_at {ns : List Int} {i : Nat} {x : V} (h : (ns.map V.int)[i]? = some x) : ∃ z, ns[i]? = some z ∧ x = V.int z := by
  rw [List.getElem?_map] at h
  cases e : ns[i]? with
  | none => rw [e] at h; cases h
  | some z => rw [e] at h; exact ⟨z, rfl, (Option.some.inj h).symm⟩
def rListOf (K : PySem.W.Frag) : List V → Hp → VK → Prop := fun xs H Q => ∃ p ys, xs = [.ref p] ∧ (SqL K H p ys ∨ SqT K H p ys) ∧ ∀ l, H l = none → Q (.ref l) (upd H l (.lst ys))
def rTupOf (K : PySem.W.Frag) : List V → Hp → VK → Prop := fun xs H Q => ∃ p ys, xs = [.ref p] ∧ ((SqL K H p ys ∧ ∀ l, H l = none → Q (.ref l) (upd H l (.tup ys))) ∨ (SqT K H p ys ∧ Q (.ref p) H))
def rLenS (K : PySem.W.Frag) : List V → Hp → VK → Prop := fun xs H Q => ∃ p ys, xs = [.ref p] ∧ (SqL K H p ys ∨ SqT K H p ys) ∧ Q (.int (ys.length : Nat)) H
/-- tuples stay -/
def TSame (H H' : Hp) : Prop := ∀ b xs, H b = some (.tup xs) → H' b = some (.tup xs)
theorem TSame.of {H H' : Hp} (s : Same H H') : TSame H H' := fun b xs e => s b _ e
theorem TSame.trans {H H1 H2 : Hp} (a : TSame H H1) (b : TSame H1 H2) : TSame H H2 := fun x xs e => b x xs (a x xs e)
/-- each step gives some y with P i y; the steps lay new objects down -/
theorem lc_rel {J : It} {n : Nat} {G : Hp → Prop} {Y : Nat → Hp → V → Hp → Prop} (w : Walk J n G Y) {g : TG} {te : TE} {vs : List Nat} {σ : L2.St} {H1 : Hp} {D : Addr} {Qd : Hp → Prop} (P : Nat → V → Hp → Prop) (hP : ∀ i y H H', TSame H H' → P i y H → P i y H') (hD : H1 D = none) (hn : n ≤ 1000) (hG : ∀ H, Same H1 H → G H)
    (hs : ∀ i x H H' (k : VK), i < n → Same H1 H → Y i H x H' → (∀ y H4, Same H H4 → P i y H4 → k y H4) → g x (wipe σ vs) H' fun σ2 H2 => wipe σ2 vs = wipe σ vs ∧ te σ2 H2 k)
    (hd : ∀ ys H, Same H1 H → H D = some (.lst ys) → ys.length = n → (∀ i y, ys[i]? = some y → P i y H) → Qd H) :
    ∃ W : Nat → Nat → Hp → Prop, (∃ m, W 0 m (upd H1 D (.lst []))) ∧ ∀ i m H, W i m H →
      (J.stop i H ∧ Qd H) ∨ (J.go i H ∧ ∃ Nx : Hp → Prop, (∀ H', Nx H' → ∃ m', m' < m ∧ W (i + 1) m' H') ∧ ∀ x H', J.yld i H x H' → g x (wipe σ vs) H' fun σ2 H2 => wipe σ2 vs = wipe σ vs ∧ tYes σ2 H2 fun b H3 =>
        if b = true then te σ2 H3 fun y H4 => ∃ acc, H4 D = some (.lst acc) ∧ acc.length < sizeLine ∧ Nx (upd H4 D (.lst (acc ++ [y]))) else Nx H3) := by
  refine lc_it w (fun i H => Same H1 H ∧ ∃ ys, H D = some (.lst ys) ∧ ys.length = i ∧ ∀ j y, ys[j]? = some y → P j y H) ⟨same_new hD, [], upd_same, rfl, fun j y z => by simp at z⟩ (fun i H _ h => hG H h.1) (fun i x H H' hi ⟨s1, ys, e1, l1, p1⟩ y => ?_) (fun H ⟨s1, ys, e1, l1, p1⟩ => hd ys H s1 e1 l1 p1)
  refine hs i x H H' _ hi s1 y fun y H4 s4 p4 => ?_
  have t4 : TSame H4 (upd H4 D (.lst (ys ++ [y]))) := fun b xs z => by
    rw [upd_ne (ne_of z (s4 _ _ e1) (fun q => by cases q))]
    exact z
  refine ⟨ys, s4 _ _ e1, small1000 (by omega), fun b o z => ?_, ys ++ [y], upd_same, by rw [List.length_append, l1]; rfl, fun j z hz => ?_⟩
  · rw [upd_ne (ne_of_none z hD)]
    exact s4 b o (s1 b o z)
  · by_cases hj : j < ys.length
    · rw [List.getElem?_append_left hj] at hz
      exact hP _ _ _ _ ((TSame.of s4).trans t4) (p1 j z hz)
    · rw [List.getElem?_append_right (by omega)] at hz
      have hj' : j - ys.length = 0 := by
        have q := (List.getElem?_eq_some_iff.mp hz).1
        simp at q
        omega
      rw [hj'] at hz
      cases hz
      obtain rfl : j = i := by omega
      exact hP _ _ _ _ t4 p4
/-- each step gives f i -/
theorem lc_map {J : It} {n : Nat} {G : Hp → Prop} {Y : Nat → Hp → V → Hp → Prop} (w : Walk J n G Y) {g : TG} {te : TE} {vs : List Nat} {σ : L2.St} {H1 : Hp} {D : Addr} {Qd : Hp → Prop} (f : Nat → V) (hD : H1 D = none) (hn : n ≤ 1000) (hG : ∀ H, Same H1 H → G H)
    (hs : ∀ i x H H' (k : VK), i < n → Same H1 H → Y i H x H' → (∀ H4, Same H H4 → k (f i) H4) → g x (wipe σ vs) H' fun σ2 H2 => wipe σ2 vs = wipe σ vs ∧ te σ2 H2 k)
    (hd : ∀ H, Same H1 H → H D = some (.lst ((List.range n).map f)) → Qd H) :
    ∃ W : Nat → Nat → Hp → Prop, (∃ m, W 0 m (upd H1 D (.lst []))) ∧ ∀ i m H, W i m H →
      (J.stop i H ∧ Qd H) ∨ (J.go i H ∧ ∃ Nx : Hp → Prop, (∀ H', Nx H' → ∃ m', m' < m ∧ W (i + 1) m' H') ∧ ∀ x H', J.yld i H x H' → g x (wipe σ vs) H' fun σ2 H2 => wipe σ2 vs = wipe σ vs ∧ tYes σ2 H2 fun b H3 =>
        if b = true then te σ2 H3 fun y H4 => ∃ acc, H4 D = some (.lst acc) ∧ acc.length < sizeLine ∧ Nx (upd H4 D (.lst (acc ++ [y]))) else Nx H3) := by
  refine lc_rel w (fun i y _ => y = f i) (fun _ _ _ _ _ h => h) hD hn hG (fun i x H H' k hi s1 y kk => hs i x H H' k hi s1 y fun H4 s4 => kk _ H4 s4 rfl) fun ys H s1 e1 l1 p1 => hd H s1 ?_
  rw [e1]
  congr 2
  refine List.ext_getElem? fun j => ?_
  by_cases hj : j < n
  · rw [List.getElem?_map, List.getElem?_range hj]
    obtain ⟨y, hy⟩ : ∃ y, ys[j]? = some y := ⟨ys[j], by simp [l1, hj]⟩
    rw [hy, p1 j y hy]
    rfl
  · rw [List.getElem?_eq_none (by omega), List.getElem?_eq_none (by rw [List.length_map, List.length_range]; omega)]
theorem range_map {α β : Type} (l : List α) (F : α → β) (f : Nat → β) (h : ∀ (i : Nat) (x : α), l[i]? = some x → f i = F x) : (List.range l.length).map f = l.map F := by
  refine List.ext_getElem? fun j => ?_
  by_cases hj : j < l.length
  · rw [List.getElem?_map, List.getElem?_range hj, List.getElem?_map, List.getElem?_eq_getElem hj]
    exact congrArg some (h j _ (List.getElem?_eq_getElem hj))
  · rw [List.getElem?_eq_none (by rw [List.length_map, List.length_range]; omega), List.getElem?_eq_none (by rw [List.length_map]; omega)]
theorem Paired.snocP {α β : Type} {F : α → β → Prop} : ∀ {l₁ : List α} {l₂ : List β} {a : α} {b : β}, Paired F l₁ l₂ → F a b → Paired F (l₁ ++ [a]) (l₂ ++ [b])
  | _, _, _, _, .nil, h => .cons h .nil
  | _, _, _, _, .cons r t, h => .cons r (Paired.snocP t h)

/-! ### rows -/
abbrev sIsRow : Stmt := topS 6
abbrev NIsRow : List Str := ["value", "width", "one"]
abbrev PIsRow : List Str := ["value", "width"]
theorem scIsRow : FnScope NIsRow PIsRow (defScope sIsRow) := ⟨rfl, rfl, rfl, by decide +kernel, rfl, by decide +kernel, by decide +kernel⟩
abbrev sCF : Stmt := topS 7
abbrev NCF : List Str := ["one", "other"]
abbrev PCF : List Str := ["one", "other"]
theorem scCF : FnScope NCF PCF (defScope sCF) := ⟨rfl, rfl, rfl, by decide +kernel, rfl, by decide +kernel, by decide +kernel⟩
abbrev sPrim : Stmt := topS 8
abbrev NPrim : List Str := ["row", "factor", "one", "first", "sign"]
abbrev PPrim : List Str := ["row"]
theorem scPrim : FnScope NPrim PPrim (defScope sPrim) := ⟨rfl, rfl, rfl, by decide +kernel, rfl, by decide +kernel, by decide +kernel⟩
abbrev sLead : Stmt := topS 9
abbrev NLead : List Str := ["row", "index", "one"]
abbrev PLead : List Str := ["row"]
theorem scLead : FnScope NLead PLead (defScope sLead) := ⟨rfl, rfl, rfl, by decide +kernel, rfl, by decide +kernel, by decide +kernel⟩
abbrev sWo : Stmt := topS 10
abbrev NWo : List Str := ["row", "other", "at", "one", "more"]
abbrev PWo : List Str := ["row", "other"]
theorem scWo : FnScope NWo PWo (defScope sWo) := ⟨rfl, rfl, rfl, by decide +kernel, rfl, by decide +kernel, by decide +kernel⟩
abbrev sRB : Stmt := topS 11
abbrev NRB : List Str := ["rows", "row", "other"]
abbrev PRB : List Str := ["rows", "row"]
theorem scRB : FnScope NRB PRB (defScope sRB) := ⟨rfl, rfl, rfl, by decide +kernel, rfl, by decide +kernel, by decide +kernel⟩
abbrev sAdded : Stmt := topS 12
abbrev NAdded : List Str := ["rows", "row", "rest", "found", "other"]
abbrev PAdded : List Str := ["rows", "row"]
theorem scAdded : FnScope NAdded PAdded (defScope sAdded) := ⟨rfl, rfl, rfl, by decide +kernel, rfl, by decide +kernel, by decide +kernel⟩
abbrev sRed : Stmt := topS 13
abbrev NRed : List Str := ["rows", "width", "found", "row"]
abbrev PRed : List Str := ["rows", "width"]
theorem scRed : FnScope NRed PRed (defScope sRed) := ⟨rfl, rfl, rfl, by decide +kernel, rfl, by decide +kernel, by decide +kernel⟩
abbrev Row := List Int
structure TxRow (mg : Str → Option Value) : Prop extends TxInt mg where
  n_len : mg "len" = none
  n_tuple : mg "tuple" = none
  n_list : mg "list" = none
  n_all : mg "all" = none
  n_abs : mg "abs" = none
  n_sorted : mg "sorted" = none
  n_zip : mg "zip" = none
  n_enumerate : mg "enumerate" = none
theorem bb_abs : bootBuiltins "abs" = some (.builtin "abs") := by decide +kernel
theorem bb_sorted : bootBuiltins "sorted" = some (.builtin "sorted") := by decide +kernel
def TupAt (H : Hp) (p : Addr) (r : Row) : Prop := H p = some (.tup (r.map V.int))
theorem abs_if (a : Int) : (if a < 0 then -a else a) = ((a.natAbs : Nat) : Int) := by
  split <;> omega
/-! what they compute -/
def gcdR (r : Row) : Nat := r.foldl (fun g x => Int.gcd g x) 0
def leadN (r : Row) : Option Nat := r.findIdx? (· ≠ 0)
def signR (r : Row) : Int := match r.find? (· ≠ 0) with | some x => if x > 0 then 1 else -1 | none => 1
def prim (r : Row) : Row := if gcdR r = 0 then r else r.map fun x => (signR r * x) / (gcdR r : Nat)
theorem gcd_fold : ∀ (r : Row) (g : Nat), (∀ x ∈ r, ((r.foldl (fun g x => Int.gcd g x) g : Nat) : Int) ∣ x) ∧ (r.foldl (fun g x => Int.gcd g x) g) ∣ g
  | [], g => ⟨(fun _ z => nomatch z), Nat.dvd_refl g⟩
  | y :: r, g => by
    obtain ⟨h1, h2⟩ := gcd_fold r (Int.gcd g y)
    refine ⟨fun x hx => ?_, Nat.dvd_trans h2 ?_⟩
    · rcases List.mem_cons.mp hx with e | e
      · rw [e]
        exact Int.dvd_trans (Int.natCast_dvd_natCast.mpr h2) (Int.gcd_dvd_right ..)
      · exact h1 x e
    · exact Int.natCast_dvd_natCast.mp (Int.gcd_dvd_left ..)
theorem gcd_dvd {r : Row} {x : Int} (h : x ∈ r) : ((gcdR r : Nat) : Int) ∣ x := (gcd_fold r 0).1 x h
theorem gcd_zero {r : Row} (h : gcdR r = 0) {x : Int} (hx : x ∈ r) : x = 0 := by
  have q := gcd_dvd hx
  rw [h] at q
  exact Int.zero_dvd.mp q
theorem gcd_small {r : Row} {B : Nat} (hB : ∀ x ∈ r, x.natAbs < 2 ^ B) : gcdR r < 2 ^ B ∨ ∀ x ∈ r, x = 0 := by
  by_cases h : ∀ x ∈ r, x = 0
  · exact .inr h
  · left
    simp only [Classical.not_forall] at h
    obtain ⟨x, hx, hne⟩ := h
    have q := Int.natAbs_dvd_natAbs.mpr (gcd_dvd hx)
    rw [Int.natAbs_natCast] at q
    exact Nat.lt_of_le_of_lt (Nat.le_of_dvd (by omega) q) (hB x hx)
theorem gcd_all {r : Row} (h : ∀ x ∈ r, x = 0) : gcdR r = 0 := by
  have : ∀ (r : Row) (g : Nat), (∀ x ∈ r, x = 0) → r.foldl (fun g x => Int.gcd g x) g = g := by
    intro r
    induction r with
    | nil => intro g _; rfl
    | cons y r ih =>
      intro g h
      rw [List.foldl_cons, h y (List.mem_cons_self ..), Int.gcd_zero_right, Int.natAbs_natCast]
      exact ih g fun x hx => h x (List.mem_cons_of_mem _ hx)
  exact this r 0 h
def Small (r : Row) (B : Nat) : Prop := ∀ x ∈ r, x.natAbs < 2 ^ B
section
variable {P : Program} {w : World} {K : PySem.W.Frag} {mg : Str → Option Value} {base : Heap}
/-! common_factor -/
def spCF : Sp := fun vs H Q _ => ∃ a b : Int, vs = [.int a, .int b] ∧ Q (.int (Int.gcd a b : Nat)) H
theorem ok_CF {f : Addr} {fd : FuncData} (F : Fun K "common_factor" "common_factor" sCF f fd) (T : TxRow mg) : FnOk P w K mg base CX0 1 f fd PCF spCF := by
  refine F.ok scCF (fun vs H Q E h => ?_) (fun cdv A outer s H vs Q E hr h => ?_)
  · obtain ⟨a, b, rfl, _⟩ := h
    rfl
  · obtain ⟨a, b, rfl, k⟩ := h
    refine ⟨_, (pss_cons (ps_par (i := 0) (j := 1) (by rfl) scCF.nd rfl rfl (by decide) rfl rfl (pa_cons (pe_callB call_abs (by rfl) T.n_abs bb_abs (pa_cons (pv 0) pa_nil)) (pa_cons (pe_callB call_abs (by rfl) T.n_abs bb_abs (pa_cons (pv 1) pa_nil)) pa_nil)) (by rfl))
  (pss_cons (ps_while PassesOwn.never (pt_cmpR op_ne (pv 1) pe_int (nomark _))
  (pss_one (ps_par (i := 0) (j := 1) (by rfl) scCF.nd rfl rfl (by decide) rfl rfl (pa_cons (pv 1) (pa_cons (pe_op op_mod (pv 0) (pv 1)) pa_nil)) (by rfl))))
  (pss_one (ps_ret (pv 0))))), ?_⟩
    refine ⟨_, rfl, _, rfl, _, rfl, _, rfl, _, _, rfl, ?_⟩
    rw [abs_if, abs_if]
    refine ⟨fun m σ H' => ∃ n : Nat, σ = [some (.int (n : Int)), some (.int (m : Int))] ∧ Nat.gcd n m = Int.gcd a b ∧ H' = H, ⟨b.natAbs, a.natAbs, rfl, rfl, rfl⟩, ?_⟩
    rintro m σ H1 ⟨n, rfl, hg, eH⟩
    refine ⟨_, rfl, rfl, _, rfl, ite2 (fun hne => ?_) (fun he => ?_)⟩
    · have hm : 0 < m := by
        rcases Nat.eq_zero_or_pos m with z | z
        · rw [z] at hne
          exact absurd hne (by decide)
        · exact z
      refine ⟨fun σ' H' => ∃ n' m' : Nat, m' < m ∧ σ' = [some (.int (n' : Int)), some (.int (m' : Int))] ∧ Nat.gcd n' m' = Int.gcd a b ∧ H' = H, fun σ' H' ⟨n', m', h1, h2, h3, h4⟩ => ⟨m', h1, n', h2, h3, h4⟩, ?_⟩
      refine ⟨_, rfl, _, rfl, _, rfl, _, _, rfl, rfl, (show (0 : Int) < (m : Int) by omega), _, _, rfl, m, n % m, Nat.mod_lt _ hm, rfl, ?_, eH⟩
      rw [← hg, Nat.gcd_comm m, ← Nat.gcd_rec, Nat.gcd_comm]
    · have hm : m = 0 := by
        rcases Nat.eq_zero_or_pos m with z | z
        · exact z
        · exfalso
          apply he
          show (!decide (V.int (m : Int) = V.int 0)) = true
          rw [decide_eq_false (fun q => by injection q with q; omega)]
          rfl
      subst hm
      rw [Nat.gcd_zero_right] at hg
      subst hg
      rw [eH]
      exact ⟨_, rfl, k⟩
theorem sgn_b (r : Row) (sg : Int) (h : sg = signR r) : -(2 ^ 64) < sg ∧ sg < 2 ^ 64 := by
  rw [h]
  unfold signR
  split
  · split <;> decide
  · decide
/-! primitive -/
def spPrim : Sp := fun vs H Q _ => ∃ (p : Addr) (r : Row), vs = [.ref p] ∧ TupAt H p r ∧ r.length ≤ 100 ∧ Small r 9000 ∧ ∀ (q : Addr) (H' : Hp), Same H H' → TupAt H' q (prim r) → Q (.ref q) H'
theorem ok_Prim {f : Addr} {fd : FuncData} (F : Fun K "primitive" "primitive" sPrim f fd) (T : TxRow mg) (GC : Has P w K mg base CX0 1 "common_factor" PCF spCF) : FnOk P w K mg base CX0 2 f fd PPrim spPrim := by
  refine F.ok scPrim (fun vs H Q E h => ?_) (fun cdv A outer s H vs Q E hr h => ?_)
  · obtain ⟨p, r, rfl, _⟩ := h
    rfl
  · obtain ⟨p, r, rfl, hp, hl, sm, k⟩ := h
    refine ⟨_, (pss_cons (ps_set (i := 1) scPrim.nd rfl (Or.inr rfl) pe_int)
  (pss_cons (ps_for PassesOwn.never rfl (pi_tup (pv 0)) (pg_name (i := 2) scPrim.nd rfl (Or.inl rfl))
  (pss_one (ps_set (i := 1) scPrim.nd rfl (Or.inr rfl) (pe_callH GC hr rfl pass0 (pa_cons (pv 1) (pa_cons (pv 2) pa_nil))))))
  (pss_cons (ps_if (pt_cmpR op_eq (pv 1) pe_int (nomark _))
  (pss_one (ps_ret (pv 0)))
  pss_nil)
  (pss_cons (ps_set (i := 3) scPrim.nd rfl (Or.inl rfl) (pe_ix (r := rIxL K) ix_list (pe_lc (own := [("one", 2)]) (g := gName 2) rfl scPrim.nd (pi_tup (pv 0)) (blkOk_by (own := [("one", 2)]) (N := NPrim) (sc := (defScope sPrim)) (by decide +kernel)) (fun _ _ _ _ _ => (pg_name (i := 2) scPrim.nd rfl (Or.inl rfl))) (fun _ _ _ _ _ => (pts_one (pt_cmpR op_ne (pv 2) pe_int (nomark _)))) (fun _ _ _ _ _ => (pv 2))) pe_int (fun _ _ => rfl)))
  (pss_cons (ps_set (i := 4) scPrim.nd rfl (Or.inr rfl) (pe_ifExp (pt_cmpR op_gt (pv 3) pe_int (nomark _)) pe_int (pe_un un_neg pe_int)))
  (pss_one (ps_ret (pe_callTy call_tuple_of (by rfl) T.n_tuple bb_tuple (pa_cons (pe_lc (own := [("one", 2)]) (g := gName 2) (tt := tYes) rfl scPrim.nd (pi_tup (pv 0)) (blkOk_by (own := [("one", 2)]) (N := NPrim) (sc := (defScope sPrim)) (by decide +kernel)) (fun _ _ _ _ _ => (pg_name (i := 2) scPrim.nd rfl (Or.inl rfl))) (fun _ _ _ _ _ => pts_nil) (fun _ _ _ _ _ => (pe_op op_fdivW (pe_op op_mul (pv 4) (pv 2)) (pv 1)))) pa_nil))))))))), ?_⟩
    -- the factor
    have hS := SqT.of (K := K) hp
    refine ⟨_, rfl, p, rfl, ⟨_, hS⟩, for_tup (K := K) (a := p) (xs := r.map V.int) (fun i σ H' => ∃ x : Option V, σ = [some (.ref p), some (.int ((r.take i).foldl (fun g x => Int.gcd g x) 0 : Nat)), x, none, none] ∧ H' = H) ⟨none, rfl, rfl⟩ (fun i σ H' _ ⟨_, _, e⟩ => by rw [e]; exact hS) ?_ ?_⟩
    · rintro i x σ H' hx ⟨y, rfl, rfl⟩
      obtain ⟨z, hz, rfl⟩ := int_at hx
      refine ⟨_, rfl, _, rfl, _, _, rfl, some (.int z), ?_, rfl⟩
      rw [take_snoc hz, List.foldl_append]
      rfl
    · rintro σ H' ⟨y, rfl, rfl⟩
      rw [List.length_map, List.take_length]
      refine ⟨_, rfl, rfl, _, rfl, ite2 (fun hz => ?_) (fun hz => ?_)⟩
      · have g0 : gcdR r = 0 := by
          have q := of_decide_eq_true hz
          injection q with q
          exact Int.ofNat.inj q
        exact ⟨_, rfl, k p _ (Same.refl _) (by unfold prim; rw [if_pos g0]; exact hp)⟩
      · have g0 : gcdR r ≠ 0 := fun q => hz (decide_eq_true (by show V.int ((gcdR r : Nat) : Int) = V.int 0; rw [q]; rfl))
        obtain ⟨x0, hx0⟩ : ∃ x0, r.find? (· ≠ 0) = some x0 := by
          cases e : r.find? (· ≠ 0) with
          | some x => exact ⟨x, rfl⟩
          | none => exact absurd (gcd_all fun x hx => by simpa using List.find?_eq_none.mp e x hx) g0
        have hx0' : (r.filter (· ≠ 0))[0]? = some x0 := by rw [← List.head?_eq_getElem?, List.head?_filter]; exact hx0
        refine ⟨_, rfl, p, rfl, ⟨_, hS⟩, fun D hD => lc_tup (K := K) (a := p) (xs := r.map V.int) (fun i H1 => Same H' H1 ∧ H1 D = some (.lst (((r.take i).filter (· ≠ 0)).map V.int))) ⟨same_new hD, upd_same⟩ (fun i H1 _ h1 => SqT.of (h1.1 _ _ hp)) ?_ ?_⟩
        · rintro i x H1 hx ⟨s1, e1⟩
          obtain ⟨z, hz', rfl⟩ := int_at hx
          refine ⟨rfl, _, rfl, rfl, _, rfl, ite2 (fun hne => ?_) (fun hne => ?_)⟩
          · have zne : z ≠ 0 := fun q => by rw [q] at hne; exact absurd hne (by decide)
            refine ⟨_, rfl, _, e1, small1000 ?_, fun b o e => by rw [upd_ne (ne_of_none e hD)]; exact s1 b o e, ?_⟩
            · rw [List.length_map]
              have q1 := List.length_filter_le (fun x : Int => decide (x ≠ 0)) (r.take i)
              rw [List.length_take] at q1
              omega
            · rw [upd_same, take_snoc hz', List.filter_append, List.map_append]
              simp [zne]
          · have ze : z = 0 := by
              by_cases q : z = 0
              · exact q
              · exact absurd (show (!decide (V.int z = V.int 0)) = true by rw [decide_eq_false (fun q' => by injection q' with q'; exact q q')]; rfl) hne
            refine ⟨s1, ?_⟩
            rw [take_snoc hz', List.filter_append]
            simp [ze, e1]
        · rintro H1 ⟨s1, e1⟩
          rw [List.length_map, List.take_length] at e1
          refine ⟨D, _, _, _, rfl, rfl, SqL.of e1, atI_nat (j := 0) (by rw [List.getElem?_map, hx0']; rfl), ?_⟩
          have fin : ∀ sg : Int, sg = signR r → tRet (tCB (fun xs H_1 Q => ∃ p ys, xs = [V.ref p] ∧ ((SqL K H_1 p ys ∧ ∀ l, H_1 l = none → Q (.ref l) (upd H_1 l (.tup ys))) ∨ (SqT K H_1 p ys ∧ Q (.ref p) H_1))) (tCons (tLc (iTup K (tVar 0)) (gName 2) tYes (tOp (rI CDivW fun i j => V.int (i / j)) (tOp (rI CMul fun i j => V.int (i * j)) (tVar 4) (tVar 2)) (tVar 1)) [2]) tNil))
              { nx := fun x H' => Q V.non H', rt := Q } [some (.ref p), some (.int ((gcdR r : Nat) : Int)), y, some (.int x0), some (.int sg)] H1 := by
            intro sg hsg
            have hp1 := s1 _ _ hp
            refine ⟨_, rfl, p, rfl, ⟨_, SqT.of hp1⟩, fun D2 hD2 => lc_map (n := r.length) (by rw [← List.length_map (f := V.int)]; exact walk_tup (xs := r.map V.int)) (fun i => V.int ((sg * r.getD i 0) / ((gcdR r : Nat) : Int))) hD2 (by omega) (fun H2 s2 => SqT.of (s2 _ _ hp1)) ?_ ?_⟩
            · rintro i x H2 H3 kk hi s2 ⟨rfl, hx⟩ kc
              obtain ⟨z, hz', rfl⟩ := int_at hx
              have ez : r.getD i 0 = z := by rw [List.getD_eq_getElem?_getD, hz']; rfl
              refine ⟨rfl, _, rfl, _, rfl, _, _, rfl, rfl, .inl ⟨?_, ?_⟩, _, rfl, _, _, rfl, rfl, ?_, ?_⟩
              · exact (sgn_b r sg hsg).1
              · exact (sgn_b r sg hsg).2
              · rcases gcd_small sm with q | q
                · exact wide_div (by omega) (by rw [Int.natAbs_natCast]; exact q) (by decide) (Nat.le_refl _)
                · exact absurd (gcd_all q) g0
              · have q := kc H3 (Same.refl _)
                rw [ez] at q
                exact q
            · intro H2 s2 e2
              refine ⟨D2, _, rfl, .inl ⟨SqL.of e2, fun l hl => ?_⟩⟩
              refine k l _ ((s1.trans s2).trans (same_new hl)) ?_
              show upd _ l _ l = _
              rw [upd_same]
              congr 2
              unfold prim
              rw [if_neg g0, List.map_map]
              refine range_map r _ _ fun i x hx => ?_
              rw [List.getD_eq_getElem?_getD, hx, hsg]
              rfl
          refine ⟨_, rfl, _, _, rfl, rfl, _, rfl, ite2 (fun hc => fin 1 ?_) (fun hc => ⟨_, rfl, fin (-1) ?_⟩)⟩
          · unfold signR
            rw [hx0]
            exact (if_pos (of_decide_eq_true hc)).symm
          · unfold signR
            rw [hx0]
            exact (if_neg (fun q => hc (decide_eq_true q))).symm
/-! lead -/
def optV : Option Nat → V
  | none => .non
  | some n => .int (n : Nat)
def spLead : Sp := fun vs H Q _ => ∃ (p : Addr) (r : Row), vs = [.ref p] ∧ TupAt H p r ∧ ∀ H', Same H H' → Q (optV (leadN r)) H'
theorem find_take {r : Row} {i : Nat} (h : ∀ x ∈ r.take i, x = 0) (hi : i ≤ r.length) : leadN r = (leadN (r.drop i)).map (· + i) := by
  conv => lhs; rw [← List.take_append_drop i r]
  unfold leadN
  rw [List.findIdx?_append]
  have e : (r.take i).findIdx? (· ≠ 0) = none := by
    rw [List.findIdx?_eq_none_iff]
    intro x hx
    simp [h x hx]
  rw [e, List.length_take, Nat.min_eq_left hi]
  simp
theorem ok_Lead {f : Addr} {fd : FuncData} (F : Fun K "lead" "lead" sLead f fd) (T : TxRow mg) : FnOk P w K mg base CX0 1 f fd PLead spLead := by
  refine F.ok scLead (fun vs H Q E h => ?_) (fun cdv A outer s H vs Q E hr h => ?_)
  · obtain ⟨p, r, rfl, _⟩ := h
    rfl
  · obtain ⟨p, r, rfl, hp, k⟩ := h
    refine ⟨_, (pss_cons (ps_for PassesOwn.never rfl (pi_enumT (by rfl) T.n_enumerate (pa_cons (pv 0) pa_nil)) (pg_tup (by rfl) (pgs_cons (pg_name (i := 1) scLead.nd rfl (Or.inl rfl)) (pgs_cons (pg_name (i := 2) scLead.nd rfl (Or.inl rfl)) pgs_nil)))
  (pss_one (ps_if (pt_cmpR op_ne (pv 2) pe_int (nomark _))
  (pss_one (ps_ret (pv 1)))
  pss_nil)))
  (pss_one (ps_ret pe_non))), ?_⟩
    refine ⟨_, rfl, p, _, rfl, SqT.of hp, ?_⟩
    refine for_it walk_enumT (fun i σ H' => (∃ x y : Option V, σ = [some (.ref p), x, y]) ∧ Same H H' ∧ ∀ x ∈ r.take i, x = 0) ⟨⟨none, none, rfl⟩, Same.refl _, by simp⟩ (fun i σ H' _ h' => SqT.of (h'.2.1 _ _ hp)) ?_ ?_
    · rintro i v σ H1 H2 hi ⟨⟨x, y, rfl⟩, s1, z1⟩ ⟨T', u, rfl, hT, rfl, hu⟩
      obtain ⟨z, hz, rfl⟩ := int_at hu
      have hil : i < r.length := by
        have q := (List.getElem?_eq_some_iff.mp hz).1
        exact q
      have s2 := s1.trans (same_new (o := .tup [.int (i : Nat), .int z]) hT)
      refine ⟨T', _, rfl, SqT.of upd_same, rfl, _, _, rfl, _, _, rfl, rfl, ?_⟩
      refine ⟨_, rfl, rfl, _, rfl, ite2 (fun hne => ?_) (fun hne => ?_)⟩
      · have zne : z ≠ 0 := fun q => by rw [q] at hne; exact absurd hne (by decide)
        have e : leadN r = some i := by
          rw [find_take z1 (Nat.le_of_lt hil), List.drop_eq_getElem_cons hil]
          have ez : r[i] = z := (List.getElem?_eq_some_iff.mp hz).2
          unfold leadN
          rw [List.findIdx?_cons, ez]
          simp [zne]
        have q := k _ s2
        rw [e] at q
        exact ⟨_, rfl, q⟩
      · have ze : z = 0 := by
          by_cases q : z = 0
          · exact q
          · exact absurd (show (!decide (V.int z = V.int 0)) = true by rw [decide_eq_false (fun q' => by injection q' with q'; exact q q')]; rfl) hne
        refine ⟨⟨_, _, rfl⟩, s2, fun x hx => ?_⟩
        rw [take_snoc hz] at hx
        rcases List.mem_append.mp hx with q | q
        · exact z1 x q
        · rw [List.mem_singleton.mp q]; exact ze
    · rintro σ H1 ⟨⟨x, y, rfl⟩, s1, z1⟩
      rw [List.length_map, List.take_length] at z1
      have e : leadN r = none := by
        unfold leadN
        rw [List.findIdx?_eq_none_iff]
        intro x hx
        simp [z1 x hx]
      have q := k _ s1
      rw [e] at q
      exact q
/-! without -/
def wo (row other : Row) : Row := match leadN other with
  | none => row
  | some at_ => if row.getD at_ 0 = 0 then row else prim (List.zipWith (fun o m => o * other.getD at_ 0 - m * row.getD at_ 0) row other)
theorem sub_lt {a b : Int} {n : Nat} (ha : a.natAbs < 2 ^ n) (hb : b.natAbs < 2 ^ n) : (a - b).natAbs < 2 ^ (n + 1) := by
  rw [Nat.pow_succ]
  omega
theorem getD_of {r : Row} {i : Nat} {z : Int} (h : r[i]? = some z) : r.getD i 0 = z := by
  rw [List.getD_eq_getElem?_getD, h]
  rfl
theorem cross_small {r o : Row} {B C : Nat} {d z : Int} (sr : Small r B) (so : Small o C) (hd : d.natAbs < 2 ^ C) (hz : z.natAbs < 2 ^ B) : Small (List.zipWith (fun x m => x * d - m * z) r o) (B + C + 1) := by
  intro v hv
  obtain ⟨i, hi, rfl⟩ := List.mem_iff_getElem.mp hv
  rw [List.getElem_zipWith]
  refine sub_lt (wide_lt (sr _ (List.getElem_mem _)) hd) ?_
  rw [Nat.add_comm B C]
  exact wide_lt (so _ (List.getElem_mem _)) hz
theorem lead_at {o : Row} {n : Nat} (h : leadN o = some n) : ∃ d, o[n]? = some d ∧ d ≠ 0 := by
  unfold leadN at h
  obtain ⟨hn, h1, _⟩ := List.findIdx?_eq_some_iff_getElem.mp h
  exact ⟨o[n], by simp [hn], by simpa using h1⟩
def spWo : Sp := fun vs H Q _ => ∃ (p q : Addr) (r o : Row) (B C : Nat), vs = [.ref p, .ref q] ∧ TupAt H p r ∧ TupAt H q o ∧ r.length = o.length ∧ r.length ≤ 100 ∧ Small r B ∧ Small o C ∧ 0 < B ∧ 0 < C ∧ B + C + 1 ≤ 9000 ∧ leadN o ≠ none ∧
  ∀ (t : Addr) (H' : Hp), Same H H' → TupAt H' t (wo r o) → Q (.ref t) H'
theorem ok_Wo {f : Addr} {fd : FuncData} (F : Fun K "without" "without" sWo f fd) (T : TxRow mg) (GL : Has P w K mg base CX0 1 "lead" PLead spLead) (GP : Has P w K mg base CX0 2 "primitive" PPrim spPrim) : FnOk P w K mg base CX0 3 f fd PWo spWo := by
  refine F.ok scWo (fun vs H Q E h => ?_) (fun cdv A outer s H vs Q E hr h => ?_)
  · obtain ⟨p, q, r, o, B, C, rfl, _⟩ := h
    rfl
  · obtain ⟨p, q, r, o, B, C, rfl, hp, hq, hl, hl1, sr, so, b0, c0, bc, ld, k⟩ := h
    have hr1 := hr.mono (j := 1) (by decide)
    refine ⟨_, (pss_cons (ps_set (i := 2) scWo.nd rfl (Or.inr rfl) (pe_callH GL hr1 rfl pass0 (pa_cons (pv 1) pa_nil)))
  (pss_cons (ps_if (pt_cmpR op_eq (pe_ix (r := rIxT K) ix_tup (pv 0) (pv 2) (fun _ _ => rfl)) pe_int (nomark _))
  (pss_one (ps_ret (pv 0)))
  pss_nil)
  (pss_one (ps_ret (pe_callH GP hr rfl pass0 (pa_cons (pe_callTy call_tuple_of (by rfl) T.n_tuple bb_tuple (pa_cons (pe_lc (own := [("one", 3), ("more", 4)]) (g := gTup K 2 (gCons (gName 3) (gCons (gName 4) gNil))) (tt := tYes) rfl scWo.nd (pi_zipS true true (by rfl) T.n_zip (pa_cons (pv 0) (pa_cons (pv 1) pa_nil)) (pk_cons pe_bl pk_nil)) (blkOk_by (own := [("one", 3), ("more", 4)]) (N := NWo) (sc := (defScope sWo)) (by decide +kernel)) (fun _ _ _ _ _ => (pg_tup (by rfl) (pgs_cons (pg_name (i := 3) scWo.nd rfl (Or.inl rfl)) (pgs_cons (pg_name (i := 4) scWo.nd rfl (Or.inl rfl)) pgs_nil)))) (fun _ _ _ _ _ => pts_nil) (fun _ _ _ _ _ => (pe_op op_sub (pe_op op_mulW (pv 3) (pe_ix (r := rIxT K) ix_tup (pv 1) (pv 2) (fun _ _ => rfl))) (pe_op op_mulW (pv 4) (pe_ix (r := rIxT K) ix_tup (pv 0) (pv 2) (fun _ _ => rfl)))))) pa_nil)) pa_nil)))))), ?_⟩
    obtain ⟨n, hn⟩ : ∃ n, leadN o = some n := Option.ne_none_iff_exists'.mp ld
    obtain ⟨d, hd, dne⟩ := lead_at hn
    have nlt : n < o.length := (List.getElem?_eq_some_iff.mp hd).1
    obtain ⟨z, hz⟩ : ∃ z, r[n]? = some z := ⟨r[n]'(by omega), by simp [show n < r.length by omega]⟩
    refine ⟨_, rfl, q, o, rfl, hq, fun H1 s1 => ?_⟩
    rw [hn]
    have hp1 := s1 _ _ hp
    have hq1 := s1 _ _ hq
    have az : atI (r.map V.int) ((n : Nat) : Int) = some (V.int z) := atI_nat (by rw [List.getElem?_map, hz]; rfl)
    have ad : atI (o.map V.int) ((n : Nat) : Int) = some (V.int d) := atI_nat (by rw [List.getElem?_map, hd]; rfl)
    have sz : z.natAbs < 2 ^ B := sr _ (List.mem_of_getElem? hz)
    have sd : d.natAbs < 2 ^ C := so _ (List.mem_of_getElem? hd)
    refine ⟨_, rfl, _, rfl, p, _, _, _, rfl, rfl, SqT.of hp1, az, rfl, _, rfl, ite2 (fun h0 => ?_) (fun h0 => ?_)⟩
    · have z0 : z = 0 := by
        have q := of_decide_eq_true h0
        injection q
      exact ⟨_, rfl, k p H1 s1 (by unfold wo; rw [hn]; show TupAt H1 p (if r.getD n 0 = 0 then r else _); rw [if_pos (by rw [getD_of hz]; exact z0)]; exact hp1)⟩
    · have z0 : z ≠ 0 := fun q => h0 (decide_eq_true (by rw [q]))
      refine ⟨_, rfl, _, rfl, p, q, _, _, rfl, rfl, SqT.of hp1, SqT.of hq1, fun D hD => ?_⟩
      refine lc_map (walk_zs (K := K) (t1 := true) (t2 := true) (a := p) (b := q) (xs := r.map V.int) (ys := o.map V.int) (by rw [List.length_map, List.length_map]; exact hl)) (fun i => V.int (r.getD i 0 * d - o.getD i 0 * z)) hD (by rw [List.length_map]; omega) (fun H2 s2 => ⟨SqT.of (s2 _ _ hp1), SqT.of (s2 _ _ hq1)⟩) ?_ ?_
      · rintro i x H2 H3 kk hi s2 ⟨T', u, v, rfl, hT, rfl, hu, hv⟩ kc
        obtain ⟨x1, hx1, rfl⟩ := int_at hu
        obtain ⟨y1, hy1, rfl⟩ := int_at hv
        have s3 := same_new (o := .tup [.int x1, .int y1]) hT
        have hp3 := s3 _ _ (s2 _ _ hp1)
        have hq3 := s3 _ _ (s2 _ _ hq1)
        refine ⟨T', _, rfl, SqT.of upd_same, rfl, _, _, rfl, _, _, rfl, rfl, rfl, _, rfl, _, rfl, _, rfl, q, _, _, _, rfl, rfl, SqT.of hq3, ad, _, _, rfl, rfl, wide_mul (sr _ (List.mem_of_getElem? hx1)) sd b0 c0 (by omega), _, rfl, _, rfl, _, rfl, p, _, _, _, rfl, rfl, SqT.of hp3, az, _, _, rfl, rfl, wide_mul (so _ (List.mem_of_getElem? hy1)) sz c0 b0 (by omega), _, _, rfl, rfl, ?_⟩
        have qq := kc _ s3
        rw [getD_of hx1, getD_of hy1] at qq
        exact qq
      · intro H2 s2 e2
        refine ⟨D, _, rfl, .inl ⟨SqL.of e2, fun l hl' => ?_⟩⟩
        have s3 := same_new (o := .tup ((List.range (r.map V.int).length).map fun i => V.int (r.getD i 0 * d - o.getD i 0 * z))) hl'
        have ez : (List.range (r.map V.int).length).map (fun i => V.int (r.getD i 0 * d - o.getD i 0 * z)) = (List.zipWith (fun x m => x * d - m * z) r o).map V.int := by
          refine List.ext_getElem? fun j => ?_
          rw [List.getElem?_map, List.getElem?_map, List.getElem?_zipWith]
          by_cases hj : j < r.length
          · rw [List.getElem?_range (by rw [List.length_map]; exact hj), List.getElem?_eq_getElem hj, List.getElem?_eq_getElem (show j < o.length by omega)]
            show some (V.int (r.getD j 0 * d - o.getD j 0 * z)) = some (V.int (r[j] * d - o[j] * z))
            rw [getD_of (List.getElem?_eq_getElem hj), getD_of (List.getElem?_eq_getElem (show j < o.length by omega))]
          · rw [List.getElem?_eq_none (by rw [List.length_range, List.length_map]; omega), List.getElem?_eq_none (show r.length ≤ j by omega)]
            rfl
        have cs := cross_small sr so sd sz
        refine ⟨l, List.zipWith (fun x m => x * d - m * z) r o, rfl, ?_, ?_, ?_, fun t H4 s4 e4 => k t H4 (((s1.trans s2).trans s3).trans s4) ?_⟩
        · show upd _ l _ l = _
          rw [upd_same, ez]
        · rw [List.length_zipWith]
          omega
        · exact fun x hx => Nat.lt_of_lt_of_le (cs x hx) (Nat.pow_le_pow_right (by decide) bc)
        · unfold wo
          rw [hn]
          show TupAt H4 t (if r.getD n 0 = 0 then r else _)
          rw [if_neg (by rw [getD_of hz]; exact z0), getD_of hz, getD_of hd]
          exact e4
/-! reduced_by -/
def woAll (rs : List Row) (r : Row) : Row := rs.foldl wo r
def RowsIn (H : Hp) (xs : List V) (rs : List Row) : Prop := Paired (fun v r => ∃ p, v = .ref p ∧ TupAt H p r) xs rs
theorem RowsIn.same {H H' : Hp} {xs : List V} {rs : List Row} (h : RowsIn H xs rs) (s : TSame H H') : RowsIn H' xs rs := Paired.mapP h fun _ _ ⟨p, e, q⟩ => ⟨p, e, s _ _ q⟩
theorem Paired.at {α β : Type} {F : α → β → Prop} {xs : List α} {ys : List β} (hp : Paired F xs ys) : ∀ {i : Nat} {x : α}, xs[i]? = some x → ∃ y, ys[i]? = some y ∧ F x y := by
  induction hp with
  | nil => intro i x z; simp at z
  | cons r _ ih =>
    intro i x z
    cases i with
    | zero => simp at z; subst z; exact ⟨_, rfl, r⟩
    | succ j => simp at z ⊢; exact ih z
theorem len_prim (r : Row) : (prim r).length = r.length := by
  unfold prim
  split
  · rfl
  · exact List.length_map ..
theorem abs_div_le (x : Int) (g : Nat) : (x / (g : Int)).natAbs ≤ x.natAbs := by
  rcases Nat.eq_zero_or_pos g with z | z
  · rw [z]
    simp
  · rcases Int.le_total 0 x with h | h
    · have h1 : 0 ≤ x / (g : Int) := Int.ediv_nonneg h (by omega)
      have h2 : x / (g : Int) ≤ x := Int.ediv_le_self _ h
      omega
    · have h1 : x / (g : Int) ≤ 0 := by
        have := Int.ediv_le_ediv (a := x) (b := 0) (c := (g : Int)) (by omega) h
        simpa using this
      have h2 : x ≤ x / (g : Int) := by
        rw [Int.le_ediv_iff_mul_le (by omega)]
        have : x * (g : Int) ≤ x * 1 := Int.mul_le_mul_of_nonpos_left h (by omega)
        simpa using this
      omega
theorem sgn_abs (r : Row) (x : Int) : (signR r * x).natAbs = x.natAbs := by
  unfold signR
  split
  · split <;> simp
  · simp
theorem small_prim {r : Row} {B : Nat} (h : Small r B) : Small (prim r) B := by
  unfold prim
  split
  · exact h
  · intro y hy
    obtain ⟨x, hx, rfl⟩ := List.mem_map.mp hy
    refine Nat.lt_of_le_of_lt (abs_div_le _ _) ?_
    rw [sgn_abs]
    exact h x hx
theorem len_wo {r o : Row} (h : r.length = o.length) : (wo r o).length = r.length := by
  unfold wo
  split
  · rfl
  · split
    · rfl
    · rw [len_prim, List.length_zipWith]
      omega
theorem small_mono {r : Row} {B C : Nat} (h : Small r B) (hc : B ≤ C) : Small r C := fun x hx => Nat.lt_of_lt_of_le (h x hx) (Nat.pow_le_pow_right (by decide) hc)
theorem getD_small {r : Row} {B : Nat} (h : Small r B) (i : Nat) : (r.getD i 0).natAbs < 2 ^ B := by
  rw [List.getD_eq_getElem?_getD]
  cases e : r[i]? with
  | none => exact Nat.two_pow_pos B
  | some x => exact h x (List.mem_of_getElem? e)
theorem small_wo {r o : Row} {B C : Nat} (hr : Small r B) (ho : Small o C) : Small (wo r o) (B + C + 1) := by
  unfold wo
  split
  · exact small_mono hr (by omega)
  · split
    · exact small_mono hr (by omega)
    · exact small_prim (cross_small hr ho (getD_small ho _) (getD_small hr _))
theorem woAll_inv {rs : List Row} {C n : Nat} : ∀ {r : Row} {B : Nat}, (∀ o ∈ rs, o.length = n ∧ Small o C) → r.length = n → Small r B → (woAll rs r).length = n ∧ Small (woAll rs r) (B + rs.length * (C + 1)) := by
  induction rs with
  | nil => intro r B _ hr hs; exact ⟨hr, by simpa [woAll] using hs⟩
  | cons o rs ih =>
    intro r B h hr hs
    obtain ⟨h1, h2⟩ := h o (List.mem_cons_self ..)
    have q := ih (r := wo r o) (B := B + C + 1) (fun x hx => h x (List.mem_cons_of_mem _ hx)) ((len_wo (hr.trans h1.symm)).trans hr) (small_wo hs h2)
    refine ⟨q.1, small_mono q.2 ?_⟩
    rw [List.length_cons, Nat.add_mul]
    omega
def spRB (K : PySem.W.Frag) : Sp := fun vs H Q _ => ∃ (L p : Addr) (xs : List V) (rs : List Row) (r : Row) (B C : Nat), vs = [.ref L, .ref p] ∧ H L = some (.lst xs) ∧ RowsIn H xs rs ∧ TupAt H p r ∧ (∀ o ∈ rs, o.length = r.length ∧ Small o C ∧ leadN o ≠ none) ∧ r.length ≤ 100 ∧ Small r B ∧ 0 < B ∧ 0 < C ∧ B + rs.length * (C + 1) ≤ 9000 ∧
  ∀ (t : Addr) (H' : Hp), Same H H' → TupAt H' t (prim (woAll rs r)) → Q (.ref t) H'
theorem ok_RB {f : Addr} {fd : FuncData} (F : Fun K "reduced_by" "reduced_by" sRB f fd) (T : TxRow mg) (GW : Has P w K mg base CX0 3 "without" PWo spWo) (GP : Has P w K mg base CX0 2 "primitive" PPrim spPrim) : FnOk P w K mg base CX0 4 f fd PRB (spRB K) := by
  refine F.ok scRB (fun vs H Q E h => ?_) (fun cdv A outer s H vs Q E hr h => ?_)
  · obtain ⟨L, p, xs, rs, r, B, C, rfl, _⟩ := h
    rfl
  · obtain ⟨L, p, xs, rs, r, B, C, rfl, hL, hx, hp, ho, hl, sr, b0, c0, bc, k⟩ := h
    have hr2 := hr.mono (j := 2) (by decide)
    refine ⟨_, (pss_cons (ps_for PassesOwn.never rfl (pi_list (pv 0)) (pg_name (i := 2) scRB.nd rfl (Or.inl rfl))
  (pss_one (ps_set (i := 1) scRB.nd rfl (Or.inl rfl) (pe_callH GW hr rfl pass0 (pa_cons (pv 1) (pa_cons (pv 2) pa_nil))))))
  (pss_one (ps_ret (pe_callH GP hr2 rfl pass0 (pa_cons (pv 1) pa_nil))))), ?_⟩
    have lx : xs.length = rs.length := Paired.length hx
    have inv : ∀ i, i ≤ rs.length → (woAll (rs.take i) r).length = r.length ∧ Small (woAll (rs.take i) r) (B + i * (C + 1)) := fun i hi => by
      have q := woAll_inv (rs := rs.take i) (C := C) (n := r.length) (fun o h => ⟨(ho o (List.mem_of_mem_take h)).1, (ho o (List.mem_of_mem_take h)).2.1⟩) rfl sr
      rw [List.length_take, Nat.min_eq_left hi] at q
      exact q
    refine ⟨_, rfl, L, rfl, ⟨_, SqL.of hL⟩, for_list (K := K) (a := L) (xs := xs) (fun i σ H' => Same H H' ∧ ∃ (t : Addr) (x : Option V), σ = [some (.ref L), some (.ref t), x] ∧ TupAt H' t (woAll (rs.take i) r)) ⟨Same.refl _, p, none, rfl, hp⟩ (fun i σ H' _ h' => SqL.of (h'.1 _ _ hL)) ?_ ?_⟩
    · rintro i v σ H1 hv ⟨s1, t, x, rfl, ht⟩
      obtain ⟨o, hoi, q, rfl, hq⟩ := Paired.at hx hv
      have hi : i < rs.length := (List.getElem?_eq_some_iff.mp hoi).1
      obtain ⟨o1, o2, o3⟩ := ho o (List.mem_of_getElem? hoi)
      obtain ⟨i1, i2⟩ := inv i (Nat.le_of_lt hi)
      have bi : i * (C + 1) + (C + 1) ≤ rs.length * (C + 1) := by
        rw [← Nat.succ_mul]
        exact Nat.mul_le_mul_right _ hi
      refine ⟨_, rfl, _, rfl, t, q, _, o, B + i * (C + 1), C, rfl, ht, s1 _ _ hq, i1.trans o1.symm, by omega, i2, o2, by omega, c0, by omega, o3, fun t' H2 s2 e2 => ⟨s1.trans s2, t', _, rfl, ?_⟩⟩
      rw [take_snoc hoi]
      unfold woAll at e2 ⊢
      rw [List.foldl_append]
      exact e2
    · rintro σ H1 ⟨s1, t, x, rfl, ht⟩
      rw [lx, List.take_length] at ht
      obtain ⟨i1, i2⟩ := inv rs.length (Nat.le_refl _)
      rw [List.take_length] at i1 i2
      exact ⟨_, rfl, t, _, rfl, ht, by omega, small_mono i2 bc, fun t' H2 s2 e2 => k t' H2 (s1.trans s2) e2⟩
/-! added -/
def leadD (r : Row) : Nat := (leadN r).getD 0
def restOf (rs : List Row) (r : Row) : Row := prim (woAll rs r)
/-- what added gives -/
def Adds (rs : List Row) (r : Row) (out : List Row) : Prop := (leadN (restOf rs r) = none ∧ out = rs) ∨
  (leadN (restOf rs r) ≠ none ∧ out.Perm ((rs.map (fun o => prim (wo o (restOf rs r)))) ++ [prim (restOf rs r)]) ∧ out.Pairwise (fun a b => leadD a ≤ leadD b))
theorem prim_zero {r : Row} (i : Nat) : (prim r).getD i 0 = 0 ↔ r.getD i 0 = 0 := by
  unfold prim
  split
  · exact Iff.rfl
  · rename_i g0
    rw [List.getD_eq_getElem?_getD, List.getD_eq_getElem?_getD, List.getElem?_map]
    cases e : r[i]? with
    | none => simp
    | some x =>
      simp only [Option.map_some, Option.getD_some]
      have d := gcd_dvd (List.mem_of_getElem? e)
      obtain ⟨c, hc⟩ := d
      have gz : ((gcdR r : Nat) : Int) ≠ 0 := by omega
      constructor
      · intro h
        rw [hc, Int.mul_left_comm, Int.mul_ediv_cancel_left _ gz] at h
        rcases Int.mul_eq_zero.mp h with q | q
        · exfalso
          unfold signR at q
          split at q
          · split at q <;> omega
          · omega
        · rw [hc, q, Int.mul_zero]
      · intro h
        rw [h]
        simp
theorem lead_of_zero {r o : Row} (hl : r.length = o.length) (h : ∀ i, r.getD i 0 = 0 ↔ o.getD i 0 = 0) : leadN r = leadN o := by
  unfold leadN
  have : ∀ (r o : Row), r.length = o.length → (∀ i, r.getD i 0 = 0 ↔ o.getD i 0 = 0) → r.findIdx? (· ≠ 0) = o.findIdx? (· ≠ 0) := by
    intro r
    induction r with
    | nil => intro o hl _; cases o with | nil => rfl | cons _ _ => cases hl
    | cons x r ih =>
      intro o hl h
      cases o with
      | nil => cases hl
      | cons y o =>
        have h0 := h 0
        simp only [List.getD_cons_zero] at h0
        rw [List.findIdx?_cons, List.findIdx?_cons, ih o (by simpa using hl) fun i => by simpa using h (i + 1)]
        have : decide (x ≠ 0) = decide (y ≠ 0) := by
          by_cases hx : x = 0
          · simp [hx, h0.mp hx]
          · have hy : ¬ y = 0 := fun q => hx (h0.mpr q)
            simp [hx, hy]
        rw [this]
  exact this r o hl h
theorem lead_prim (r : Row) : leadN (prim r) = leadN r := lead_of_zero (len_prim r) prim_zero
theorem rows_of {H : Hp} : ∀ {ys : List V} {fs : List Row}, ys.length = fs.length → (∀ i y, ys[i]? = some y → ∃ p, y = .ref p ∧ TupAt H p (fs.getD i [])) → RowsIn H ys fs
  | [], [], _, _ => .nil
  | [], _ :: _, h, _ => by cases h
  | _ :: _, [], h, _ => by cases h
  | y :: ys, f :: fs, h, k => .cons (k 0 y rfl) (rows_of (by simpa using h) fun i z hz => by simpa using k (i + 1) z (by simpa using hz))
theorem rows_at {H : Hp} {xs : List V} {rs : List Row} (h : RowsIn H xs rs) {i : Nat} {x : V} (hx : xs[i]? = some x) : ∃ p, x = .ref p ∧ TupAt H p (rs.getD i []) ∧ i < rs.length := by
  obtain ⟨r, hr, p, e, q⟩ := Paired.at h hx
  exact ⟨p, e, by rw [List.getD_eq_getElem?_getD, hr]; exact q, (List.getElem?_eq_some_iff.mp hr).1⟩
theorem getD_mem {rs : List Row} {i : Nat} (h : i < rs.length) : rs.getD i [] ∈ rs := by
  rw [List.getD_eq_getElem?_getD, List.getElem?_eq_getElem h]
  exact List.getElem_mem h
theorem RowsIn.snoc {H : Hp} : ∀ {xs : List V} {rs : List Row} {v : V} {r : Row}, RowsIn H xs rs → (∃ p, v = .ref p ∧ TupAt H p r) → RowsIn H (xs ++ [v]) (rs ++ [r])
  | _, _, _, _, .nil, h => .cons h .nil
  | _, _, _, _, .cons a t, h => .cons a (RowsIn.snoc t h)
theorem keyed {H : Hp} : ∀ {xs : List V} {rs : List Row}, RowsIn H xs rs → Paired (fun (r : Row) (a : Int × V) => a.1 = ((leadD r : Nat) : Int) ∧ ∃ p, a.2 = .ref p ∧ TupAt H p r) rs ((rs.map fun r => ((leadD r : Nat) : Int)).zip xs)
  | _, _, .nil => .nil
  | _, _, .cons a t => .cons ⟨rfl, a⟩ (keyed t)
theorem unkey {H : Hp} : ∀ {out : List Row} {ps : List (Int × V)}, Paired (fun (r : Row) (a : Int × V) => a.1 = ((leadD r : Nat) : Int) ∧ ∃ p, a.2 = .ref p ∧ TupAt H p r) out ps → RowsIn H (ps.map Prod.snd) out ∧ ps.map Prod.fst = out.map fun r => ((leadD r : Nat) : Int)
  | _, _, .nil => ⟨.nil, rfl⟩
  | _, _, .cons a t => ⟨.cons a.2 (unkey t).1, by rw [List.map_cons, List.map_cons, (unkey t).2, a.1]⟩
def spAdded (K : PySem.W.Frag) : Sp := fun vs H Q _ => ∃ (L p : Addr) (xs : List V) (rs : List Row) (r : Row) (B C : Nat), vs = [.ref L, .ref p] ∧ H L = some (.lst xs) ∧ RowsIn H xs rs ∧ TupAt H p r ∧ (∀ o ∈ rs, o.length = r.length ∧ Small o C ∧ leadN o ≠ none) ∧ r.length ≤ 100 ∧ rs.length < 60 ∧ Small r B ∧ 0 < B ∧ 0 < C ∧ B + (rs.length + 1) * (C + 1) ≤ 9000 ∧
  (leadN (restOf rs r) ≠ none → ∀ o ∈ rs, leadN (wo o (restOf rs r)) ≠ none) ∧
  ∀ (L' : Addr) (xs' : List V) (out : List Row) (H' : Hp), Same H H' → (L' = L ∨ H L' = none) → H' L' = some (.lst xs') → RowsIn H' xs' out → Adds rs r out → Q (.ref L') H'
theorem ok_Added {f : Addr} {fd : FuncData} (F : Fun K "added" "added" sAdded f fd) (T : TxRow mg) (GW : Has P w K mg base CX0 3 "without" PWo spWo) (GP : Has P w K mg base CX0 2 "primitive" PPrim spPrim) (GB : Has P w K mg base CX0 4 "reduced_by" PRB (spRB K))
    (GL : Has P w K mg base CX0 1 "lead" PLead spLead) : FnOk P w K mg base CX0 5 f fd PAdded (spAdded K) := by
  refine F.ok scAdded (fun vs H Q E h => ?_) (fun cdv A outer s H vs Q E hr h => ?_)
  · obtain ⟨L, p, xs, rs, r, B, C, rfl, _⟩ := h
    rfl
  · obtain ⟨L, p, xs, rs, r, B, C, rfl, hL, hx, hp, ho, hl, hl60, sr, b0, c0, bc, hw, k⟩ := h
    have hr3 := hr.mono (j := 3) (by decide)
    have hr2 := hr.mono (j := 2) (by decide)
    have hr1 := hr.mono (j := 1) (by decide)
    obtain ⟨fl, fdl, FL, ml, kl, bl⟩ := id GL.ex
    refine ⟨_, (pss_cons (ps_set (i := 2) scAdded.nd rfl (Or.inr rfl) (pe_callH GB hr rfl pass0 (pa_cons (pv 0) (pa_cons (pv 1) pa_nil))))
  (pss_cons (ps_if (pt_cmpR op_isN (pe_callH GL hr1 rfl pass0 (pa_cons (pv 2) pa_nil)) pe_non (nomark _))
  (pss_one (ps_ret (pv 0)))
  pss_nil)
  (pss_cons (ps_set (i := 3) scAdded.nd rfl (Or.inl rfl) (pe_lst (StX.pa_star (pe_lc (own := [("other", 4)]) (g := gName 4) (tt := tYes) rfl scAdded.nd (pi_list (pv 0)) (blkOk_by (own := [("other", 4)]) (N := NAdded) (sc := (defScope sAdded)) (by decide +kernel)) (fun _ _ _ _ _ => (pg_name (i := 4) scAdded.nd rfl (Or.inl rfl))) (fun _ _ _ _ _ => pts_nil) (fun _ _ _ _ _ => (pe_callH GW hr3 rfl pass0 (pa_cons (pv 4) (pa_cons (pv 2) pa_nil))))) (pa_cons (pv 2) pa_nil))))
  (pss_one (ps_ret (pe_callBK (cr_sortK FL bl hr3) (by rfl) T.n_sorted bb_sorted (pa_cons (pe_lc (own := [("other", 4)]) (g := gName 4) (tt := tYes) rfl scAdded.nd (pi_list (pv 3)) (blkOk_by (own := [("other", 4)]) (N := NAdded) (sc := (defScope sAdded)) (by decide +kernel)) (fun _ _ _ _ _ => (pg_name (i := 4) scAdded.nd rfl (Or.inl rfl))) (fun _ _ _ _ _ => pts_nil) (fun _ _ _ _ _ => (pe_callH GP hr2 rfl pass0 (pa_cons (pv 4) pa_nil)))) pa_nil) (pk_cons (pe_glob (v := .ref fl) rfl ml rfl) pk_nil))))))), ?_⟩
    have lx : xs.length = rs.length := Paired.length hx
    obtain ⟨w1, w2⟩ := woAll_inv (rs := rs) (C := C) (n := r.length) (fun o h => ⟨(ho o h).1, (ho o h).2.1⟩) rfl sr
    obtain ⟨rest, er⟩ : ∃ rest, rest = restOf rs r := ⟨_, rfl⟩
    have r1 : rest.length = r.length := by rw [er]; exact (len_prim _).trans w1
    have r2 : Small rest (B + rs.length * (C + 1)) := by rw [er]; exact small_prim w2
    have rm : (rs.length + 1) * (C + 1) = rs.length * (C + 1) + (C + 1) := Nat.succ_mul ..
    refine ⟨_, rfl, _, rfl, L, p, xs, rs, r, B, C, rfl, hL, hx, hp, ho, hl, sr, b0, c0, by omega, fun t H1 s1 ht => ?_⟩
    have ht : TupAt H1 t rest := by rw [er]; exact ht
    refine ⟨_, rfl, t, rest, rfl, ht, fun H2 s2 => ?_⟩
    have s12 := s1.trans s2
    have ht2 := s2 _ _ ht
    have hL2 := s12 _ _ hL
    have hx2 := hx.same (TSame.of s12)
    cases el : leadN rest with
    | none => exact ⟨rfl, _, rfl, _, rfl, k L xs rs H2 s12 (.inl rfl) hL2 hx2 (.inl ⟨by rw [← er]; exact el, rfl⟩)⟩
    | some n =>
      have lne : leadN rest ≠ none := by rw [el]; exact fun q => by cases q
      have hwo : ∀ o ∈ rs, leadN (wo o rest) ≠ none := by rw [er]; exact hw (by rw [← er]; exact lne)
      refine ⟨rfl, _, rfl, ?_⟩
      refine ⟨_, rfl, L, rfl, ⟨_, SqL.of hL2⟩, fun D hD => ?_⟩
      refine lc_rel (walk_list (K := K) (a := L) (xs := xs)) (fun i y H' => ∃ q, y = .ref q ∧ TupAt H' q (wo (rs.getD i []) rest)) (fun i y Ha Hb ts ⟨q, e, z⟩ => ⟨q, e, ts _ _ z⟩) hD (by omega) (fun H' s' => SqL.of (s' _ _ hL2)) ?_ ?_
      · rintro i x H3 H4 kk hi s3 ⟨rfl, hxi⟩ kc
        obtain ⟨q, rfl, hq, hil⟩ := rows_at hx2 hxi
        obtain ⟨o1, o2, o3⟩ := ho _ (getD_mem hil)
        refine ⟨rfl, _, rfl, _, rfl, q, t, _, rest, C, B + rs.length * (C + 1), rfl, s3 _ _ hq, s3 _ _ ht2, by rw [o1, r1], by omega, o2, r2, c0, by omega, by omega, lne, fun t' H5 s5 e5 => kc _ H5 s5 ⟨t', rfl, e5⟩⟩
      · intro ys H3 s3 eD ly py
        have R3 : RowsIn H3 ys (rs.map fun o => wo o rest) := rows_of (by rw [List.length_map]; omega) fun i y hy => by
          obtain ⟨q, e, z⟩ := py i y hy
          have hi : i < rs.length := by
            have := (List.getElem?_eq_some_iff.mp hy).1
            omega
          refine ⟨q, e, ?_⟩
          rw [List.getD_eq_getElem?_getD, List.getElem?_map, List.getElem?_eq_getElem hi]
          rw [List.getD_eq_getElem?_getD, List.getElem?_eq_getElem hi] at z
          exact z
        have ht3 := s3 _ _ ht2
        refine ⟨D, _, rfl, .inr (SqL.of eD), _, rfl, Nat.le_of_lt (small1000 (by rw [List.length_append]; show ys.length + 1 ≤ 1000; omega)), fun G hG => ?_⟩
        have s4 := same_new (o := .lst (ys ++ [.ref t])) hG
        have R4 : RowsIn (upd H3 G (.lst (ys ++ [.ref t]))) (ys ++ [.ref t]) ((rs.map fun o => wo o rest) ++ [rest]) := RowsIn.snoc (R3.same (TSame.of s4)) ⟨t, rfl, s4 _ _ ht3⟩
        obtain ⟨fs, efs⟩ : ∃ fs, fs = (rs.map fun o => wo o rest) ++ [rest] := ⟨_, rfl⟩
        rw [← efs] at R4
        have lfs : fs.length = rs.length + 1 := by rw [efs, List.length_append, List.length_map]; rfl
        have lys : (ys ++ [V.ref t]).length = fs.length := Paired.length R4
        have bfs : ∀ o ∈ fs, o.length ≤ 100 ∧ Small o 9000 ∧ leadN o ≠ none := fun o h => by
          rw [efs] at h
          rcases List.mem_append.mp h with q | q
          · obtain ⟨o', h', rfl⟩ := List.mem_map.mp q
            obtain ⟨o1, o2, o3⟩ := ho o' h'
            exact ⟨by rw [len_wo (by rw [o1, r1])]; omega, small_mono (small_wo o2 r2) (by omega), hwo o' h'⟩
          · rw [List.mem_singleton.mp q]
            exact ⟨by omega, small_mono r2 (by omega), lne⟩
        obtain ⟨H5, eH5⟩ : ∃ H5, H5 = upd H3 G (.lst (ys ++ [.ref t])) := ⟨_, rfl⟩
        have eG : H5 G = some (.lst (ys ++ [.ref t])) := by rw [eH5]; exact upd_same
        rw [← eH5] at R4 s4
        rw [← eH5]
        refine ⟨_, rfl, G, rfl, ⟨_, SqL.of eG⟩, fun D2 hD2 => ?_⟩
        refine lc_rel (walk_list (K := K) (a := G) (xs := ys ++ [.ref t])) (fun i y H' => ∃ q, y = .ref q ∧ TupAt H' q (prim (fs.getD i []))) (fun i y Ha Hb ts ⟨q, e, z⟩ => ⟨q, e, ts _ _ z⟩) hD2 (by omega) (fun H' s' => SqL.of (s' _ _ eG)) ?_ ?_
        · rintro i x H6 H7 kk hi s6 ⟨rfl, hxi⟩ kc
          obtain ⟨q, rfl, hq, hil⟩ := rows_at R4 hxi
          obtain ⟨o1, o2, o3⟩ := bfs _ (getD_mem hil)
          exact ⟨rfl, _, rfl, q, _, rfl, s6 _ _ hq, o1, o2, fun t' H8 s8 e8 => kc _ H8 s8 ⟨t', rfl, e8⟩⟩
        · intro zs H6 s6 eD2 lz pz
          have R6 : RowsIn H6 zs (fs.map prim) := rows_of (by rw [List.length_map]; omega) fun i y hy => by
            obtain ⟨q, e, z⟩ := pz i y hy
            have hi : i < fs.length := by
              have := (List.getElem?_eq_some_iff.mp hy).1
              omega
            refine ⟨q, e, ?_⟩
            rw [List.getD_eq_getElem?_getD, List.getElem?_map, List.getElem?_eq_getElem hi]
            rw [List.getD_eq_getElem?_getD, List.getElem?_eq_getElem hi] at z
            exact z
          have lz' : zs.length = (fs.map prim).length := Paired.length R6
          refine ⟨D2, zs, (fs.map prim).map fun r => ((leadD r : Nat) : Int), fun _ H' => Same H6 H', rfl, rfl, SqL.of eD2, by rw [List.length_map]; exact lz'.symm, by rw [lz', List.length_map]; omega, Same.refl _, ?_, ?_⟩
          · intro i x ky H' hx' hk s'
            obtain ⟨q, rfl, hq, hil⟩ := rows_at R6 hx'
            rw [List.getElem?_map, List.getElem?_eq_getElem hil] at hk
            rw [List.getD_eq_getElem?_getD, List.getElem?_eq_getElem hil] at hq
            have hk : some (((leadD ((fs.map prim)[i]) : Nat) : Int)) = some ky := hk
            have hm : (fs.map prim)[i] ∈ fs.map prim := List.getElem_mem hil
            refine ⟨q, _, rfl, s' _ _ hq, fun H7 s7 => ⟨?_, s'.trans s7⟩⟩
            obtain ⟨o, hom, eo⟩ := List.mem_map.mp hm
            show optV (leadN ((fs.map prim)[i])) = _
            rw [← Option.some.inj hk]
            unfold leadD
            cases q : leadN ((fs.map prim)[i]) with
            | none =>
              rw [← eo, lead_prim] at q
              exact absurd q (bfs o hom).2.2
            | some n => rfl
          · intro ps P' H7 s7 hperm hpw hP'
            obtain ⟨out, o1, o2⟩ := paired_perm hperm.symm (keyed (R6.same (TSame.of s7)))
            obtain ⟨u1, u2⟩ := unkey o2
            have s8 := same_new (o := .lst (ps.map Prod.snd)) hP'
            refine k P' _ out _ ((((s12.trans s3).trans s4).trans (s6.trans s7)).trans s8) (.inr ((((s12.trans s3).trans s4).trans (s6.trans s7)).free hP')) upd_same (u1.same (TSame.of s8)) (.inr ⟨by rw [← er]; exact lne, ?_, ?_⟩)
            · rw [← er]
              rw [efs, List.map_append, List.map_map] at o1
              exact o1
            · have q : (ps.map Prod.fst).Pairwise (· ≤ ·) := by rw [List.pairwise_map]; exact hpw
              rw [u2, List.pairwise_map] at q
              exact q.imp fun h => by omega
/-! is_row, where it is one -/
def spRow : Sp := fun vs H Q _ => ∃ (p : Addr) (r : Row), vs = [.ref p, .int (r.length : Nat)] ∧ TupAt H p r ∧ r.length ≤ 1000 ∧ ∀ H', Same H H' → Q (.bl true) H'
theorem ok_IsRow {f : Addr} {fd : FuncData} (F : Fun K "is_row" "is_row" sIsRow f fd) (T : TxRow mg) (GI : Has P w K mg base CX0 1 "is_integer" PIsInt (spIsInt K)) : FnOk P w K mg base CX0 2 f fd PIsRow spRow := by
  refine F.ok scIsRow (fun vs H Q E h => ?_) (fun cdv A outer s H vs Q E hr h => ?_)
  · obtain ⟨p, r, rfl, _⟩ := h
    rfl
  · obtain ⟨p, r, rfl, hp, hl, k⟩ := h
    refine ⟨_, (pss_one (ps_ret (pe_and (pe_callB call_isi (by rfl) T.n_isinstance bb_isinstance (pa_cons (pv 0) (pa_cons (pe_bltn (v := .ty "tuple") (by rfl) T.n_tuple bb_tuple rfl) pa_nil))) (pe_and (pe_cmpR op_eq (pe_callB call_len_seq (by rfl) T.n_len bb_len (pa_cons (pv 0) pa_nil)) (pv 1) (nomark _)) (pe_one (pe_callB (cr_all rfl) (by rfl) T.n_all bb_all (pa_cons (pe_lc (own := [("one", 2)]) (g := gName 2) (tt := tYes) rfl scIsRow.nd (pi_tup (pv 0)) (blkOk_by (own := [("one", 2)]) (N := NIsRow) (sc := (defScope sIsRow)) (by decide +kernel)) (fun _ _ _ _ _ => (pg_name (i := 2) scIsRow.nd rfl (Or.inl rfl))) (fun _ _ _ _ _ => pts_nil) (fun _ _ _ _ _ => (pe_callH GI hr rfl pass0 (pa_cons (pv 2) pa_nil)))) pa_nil))))))), ?_⟩
    refine ⟨_, rfl, _, _, _, _, _, rfl, .ty _, .base (.tup hp), kit_ty (r := true) (by decide +kernel), _, rfl, ?_⟩
    refine ⟨_, rfl, p, _, rfl, .inr (SqT.of hp), _, rfl, rfl, ?_⟩
    rw [List.length_map]
    refine ⟨true, by rw [decide_eq_true rfl], ?_⟩
    refine ⟨_, rfl, p, rfl, ⟨_, SqT.of hp⟩, fun D hD => ?_⟩
    refine lc_map (walk_tup (K := K) (a := p) (xs := r.map V.int)) (fun _ => V.bl true) hD (by rw [List.length_map]; exact hl) (fun H' s' => SqT.of (s' _ _ hp)) ?_ ?_
    · rintro i x H3 H4 kk hi s3 ⟨rfl, hxi⟩ kc
      obtain ⟨z, hz, rfl⟩ := int_at hxi
      exact ⟨rfl, _, rfl, _, rfl, .inl ⟨z, rfl, kc _ (Same.refl _)⟩⟩
    · intro H3 s3 e3
      refine ⟨D, (List.range (r.map V.int).length).map (fun _ => true), rfl, SqL.of (by rw [e3, List.map_map]; rfl), ?_⟩
      have ea : ((List.range (r.map V.int).length).map (fun _ => true)).all id = true := by
        rw [List.all_eq_true]
        intro b hb
        obtain ⟨_, _, rfl⟩ := List.mem_map.mp hb
        rfl
      rw [ea]
      exact k _ s3
end

/-! ### the plain law of rows: spans over the rationals -/
def ev (r : Row) (i : Nat) : Int := r.getD i 0
abbrev Vec := Nat → Int
inductive InSp (S : Row → Prop) : Vec → Prop
  | zero : InSp S (fun _ => 0)
  | add {u : Vec} (c : Int) {r : Row} : InSp S u → S r → InSp S (fun i => u i + c * ev r i)
theorem InSp.cg {S : Row → Prop} {u v : Vec} (h : InSp S u) (e : ∀ i, u i = v i) : InSp S v := by
  have : u = v := funext e
  rw [← this]
  exact h
theorem InSp.plus {S : Row → Prop} {u v : Vec} (h : InSp S u) (k : InSp S v) : InSp S (fun i => u i + v i) := by
  induction k with
  | zero => exact h.cg fun i => by simp
  | add c _ m ih => exact (InSp.add c ih m).cg fun i => by rw [Int.add_assoc]
theorem InSp.smul {S : Row → Prop} {u : Vec} (a : Int) (h : InSp S u) : InSp S (fun i => a * u i) := by
  induction h with
  | zero => exact InSp.zero.cg fun i => by simp
  | add c _ m ih => exact (InSp.add (a * c) ih m).cg fun i => by rw [Int.mul_add, Int.mul_assoc]
def QS (S : Row → Prop) (v : Vec) : Prop := ∃ m : Int, m ≠ 0 ∧ InSp S (fun i => m * v i)
theorem QS.cg {S : Row → Prop} {u v : Vec} (h : QS S u) (e : ∀ i, u i = v i) : QS S v := by
  have : u = v := funext e
  rw [← this]
  exact h
theorem QS.mem {S : Row → Prop} {r : Row} (h : S r) : QS S (ev r) := ⟨1, by decide, (InSp.add 1 .zero h).cg fun i => by simp⟩
theorem QS.plus {S : Row → Prop} {u v : Vec} (h : QS S u) (k : QS S v) : QS S (fun i => u i + v i) := by
  obtain ⟨m, m0, h⟩ := h
  obtain ⟨n, n0, k⟩ := k
  refine ⟨n * m, Int.mul_ne_zero n0 m0, ((h.smul n).plus (k.smul m)).cg fun i => ?_⟩
  rw [Int.mul_add, Int.mul_assoc, Int.mul_comm n m, Int.mul_assoc]
theorem QS.smul {S : Row → Prop} {u : Vec} (a : Int) (h : QS S u) : QS S (fun i => a * u i) := by
  obtain ⟨m, m0, h⟩ := h
  exact ⟨m, m0, (h.smul a).cg fun i => by rw [← Int.mul_assoc, ← Int.mul_assoc, Int.mul_comm a m]⟩
theorem QS.div {S : Row → Prop} {u : Vec} {a : Int} (ha : a ≠ 0) (h : QS S (fun i => a * u i)) : QS S u := by
  obtain ⟨m, m0, h⟩ := h
  exact ⟨m * a, Int.mul_ne_zero m0 ha, h.cg fun i => by rw [Int.mul_assoc]⟩
theorem QS.zero {S : Row → Prop} : QS S (fun _ => 0) := ⟨1, by decide, InSp.zero.cg fun i => by simp⟩
theorem InSp.trans {S T : Row → Prop} (h : ∀ r, S r → QS T (ev r)) {u : Vec} (k : InSp S u) : QS T u := by
  induction k with
  | zero => exact QS.zero
  | add c _ m ih => exact ih.plus ((h _ m).smul c)
theorem QS.trans {S T : Row → Prop} (h : ∀ r, S r → QS T (ev r)) {u : Vec} (k : QS S u) : QS T u := by
  obtain ⟨m, m0, k⟩ := k
  exact QS.div m0 (k.trans h)
/-- a combination: a * x = c * y - d * z -/
theorem QS.lin {S : Row → Prop} {x y z : Vec} {a c d : Int} (a0 : a ≠ 0) (e : ∀ i, a * x i = c * y i - d * z i) (hy : QS S y) (hz : QS S z) : QS S x :=
  QS.div a0 (((hy.smul c).plus (hz.smul (-d))).cg fun i => by rw [e i, Int.neg_mul]; omega)
/-! zeros and leads -/
theorem ev_out {r : Row} {i : Nat} (h : r.length ≤ i) : ev r i = 0 := by
  unfold ev
  rw [List.getD_eq_getElem?_getD, List.getElem?_eq_none h]
  rfl
theorem lead_none {r : Row} : leadN r = none ↔ ∀ i, ev r i = 0 := by
  unfold leadN ev
  rw [List.findIdx?_eq_none_iff]
  constructor
  · intro h i
    rw [List.getD_eq_getElem?_getD]
    cases e : r[i]? with
    | none => rfl
    | some x => simpa using h x (List.mem_of_getElem? e)
  · intro h x hx
    obtain ⟨i, hi, rfl⟩ := List.mem_iff_getElem.mp hx
    have q := h i
    rw [List.getD_eq_getElem?_getD, List.getElem?_eq_getElem hi] at q
    simpa using q
theorem lead_some {r : Row} {n : Nat} : leadN r = some n ↔ ev r n ≠ 0 ∧ ∀ j, j < n → ev r j = 0 := by
  unfold leadN
  rw [List.findIdx?_eq_some_iff_getElem]
  constructor
  · rintro ⟨hn, h1, h2⟩
    refine ⟨?_, fun j hj => ?_⟩
    · unfold ev
      rw [List.getD_eq_getElem?_getD, List.getElem?_eq_getElem hn]
      simpa using h1
    · unfold ev
      rw [List.getD_eq_getElem?_getD, List.getElem?_eq_getElem (by omega)]
      simpa using h2 j hj
  · rintro ⟨h1, h2⟩
    have hn : n < r.length := by
      rcases Nat.lt_or_ge n r.length with q | q
      · exact q
      · exact absurd (ev_out q) h1
    refine ⟨hn, ?_, fun j hj => ?_⟩
    · unfold ev at h1
      rw [List.getD_eq_getElem?_getD, List.getElem?_eq_getElem hn] at h1
      simpa using h1
    · have q := h2 j hj
      unfold ev at q
      rw [List.getD_eq_getElem?_getD, List.getElem?_eq_getElem (by omega)] at q
      simpa using q
theorem leadD_of {r : Row} {n : Nat} (h : leadN r = some n) : leadD r = n := by unfold leadD; rw [h]; rfl
theorem sgn_one (r : Row) : signR r = 1 ∨ signR r = -1 := by
  unfold signR
  split
  · split
    · exact .inl rfl
    · exact .inr rfl
  · exact .inl rfl
theorem prim_lin (r : Row) : ∃ a c : Int, a ≠ 0 ∧ c ≠ 0 ∧ ∀ i, a * ev (prim r) i = c * ev r i := by
  by_cases g0 : gcdR r = 0
  · refine ⟨1, 1, by decide, by decide, fun i => ?_⟩
    unfold prim
    rw [if_pos g0]
  · refine ⟨(gcdR r : Nat), signR r, by omega, ?_, fun i => ?_⟩
    · rcases sgn_one r with q | q <;> rw [q] <;> decide
    · unfold prim ev
      rw [if_neg g0, List.getD_eq_getElem?_getD, List.getD_eq_getElem?_getD, List.getElem?_map]
      cases e : r[i]? with
      | none => simp
      | some x =>
        show ((gcdR r : Nat) : Int) * ((signR r * x) / ((gcdR r : Nat) : Int)) = signR r * x
        obtain ⟨c, hc⟩ := gcd_dvd (List.mem_of_getElem? e)
        rw [Int.mul_ediv_cancel']
        exact ⟨signR r * c, by rw [hc, Int.mul_left_comm]⟩
theorem ev_prim {r : Row} {i : Nat} : ev (prim r) i = 0 ↔ ev r i = 0 := prim_zero i
theorem prim_pos {r : Row} {n : Nat} (h : leadN r = some n) : 0 < ev (prim r) n := by
  obtain ⟨h1, h2⟩ := lead_some.mp h
  have g0 : gcdR r ≠ 0 := fun q => by
    have hn : n < r.length := by
      rcases Nat.lt_or_ge n r.length with q | q
      · exact q
      · exact absurd (ev_out q) h1
    have e : ev r n = r[n] := by unfold ev; rw [List.getD_eq_getElem?_getD, List.getElem?_eq_getElem hn]; rfl
    exact h1 (e.trans (gcd_zero q (List.getElem_mem hn)))
  have hn : n < r.length := by
    rcases Nat.lt_or_ge n r.length with q | q
    · exact q
    · exact absurd (ev_out q) h1
  have e : r[n]? = some (ev r n) := by unfold ev; rw [List.getD_eq_getElem?_getD, List.getElem?_eq_getElem hn]; rfl
  have fx : r.find? (· ≠ 0) = some (ev r n) := by
    have q : leadN r = some n := h
    unfold leadN at q
    obtain ⟨_, q1, q2⟩ := List.findIdx?_eq_some_iff_getElem.mp q
    rw [List.find?_eq_some_iff_getElem]
    refine ⟨by simpa using h1, n, hn, ?_, fun j hj => by simpa using q2 j hj⟩
    rw [List.getElem?_eq_getElem hn] at e
    exact Option.some.inj e
  have sg : 0 < signR r * ev r n := by
    unfold signR
    rw [fx]
    show 0 < (if ev r n > 0 then (1 : Int) else -1) * ev r n
    split
    · omega
    · omega
  have val : ev (prim r) n = (signR r * ev r n) / ((gcdR r : Nat) : Int) := by
    unfold prim
    rw [if_neg g0]
    show (List.map _ r).getD n 0 = _
    rw [List.getD_eq_getElem?_getD, List.getElem?_map, e]
    rfl
  rw [val]
  obtain ⟨c, hc⟩ := gcd_dvd (List.mem_of_getElem? e)
  have gp : (0 : Int) < ((gcdR r : Nat) : Int) := by omega
  rw [hc, Int.mul_left_comm, Int.mul_ediv_cancel_left _ (by omega)]
  rw [hc, Int.mul_left_comm, Int.mul_comm] at sg
  exact Int.pos_of_mul_pos_left sg gp
theorem wo_lin {r o : Row} {n : Nat} (hl : r.length = o.length) (h : leadN o = some n) : ∃ a c d : Int, a ≠ 0 ∧ c ≠ 0 ∧ (∀ i, a * ev (wo r o) i = c * ev r i - d * ev o i) ∧ ev (wo r o) n = 0 ∧ (ev r n = 0 → wo r o = r) := by
  have on : ev o n ≠ 0 := (lead_some.mp h).1
  have hw : wo r o = if r.getD n 0 = 0 then r else prim (List.zipWith (fun x m => x * o.getD n 0 - m * r.getD n 0) r o) := by
    unfold wo
    rw [h]
  by_cases z : ev r n = 0
  · have e : wo r o = r := by rw [hw]; exact if_pos z
    refine ⟨1, 1, 0, by decide, by decide, fun i => ?_, ?_, fun _ => e⟩
    · rw [e]; omega
    · rw [e]; exact z
  · have e : wo r o = prim (List.zipWith (fun x m => x * o.getD n 0 - m * r.getD n 0) r o) := by rw [hw]; exact if_neg z
    have ez : ∀ i, ev (List.zipWith (fun x m => x * o.getD n 0 - m * r.getD n 0) r o) i = ev r i * ev o n - ev o i * ev r n := fun i => by
      by_cases hi : i < r.length
      · show (List.zipWith _ r o).getD i 0 = _
        rw [List.getD_eq_getElem?_getD, List.getElem?_zipWith, List.getElem?_eq_getElem hi, List.getElem?_eq_getElem (show i < o.length by omega)]
        show r[i] * ev o n - o[i] * ev r n = _
        have e1 : ev r i = r[i] := by unfold ev; rw [List.getD_eq_getElem?_getD, List.getElem?_eq_getElem hi]; rfl
        have e2 : ev o i = o[i]'(by omega) := by unfold ev; rw [List.getD_eq_getElem?_getD, List.getElem?_eq_getElem (show i < o.length by omega)]; rfl
        rw [e1, e2]
      · rw [ev_out (by rw [List.length_zipWith]; omega), ev_out (show r.length ≤ i by omega), ev_out (show o.length ≤ i by omega)]
        simp
    obtain ⟨a, c, a0, c0, hp⟩ := prim_lin (List.zipWith (fun x m => x * o.getD n 0 - m * r.getD n 0) r o)
    refine ⟨a, c * ev o n, c * ev r n, a0, Int.mul_ne_zero c0 on, fun i => ?_, ?_, fun q => absurd q z⟩
    · rw [e, hp i, ez i, Int.mul_sub, Int.mul_assoc, Int.mul_assoc, Int.mul_comm (ev o n) (ev r i), Int.mul_comm (ev r n) (ev o i)]
    · rw [e, ev_prim, ez n, Int.mul_comm, Int.sub_self]
/-! reduced systems -/
structure RS (w : Nat) (rs : List Row) : Prop where
  len : ∀ o ∈ rs, o.length = w
  ld : ∀ o ∈ rs, ∃ n, leadN o = some n ∧ 0 < ev o n
  red : rs.Pairwise (fun a b => leadD a < leadD b ∧ ev b (leadD a) = 0 ∧ ev a (leadD b) = 0)
theorem RS.lead {w : Nat} {rs : List Row} (h : RS w rs) {o : Row} (ho : o ∈ rs) : leadN o = some (leadD o) ∧ 0 < ev o (leadD o) := by
  obtain ⟨n, h1, h2⟩ := h.ld o ho
  rw [leadD_of h1]
  exact ⟨h1, h2⟩
theorem pw_of {α : Type} {R : α → α → Prop} {l : List α} (h : l.Pairwise R) : ∀ {a b : α}, a ∈ l → b ∈ l → a = b ∨ R a b ∨ R b a := by
  induction h with
  | nil => intro a b ha; cases ha
  | cons hx _ ih =>
    intro a b ha hb
    rcases List.mem_cons.mp ha with e | e
    · rcases List.mem_cons.mp hb with f | f
      · exact .inl (e.trans f.symm)
      · exact .inr (.inl (by rw [e]; exact hx b f))
    · rcases List.mem_cons.mp hb with f | f
      · exact .inr (.inr (by rw [f]; exact hx a e))
      · exact ih e f
theorem RS.zero {w : Nat} {rs : List Row} (h : RS w rs) {a b : Row} (ha : a ∈ rs) (hb : b ∈ rs) (ne : a ≠ b) : ev b (leadD a) = 0 := by
  rcases pw_of h.red ha hb with q | q | q
  · exact absurd q ne
  · exact q.2.1
  · exact q.2.2
theorem sum_upd {f g : Row → Int} {c : Int} {r : Row} : ∀ {rs : List Row}, rs.Nodup → r ∈ rs → (rs.map (fun o => (if o = r then f o + c else f o) * g o)).sum = (rs.map (fun o => f o * g o)).sum + c * g r
  | [], _, h => by cases h
  | o :: rs, nd, h => by
    obtain ⟨n1, n2⟩ := List.nodup_cons.mp nd
    rw [List.map_cons, List.map_cons, List.sum_cons, List.sum_cons]
    rcases List.mem_cons.mp h with e | e
    · subst e
      have q : ∀ x ∈ rs, (fun o => (if o = r then f o + c else f o) * g o) x = (fun o => f o * g o) x := fun x hx => by
        show (if x = r then f x + c else f x) * g x = f x * g x
        rw [if_neg (fun z => n1 (by rw [← z]; exact hx))]
      rw [List.map_congr_left q, if_pos rfl, Int.add_mul]
      omega
    · rw [sum_upd n2 e, if_neg (fun z => n1 (by rw [z]; exact e))]
      omega
theorem sum_one {f : Row → Int} {r : Row} : ∀ {rs : List Row}, rs.Nodup → r ∈ rs → (∀ o ∈ rs, o ≠ r → f o = 0) → (rs.map f).sum = f r
  | [], _, h, _ => by cases h
  | o :: rs, nd, h, z => by
    obtain ⟨n1, n2⟩ := List.nodup_cons.mp nd
    rw [List.map_cons, List.sum_cons]
    rcases List.mem_cons.mp h with e | e
    · subst e
      have q : ∀ rs : List Row, (∀ x ∈ rs, f x = 0) → (rs.map f).sum = 0 := by
        intro rs
        induction rs with
        | nil => intro _; rfl
        | cons y rs ih => intro hz; rw [List.map_cons, List.sum_cons, hz y (List.mem_cons_self ..), ih fun x hx => hz x (List.mem_cons_of_mem _ hx)]; rfl
      rw [q rs fun x hx => z x (List.mem_cons_of_mem _ hx) fun w => n1 (by rw [← w]; exact hx)]
      omega
    · rw [sum_one n2 e fun x hx => z x (List.mem_cons_of_mem _ hx), z o (List.mem_cons_self ..) fun w => n1 (by rw [w]; exact e)]
      omega
theorem sum_ne {f : Row → Int} : ∀ {rs : List Row}, (rs.map f).sum ≠ 0 → ∃ o ∈ rs, f o ≠ 0
  | [], h => absurd rfl h
  | o :: rs, h => by
    by_cases z : f o = 0
    · obtain ⟨x, hx, q⟩ := sum_ne (f := f) (rs := rs) (fun w => h (by rw [List.map_cons, List.sum_cons, z, w]; rfl))
      exact ⟨x, List.mem_cons_of_mem _ hx, q⟩
    · exact ⟨o, List.mem_cons_self .., z⟩
theorem RS.nodup {w : Nat} {rs : List Row} (h : RS w rs) : rs.Nodup := h.red.imp fun q e => by rw [e] at q; omega
theorem coefs {rs : List Row} (nd : rs.Nodup) {u : Vec} (k : InSp (· ∈ rs) u) : ∃ c : Row → Int, ∀ i, u i = (rs.map fun o => c o * ev o i).sum := by
  induction k with
  | zero =>
    refine ⟨fun _ => 0, fun i => ?_⟩
    have q : ∀ rs : List Row, (rs.map fun o => (0 : Int) * ev o i).sum = 0 := by
      intro rs
      induction rs with
      | nil => rfl
      | cons y rs ih => rw [List.map_cons, List.sum_cons, ih]; simp
    rw [q]
  | @add u c r _ m ih =>
    obtain ⟨f, hf⟩ := ih
    refine ⟨fun o => if o = r then f o + c else f o, fun i => ?_⟩
    show u i + c * ev r i = _
    rw [sum_upd (g := fun o => ev o i) nd m, hf i]
/-- what lies in the span of a reduced system has its lead among the leads -/
theorem RS.key {w : Nat} {rs : List Row} (h : RS w rs) {v : Row} {n : Nat} (hv : QS (· ∈ rs) (ev v)) (hn : leadN v = some n) : ∃ o ∈ rs, leadD o = n := by
  obtain ⟨m, m0, k⟩ := hv
  obtain ⟨c, hc⟩ := coefs h.nodup k
  obtain ⟨v1, v2⟩ := lead_some.mp hn
  have ne : (rs.map fun o => c o * ev o n).sum ≠ 0 := by
    rw [← hc n]
    exact Int.mul_ne_zero m0 v1
  obtain ⟨o, ho, hon⟩ := sum_ne ne
  have co : c o ≠ 0 := fun z => hon (by rw [z]; simp)
  have on : ev o n ≠ 0 := fun z => hon (by rw [z]; simp)
  obtain ⟨l1, l2⟩ := h.lead ho
  obtain ⟨l3, l4⟩ := lead_some.mp l1
  refine ⟨o, ho, ?_⟩
  have a1 : leadD o ≤ n := by
    rcases Nat.lt_or_ge n (leadD o) with q | q
    · exact absurd (l4 n q) on
    · exact q
  have at_ : m * ev v (leadD o) = c o * ev o (leadD o) := by
    rw [hc (leadD o)]
    exact sum_one (f := fun x => c x * ev x (leadD o)) h.nodup ho fun x hx hne => by
      show c x * ev x (leadD o) = 0
      rw [h.zero ho hx (Ne.symm hne)]
      simp
  have a2 : n ≤ leadD o := by
    rcases Nat.lt_or_ge (leadD o) n with q | q
    · exfalso
      rw [v2 _ q] at at_
      have z : c o * ev o (leadD o) = 0 := by rw [← at_]; simp
      rcases Int.mul_eq_zero.mp z with q' | q'
      · exact co q'
      · exact l3 q'
    · exact q
  omega
/-! added -/
theorem lead_ne_zero {r : Row} {n : Nat} (h : leadN r = some n) : leadN r ≠ none := by rw [h]; exact fun q => by cases q
theorem woAll_facts {w : Nat} {rs : List Row} (h : RS w rs) : ∀ (part : List Row), (∀ o ∈ part, o ∈ rs) → ∀ r : Row, r.length = w → (woAll part r).length = w ∧
    (∀ S : Row → Prop, (∀ o ∈ rs, S o) → QS S (ev r) → QS S (ev (woAll part r))) ∧ (∀ S : Row → Prop, (∀ o ∈ rs, S o) → QS S (ev (woAll part r)) → QS S (ev r)) ∧
    (∀ o ∈ rs, (o ∈ part ∨ ev r (leadD o) = 0) → ev (woAll part r) (leadD o) = 0) := by
  intro part
  induction part with
  | nil => exact fun _ r hr => ⟨hr, fun _ _ q => q, fun _ _ q => q, fun o _ q => q.elim (fun z => nomatch z) id⟩
  | cons o part ih =>
    intro hp r hr
    have ho := hp o (List.mem_cons_self ..)
    obtain ⟨l1, l2⟩ := h.lead ho
    have hl : r.length = o.length := hr.trans (h.len o ho).symm
    obtain ⟨a, c, d, a0, c0, e1, e2, e3⟩ := wo_lin hl l1
    obtain ⟨i1, i2, i3, i4⟩ := ih (fun x hx => hp x (List.mem_cons_of_mem _ hx)) (wo r o) ((len_wo hl).trans hr)
    refine ⟨i1, fun S hS q => i2 S hS (QS.lin a0 e1 q (QS.mem (hS o ho))), fun S hS q => ?_, fun x hx q => i4 x hx ?_⟩
    · refine QS.lin (x := ev r) (y := ev (wo r o)) (z := ev o) (a := c) (c := a) (d := -d) c0 (fun i => ?_) (i3 S hS q) (QS.mem (hS o ho))
      have := e1 i
      rw [Int.neg_mul]
      omega
    · by_cases hxo : x = o
      · subst hxo
        exact .inr e2
      · rcases q with q | q
        · rcases List.mem_cons.mp q with z | z
          · exact absurd z hxo
          · exact .inl z
        · refine .inr ?_
          have := e1 (leadD x)
          rw [q, h.zero hx ho hxo] at this
          have z : a * ev (wo r o) (leadD x) = 0 := by rw [this]; simp
          rcases Int.mul_eq_zero.mp z with z | z
          · exact absurd z a0
          · exact z
theorem rest_facts {w : Nat} {rs : List Row} (h : RS w rs) {r : Row} (hr : r.length = w) : (restOf rs r).length = w ∧
    (∀ S : Row → Prop, (∀ o ∈ rs, S o) → (QS S (ev r) ↔ QS S (ev (restOf rs r)))) ∧ ∀ o ∈ rs, ev (restOf rs r) (leadD o) = 0 := by
  obtain ⟨i1, i2, i3, i4⟩ := woAll_facts h rs (fun _ q => q) r hr
  obtain ⟨a, c, a0, c0, e⟩ := prim_lin (woAll rs r)
  refine ⟨(len_prim _).trans i1, fun S hS => ⟨fun q => ?_, fun q => i3 S hS ?_⟩, fun o ho => ev_prim.mpr (i4 o ho (.inl ho))⟩
  · exact QS.div a0 (((i2 S hS q).smul c).cg fun i => (e i).symm)
  · exact QS.div c0 ((q.smul a).cg fun i => e i)
theorem wo_rest {w : Nat} {rs : List Row} (h : RS w rs) {t o : Row} {l : Nat} (ht : t.length = w) (hl : leadN t = some l) (hz : ∀ o ∈ rs, ev t (leadD o) = 0) (ho : o ∈ rs) :
    (wo o t).length = w ∧ leadN (wo o t) = some (leadD o) ∧ ev (wo o t) l = 0 ∧ (∀ x ∈ rs, x ≠ o → ev (wo o t) (leadD x) = 0) ∧ leadD o ≠ l := by
  obtain ⟨l1, l2⟩ := h.lead ho
  obtain ⟨l3, l4⟩ := lead_some.mp l1
  obtain ⟨t3, t4⟩ := lead_some.mp hl
  have hlen : o.length = t.length := (h.len o ho).trans ht.symm
  obtain ⟨a, c, d, a0, c0, e1, e2, e3⟩ := wo_lin hlen hl
  have nel : leadD o ≠ l := fun q => t3 (by rw [← q]; exact hz o ho)
  have zero : ∀ {i : Nat}, ev o i = 0 → ev t i = 0 → ev (wo o t) i = 0 := fun {i} q1 q2 => by
    have := e1 i
    rw [q1, q2] at this
    have z : a * ev (wo o t) i = 0 := by rw [this]; simp
    rcases Int.mul_eq_zero.mp z with z | z
    · exact absurd z a0
    · exact z
  refine ⟨(len_wo hlen).trans (h.len o ho), ?_, e2, fun x hx ne => zero (h.zero hx ho ne) (hz x hx), nel⟩
  rcases Nat.lt_or_ge l (leadD o) with q | q
  · rw [e3 (l4 l q)]
    exact l1
  · rw [lead_some]
    refine ⟨fun z => ?_, fun j hj => zero (l4 j hj) (t4 j (by omega))⟩
    have := e1 (leadD o)
    rw [z, hz o ho] at this
    have z2 : c * ev o (leadD o) = 0 := by omega
    rcases Int.mul_eq_zero.mp z2 with z | z
    · exact c0 z
    · exact l3 z
theorem QS.prim {S : Row → Prop} {r : Row} : QS S (ev (prim r)) ↔ QS S (ev r) := by
  obtain ⟨a, c, a0, c0, e⟩ := prim_lin r
  exact ⟨fun q => QS.div c0 ((q.smul a).cg fun i => e i), fun q => QS.div a0 ((q.smul c).cg fun i => (e i).symm)⟩
theorem adds_RS {w : Nat} {rs out : List Row} {r : Row} (h : RS w rs) (hr : r.length = w) (ha : Adds rs r out) :
    RS w out ∧ (∀ v, QS (· ∈ out) v ↔ QS (fun x => x ∈ rs ∨ x = r) v) ∧ ((out.length = rs.length ∧ QS (· ∈ rs) (ev r)) ∨ (out.length = rs.length + 1 ∧ ¬ QS (· ∈ rs) (ev r))) := by
  obtain ⟨t1, t2, t3⟩ := rest_facts h hr
  rcases ha with ⟨ln, rfl⟩ | ⟨ln, hp, hs⟩
  · have inS : QS (· ∈ out) (ev r) := (t2 _ fun _ q => q).mpr (QS.zero.cg fun i => (lead_none.mp ln i).symm)
    refine ⟨h, fun v => ⟨fun q => q.trans fun x hx => QS.mem (.inl hx), fun q => q.trans fun x hx => ?_⟩, .inl ⟨rfl, inS⟩⟩
    rcases hx with hx | rfl
    · exact QS.mem hx
    · exact inS
  · obtain ⟨t, et⟩ : ∃ t, t = restOf rs r := ⟨_, rfl⟩
    rw [← et] at t1 t2 t3 ln hp
    obtain ⟨l, hl⟩ := Option.ne_none_iff_exists'.mp ln
    have wr := fun {o : Row} (ho : o ∈ rs) => wo_rest h t1 hl t3 ho
    have np : ∀ o ∈ rs, leadN (Aon.prim (wo o t)) = some (leadD o) := fun o ho => (lead_prim _).trans (wr ho).2.1
    have nd : ∀ o ∈ rs, leadD (Aon.prim (wo o t)) = leadD o := fun o ho => leadD_of (np o ho)
    have td : leadD (Aon.prim t) = l := leadD_of ((lead_prim t).trans hl)
    have mem : ∀ {x : Row}, x ∈ out ↔ (∃ o ∈ rs, Aon.prim (wo o t) = x) ∨ x = Aon.prim t := fun {x} => by
      rw [hp.mem_iff, List.mem_append, List.mem_map, List.mem_singleton]
    have nel : ∀ o ∈ rs, leadD o ≠ l := fun o ho => (wr ho).2.2.2.2
    have pn : out.Pairwise (fun a b => leadD a ≠ leadD b ∧ ev b (leadD a) = 0 ∧ ev a (leadD b) = 0) := by
      refine (hp.pairwise_iff (fun q => ⟨Ne.symm q.1, q.2.2, q.2.1⟩)).mpr ?_
      rw [List.pairwise_append]
      refine ⟨?_, List.pairwise_singleton _ _, ?_⟩
      · rw [List.pairwise_map]
        refine h.red.imp_of_mem fun {a b} ha hb q => ?_
        rw [nd a ha, nd b hb]
        have ne : a ≠ b := fun z => by rw [z] at q; omega
        exact ⟨by omega, ev_prim.mpr ((wr hb).2.2.2.1 a ha ne), ev_prim.mpr ((wr ha).2.2.2.1 b hb (Ne.symm ne))⟩
      · intro a ha b hb
        obtain ⟨o, ho, rfl⟩ := List.mem_map.mp ha
        rw [List.mem_singleton.mp hb, nd o ho, td]
        exact ⟨nel o ho, ev_prim.mpr (t3 o ho), ev_prim.mpr (wr ho).2.2.1⟩
    have toOut : ∀ x, x ∈ rs ∨ x = t → QS (· ∈ out) (ev x) := fun x hx => by
      have ht : QS (· ∈ out) (ev t) := QS.prim.mp (QS.mem (mem.mpr (.inr rfl)))
      rcases hx with hx | rfl
      · obtain ⟨a, c, d, a0, c0, e1, _, _⟩ := wo_lin ((h.len x hx).trans t1.symm) hl
        have hw : QS (· ∈ out) (ev (wo x t)) := QS.prim.mp (QS.mem (mem.mpr (.inl ⟨x, hx, rfl⟩)))
        refine QS.lin (x := ev x) (y := ev (wo x t)) (z := ev t) (a := c) (c := a) (d := -d) c0 (fun i => ?_) hw ht
        have := e1 i
        rw [Int.neg_mul]
        omega
      · exact ht
    refine ⟨⟨fun x hx => ?_, fun x hx => ?_, ?_⟩, fun v => ⟨fun q => q.trans fun x hx => ?_, fun q => q.trans fun x hx => ?_⟩, .inr ⟨?_, fun q => ?_⟩⟩
    · rcases mem.mp hx with ⟨o, ho, rfl⟩ | rfl
      · exact (len_prim _).trans (wr ho).1
      · exact (len_prim _).trans t1
    · rcases mem.mp hx with ⟨o, ho, rfl⟩ | rfl
      · exact ⟨_, np o ho, prim_pos (wr ho).2.1⟩
      · exact ⟨l, (lead_prim t).trans hl, prim_pos hl⟩
    · refine (hs.and pn).imp fun q => ?_
      exact ⟨by omega, q.2.2.1, q.2.2.2⟩
    · have tS : QS (fun x => x ∈ rs ∨ x = r) (ev t) := (t2 _ fun _ q => .inl q).mp (QS.mem (.inr rfl))
      rcases mem.mp hx with ⟨o, ho, rfl⟩ | rfl
      · obtain ⟨a, c, d, a0, c0, e1, _, _⟩ := wo_lin ((h.len o ho).trans t1.symm) hl
        exact QS.prim.mpr (QS.lin a0 e1 (QS.mem (.inl ho)) tS)
      · exact QS.prim.mpr tS
    · rcases hx with hx | rfl
      · exact toOut x (.inl hx)
      · have q : QS (fun y => y ∈ rs ∨ y = t) (ev x) := (t2 _ fun _ z => .inl z).mpr (QS.mem (.inr rfl))
        exact q.trans toOut
    · rw [hp.length_eq, List.length_append, List.length_map]
      rfl
    · obtain ⟨o, ho, e⟩ := h.key ((t2 _ fun _ z => z).mp q) hl
      exact nel o ho e
/-- what added wants known -/
theorem adds_pre {w : Nat} {rs : List Row} {r : Row} (h : RS w rs) (hr : r.length = w) : leadN (restOf rs r) ≠ none → ∀ o ∈ rs, leadN (wo o (restOf rs r)) ≠ none := fun ln o ho => by
  obtain ⟨t1, t2, t3⟩ := rest_facts h hr
  obtain ⟨l, hl⟩ := Option.ne_none_iff_exists'.mp ln
  rw [(wo_rest h t1 hl t3 ho).2.1]
  exact fun q => by cases q
/-! echelon systems, and how many rows they have -/
structure Ech (rs : List Row) : Prop where
  ld : ∀ o ∈ rs, leadN o ≠ none
  red : rs.Pairwise (fun a b => leadD a < leadD b)
theorem RS.ech {w : Nat} {rs : List Row} (h : RS w rs) : Ech rs := ⟨fun o ho => by rw [(h.lead ho).1]; exact fun q => (by cases q), h.red.imp fun q => q.1⟩
theorem Ech.key {rs : List Row} (h : Ech rs) {v : Row} {n : Nat} (hv : QS (· ∈ rs) (ev v)) (hn : leadN v = some n) : ∃ o ∈ rs, leadD o = n := by
  obtain ⟨m, m0, k⟩ := hv
  have nd : rs.Nodup := h.red.imp fun q e => by rw [e] at q; omega
  obtain ⟨c, hc⟩ := coefs nd k
  obtain ⟨v1, v2⟩ := lead_some.mp hn
  clear k nd
  -- the first row with a part
  have main : ∀ rs : List Row, Ech rs → (∀ i, m * ev v i = (rs.map fun o => c o * ev o i).sum) → ∃ o ∈ rs, leadD o = n := by
    intro rs
    induction rs with
    | nil =>
      intro _ e
      have := e n
      simp only [List.map_nil, List.sum_nil] at this
      exact absurd this (Int.mul_ne_zero m0 v1)
    | cons o rs ih =>
      intro hE e
      obtain ⟨p1, p2⟩ := List.pairwise_cons.mp hE.red
      have hE' : Ech rs := ⟨fun x hx => hE.ld x (List.mem_cons_of_mem _ hx), p2⟩
      by_cases co : c o = 0
      · obtain ⟨x, hx, q⟩ := ih hE' fun i => by rw [e i, List.map_cons, List.sum_cons, co]; simp
        exact ⟨x, List.mem_cons_of_mem _ hx, q⟩
      · refine ⟨o, List.mem_cons_self .., ?_⟩
        obtain ⟨l, hl⟩ := Option.ne_none_iff_exists'.mp (hE.ld o (List.mem_cons_self ..))
        obtain ⟨o3, o4⟩ := lead_some.mp hl
        have ol := leadD_of hl
        have zr : ∀ i, i ≤ l → (rs.map fun x => c x * ev x i).sum = 0 := fun i hi => by
          by_cases z : (rs.map fun x => c x * ev x i).sum = 0
          · exact z
          · exfalso
            obtain ⟨x, hx, q⟩ := sum_ne (f := fun x => c x * ev x i) z
            obtain ⟨lx, hlx⟩ := Option.ne_none_iff_exists'.mp (hE.ld x (List.mem_cons_of_mem _ hx))
            have := p1 x hx
            rw [ol, leadD_of hlx] at this
            exact q (by show c x * ev x i = 0; rw [(lead_some.mp hlx).2 i (by omega)]; simp)
        have low : ∀ i, i < l → ev v i = 0 := fun i hi => by
          have := e i
          rw [List.map_cons, List.sum_cons, zr i (by omega), o4 i hi] at this
          have z : m * ev v i = 0 := by rw [this]; simp
          rcases Int.mul_eq_zero.mp z with z | z
          · exact absurd z m0
          · exact z
        have atl : ev v l ≠ 0 := fun z => by
          have := e l
          rw [List.map_cons, List.sum_cons, zr l (Nat.le_refl _), z] at this
          have z2 : c o * ev o l = 0 := by
            have h2 : m * 0 = c o * ev o l + 0 := this
            omega
          rcases Int.mul_eq_zero.mp z2 with z | z
          · exact co z
          · exact o3 z
        rw [ol]
        have := lead_some.mpr ⟨atl, low⟩
        rw [hn] at this
        exact (Option.some.inj this).symm
  exact main rs h hc
theorem nodup_le : ∀ {a b : List Nat}, a.Nodup → (∀ x ∈ a, x ∈ b) → a.length ≤ b.length
  | [], _, _, _ => Nat.zero_le _
  | x :: a, b, nd, h => by
    obtain ⟨n1, n2⟩ := List.nodup_cons.mp nd
    have hx := h x (List.mem_cons_self ..)
    have q := nodup_le (a := a) (b := b.erase x) n2 fun y hy => by
      rw [List.mem_erase_of_ne (fun z => n1 (by rw [← z]; exact hy))]
      exact h y (List.mem_cons_of_mem _ hy)
    rw [List.length_erase_of_mem hx] at q
    have := List.length_pos_of_mem hx
    rw [List.length_cons]
    omega
theorem Ech.le {a b : List Row} (ha : Ech a) (hb : Ech b) (h : ∀ r ∈ a, QS (· ∈ b) (ev r)) : a.length ≤ b.length := by
  have nd : (a.map leadD).Nodup := by
    rw [List.nodup_iff_pairwise_ne, List.pairwise_map]
    exact ha.red.imp fun q => by omega
  have q := nodup_le (b := b.map leadD) nd fun n hn => by
    obtain ⟨r, hr, rfl⟩ := List.mem_map.mp hn
    obtain ⟨l, hl⟩ := Option.ne_none_iff_exists'.mp (ha.ld r hr)
    obtain ⟨o, ho, e⟩ := hb.key (h r hr) hl
    rw [leadD_of hl]
    exact List.mem_map.mpr ⟨o, ho, e⟩
  rw [List.length_map, List.length_map] at q
  exact q
theorem Ech.eq {a b : List Row} (ha : Ech a) (hb : Ech b) (h : ∀ v, QS (· ∈ a) v ↔ QS (· ∈ b) v) : a.length = b.length :=
  Nat.le_antisymm (ha.le hb fun r hr => (h _).mp (QS.mem hr)) (hb.le ha fun r hr => (h _).mpr (QS.mem hr))
theorem ev_range {n : Nat} {f : Nat → Int} {i : Nat} (h : i < n) : ev ((List.range n).map f) i = f i := by
  unfold ev
  rw [List.getD_eq_getElem?_getD, List.getElem?_map, List.getElem?_range h]
  rfl

/-! ### reduced rows without common factors are told by their span -/
theorem gcd_great {p q : Nat} : ∀ {r : Row} {g : Nat}, (∀ x ∈ r, (p : Int) ∣ (q : Int) * x) → p ∣ q * g → p ∣ q * r.foldl (fun g x => Int.gcd g x) g
  | [], _, _, h => h
  | y :: r, g, hx, h => gcd_great (r := r) (fun x hx' => hx x (List.mem_cons_of_mem _ hx')) (by
      have hy := hx y (List.mem_cons_self ..)
      have e : q * Int.gcd (g : Int) y = Nat.gcd (q * g) (q * y.natAbs) := by rw [Nat.gcd_mul_left]; rfl
      rw [e]
      refine Nat.dvd_gcd h ?_
      have z := Int.natAbs_dvd_natAbs.mpr hy
      rwa [Int.natAbs_natCast, Int.natAbs_mul, Int.natAbs_natCast] at z)
theorem row_ext {a b : Row} (hl : a.length = b.length) (h : ∀ i, ev a i = ev b i) : a = b := by
  refine List.ext_getElem hl fun i h1 h2 => ?_
  have z := h i
  unfold ev at z
  rw [List.getD_eq_getElem?_getD, List.getD_eq_getElem?_getD, List.getElem?_eq_getElem h1, List.getElem?_eq_getElem h2] at z
  exact z
theorem mem_ev {r : Row} {x : Int} (h : x ∈ r) : ∃ i, x = ev r i := by
  obtain ⟨i, hi⟩ := List.mem_iff_getElem?.mp h
  exact ⟨i, (getD_of hi).symm⟩
theorem ev_mem {r : Row} {i : Nat} (h : i < r.length) : ev r i ∈ r := by
  unfold ev
  rw [List.getD_eq_getElem?_getD, List.getElem?_eq_getElem h]
  exact List.getElem_mem h
theorem uniq_dvd {o o' : Row} {p q : Nat} (g1 : gcdR o = 1) (e : ∀ i, (q : Int) * ev o i = (p : Int) * ev o' i) : p ∣ q := by
  have z := gcd_great (p := p) (q := q) (r := o) (g := 0) (fun x hx => by
    obtain ⟨i, rfl⟩ := mem_ev hx
    rw [e i]
    exact Int.dvd_mul_right ..) (by rw [Nat.mul_zero]; exact Nat.dvd_zero _)
  rw [show o.foldl (fun g x => Int.gcd g x) 0 = 1 from g1, Nat.mul_one] at z
  exact z
theorem uniq_row {o o' : Row} {n : Nat} (hl : o.length = o'.length) (p0 : 0 < ev o n) (q0 : 0 < ev o' n) (g1 : gcdR o = 1) (g2 : gcdR o' = 1) (e : ∀ i, ev o' n * ev o i = ev o n * ev o' i) : o = o' := by
  obtain ⟨p, ep⟩ : ∃ p : Nat, ev o n = (p : Int) := ⟨(ev o n).toNat, by omega⟩
  obtain ⟨q, eq⟩ : ∃ q : Nat, ev o' n = (q : Int) := ⟨(ev o' n).toNat, by omega⟩
  rw [ep, eq] at e
  rw [ep] at p0
  rw [eq] at q0
  have h1 : p ∣ q := uniq_dvd g1 e
  have h2 : q ∣ p := uniq_dvd g2 fun i => (e i).symm
  obtain rfl : p = q := Nat.dvd_antisymm h1 h2
  exact row_ext hl fun i => Int.eq_of_mul_eq_mul_left (by omega) (e i)
theorem gcd_pos_of {r : Row} {n : Nat} (h : leadN r = some n) : gcdR r ≠ 0 := fun z => by
  obtain ⟨h1, _⟩ := lead_some.mp h
  refine h1 ?_
  by_cases hn : n < r.length
  · exact gcd_zero z (ev_mem hn)
  · exact ev_out (by omega)
theorem gcd_prim {r : Row} (h : gcdR r ≠ 0) : gcdR (prim r) = 1 := by
  obtain ⟨g, eg⟩ : ∃ g, g = gcdR r := ⟨_, rfl⟩
  obtain ⟨d, ed⟩ : ∃ d, d = gcdR (prim r) := ⟨_, rfl⟩
  have key : d * g ∣ 1 * gcdR r := gcd_great (r := r) (g := 0) (fun x hx => by
    have hg : ((gcdR r : Nat) : Int) ∣ signR r * x := Int.dvd_trans (gcd_dvd hx) (Int.dvd_mul_left ..)
    have hd : ((d : Nat) : Int) ∣ signR r * x / ((gcdR r : Nat) : Int) := by
      rw [ed]
      refine gcd_dvd ?_
      unfold prim
      rw [if_neg h]
      exact List.mem_map.mpr ⟨x, hx, rfl⟩
    obtain ⟨k, hk⟩ := hd
    have e1 : signR r * x = ((gcdR r : Nat) : Int) * (((d : Nat) : Int) * k) := by rw [← hk, Int.mul_ediv_cancel' hg]
    have e2 : x = signR r * (((gcdR r : Nat) : Int) * (((d : Nat) : Int) * k)) := by
      rw [← e1, ← Int.mul_assoc]
      rcases sgn_one r with z | z <;> rw [z] <;> simp
    refine ⟨signR r * k, ?_⟩
    rw [e2, eg, Int.natCast_mul, Int.natCast_one, Int.one_mul]
    simp only [Int.mul_assoc, Int.mul_comm, Int.mul_left_comm]) (by simp)
  rw [Nat.one_mul, ← eg] at key
  rw [← ed]
  have g0 : 0 < g := by omega
  obtain ⟨k, hk⟩ := key
  have h3 : g * (d * k) = g * 1 := by rw [Nat.mul_one]; conv => rhs; rw [hk]
                                      rw [Nat.mul_comm d g, Nat.mul_assoc]
  have h4 := Nat.eq_of_mul_eq_mul_left g0 h3
  exact Nat.eq_one_of_mul_eq_one_right h4
theorem sorted_ext {f : Row → Nat} : ∀ {a b : List Row}, a.Pairwise (fun x y => f x < f y) → b.Pairwise (fun x y => f x < f y) → (∀ x, x ∈ a ↔ x ∈ b) → a = b
  | [], [], _, _, _ => rfl
  | [], y :: b, _, _, h => nomatch (h y).mpr (List.mem_cons_self ..)
  | x :: a, [], _, _, h => nomatch (h x).mp (List.mem_cons_self ..)
  | x :: a, y :: b, ha, hb, h => by
    rw [List.pairwise_cons] at ha hb
    have exy : x = y := by
      rcases List.mem_cons.mp ((h x).mp (List.mem_cons_self ..)) with e | e
      · exact e
      · rcases List.mem_cons.mp ((h y).mpr (List.mem_cons_self ..)) with e2 | e2
        · exact e2.symm
        · have := ha.1 y e2
          have := hb.1 x e
          omega
    subst exy
    congr 1
    refine sorted_ext ha.2 hb.2 fun z => ⟨fun hz => ?_, fun hz => ?_⟩
    · rcases List.mem_cons.mp ((h z).mp (List.mem_cons_of_mem _ hz)) with e | e
      · subst e
        have := ha.1 z hz
        omega
      · exact e
    · rcases List.mem_cons.mp ((h z).mpr (List.mem_cons_of_mem _ hz)) with e | e
      · subst e
        have := hb.1 z hz
        omega
      · exact e
theorem RS.same_row {w : Nat} {a b : List Row} (ha : RS w a) (hb : RS w b) (hs : ∀ v, QS (· ∈ a) v ↔ QS (· ∈ b) v) {o o' : Row} (ho : o ∈ a) (ho' : o' ∈ b) (hl : leadD o = leadD o') (g1 : gcdR o = 1) (g2 : gcdR o' = 1) : o = o' := by
  obtain ⟨l1, p1⟩ := ha.lead ho
  obtain ⟨l2, p2⟩ := hb.lead ho'
  rw [← hl] at p2 l2
  have L1 := ha.len o ho
  have L2 := hb.len o' ho'
  refine uniq_row (L1.trans L2.symm) p1 p2 g1 g2 fun i => ?_
  obtain ⟨v, hv⟩ : ∃ v : Row, v = (List.range w).map fun i => ev o' (leadD o) * ev o i - ev o (leadD o) * ev o' i := ⟨_, rfl⟩
  have evv : ∀ i, ev v i = ev o' (leadD o) * ev o i - ev o (leadD o) * ev o' i := fun i => by
    by_cases hi : i < w
    · rw [hv, ev_range hi]
    · rw [hv, ev_out (by rw [List.length_map, List.length_range]; omega), ev_out (r := o) (i := i) (by omega), ev_out (r := o') (i := i) (by omega)]
      simp
  have vin : QS (· ∈ a) (ev v) := (((QS.mem ho).smul (ev o' (leadD o))).plus (((hs _).mpr (QS.mem ho')).smul (-ev o (leadD o)))).cg fun i => by
    rw [evv i, Int.neg_mul]
    omega
  cases lv : leadN v with
  | none =>
    have := (lead_none.mp lv) i
    rw [evv i] at this
    omega
  | some n =>
    exfalso
    obtain ⟨x, hx, xl⟩ := ha.key vin lv
    obtain ⟨y, hy, yl⟩ := hb.key ((hs _).mp vin) lv
    refine (lead_some.mp lv).1 ?_
    rw [evv n]
    by_cases e1 : x = o
    · have en : n = leadD o := by rw [← xl, e1]
      rw [en, Int.mul_comm, Int.sub_self]
    · have z1 := ha.zero hx ho e1
      rw [xl] at z1
      have e2 : y ≠ o' := fun e => e1 (by
        rcases pw_of ha.red hx ho with q | q | q
        · exact q
        · rw [xl, hl, ← e, yl] at q
          omega
        · rw [xl, hl, ← e, yl] at q
          omega)
      have z2 := hb.zero hy ho' e2
      rw [yl] at z2
      rw [z1, z2]
      simp
theorem RS.uniq {w : Nat} {a b : List Row} (ha : RS w a) (hb : RS w b) (ga : ∀ o ∈ a, gcdR o = 1) (gb : ∀ o ∈ b, gcdR o = 1) (hs : ∀ v, QS (· ∈ a) v ↔ QS (· ∈ b) v) : a = b := by
  refine sorted_ext (f := leadD) (ha.red.imp fun q => q.1) (hb.red.imp fun q => q.1) fun x => ⟨fun hx => ?_, fun hx => ?_⟩
  · obtain ⟨y, hy, e⟩ := hb.key ((hs _).mp (QS.mem hx)) (ha.lead hx).1
    rw [ha.same_row hb hs hx hy e.symm (ga x hx) (gb y hy)]
    exact hy
  · obtain ⟨y, hy, e⟩ := ha.key ((hs _).mpr (QS.mem hx)) (hb.lead hx).1
    rw [← ha.same_row hb hs hy hx e (ga y hy) (gb x hx)]
    exact hy
theorem RS.le_w {w : Nat} {a : List Row} (h : RS w a) : a.length ≤ w := by
  have q := nodup_le (a := a.map leadD) (b := List.range w) (by
    rw [List.nodup_iff_pairwise_ne, List.pairwise_map]
    exact h.red.imp fun q => by omega) fun x hx => by
      obtain ⟨o, ho, rfl⟩ := List.mem_map.mp hx
      rw [List.mem_range]
      have l1 := (h.lead ho).2
      by_cases z : leadD o < w
      · exact z
      · rw [ev_out (by rw [h.len o ho]; omega)] at l1
        omega
  rwa [List.length_map, List.length_range] at q
theorem adds_gcd {w : Nat} {rs out : List Row} {r : Row} (h : RS w rs) (hr : r.length = w) (hg : ∀ o ∈ rs, gcdR o = 1) (ha : Adds rs r out) : ∀ o ∈ out, gcdR o = 1 := by
  have pre := adds_pre h hr
  rcases ha with ⟨_, rfl⟩ | ⟨ln, hp, _⟩
  · exact hg
  · intro o ho
    have key : ∀ x : Row, leadN x ≠ none → gcdR (prim x) = 1 := fun x hx => by
      cases e : leadN x with
      | none => exact absurd e hx
      | some n => exact gcd_prim (gcd_pos_of e)
    rcases List.mem_append.mp (hp.mem_iff.mp ho) with q | q
    · obtain ⟨x, hx, rfl⟩ := List.mem_map.mp q
      exact key _ (pre ln x hx)
    · rw [List.mem_singleton.mp q]
      exact key _ ln

/-! ### errors of own classes over any of the built-in ones: made with their one field -/
namespace XC
open PySem.W PySem.Calls PyProof.Rows
/-- which built-in makes the class: the tail of its mro, its maker -/
structure Bas (bmB : List Value) (newId : String) : Prop where
  ex : ∃ (B initId : String) (bm0 : List Value), ExcBaseFacts B newId initId bm0 ∧ bmB.contains (.type B) = true
  noA : bmB.contains (.type "AttributeError") = false
  noN : bmB.contains (.type "NameError") = false
  ob : bmB.contains (.type "object") = true
  pass : ∀ self, PySem.refuseLoop self "__setattr__" bmB = pure ()
abbrev tlV : List Value := [.type "ValueError", .type "Exception", .type "BaseException", .type "object"]
abbrev tlR : List Value := [.type "RuntimeError", .type "Exception", .type "BaseException", .type "object"]
abbrev tlK : List Value := [.type "KeyError", .type "LookupError", .type "Exception", .type "BaseException", .type "object"]
theorem basV : Bas tlV "ValueError.__new__" := ⟨⟨_, _, _, F.excBase_ValueError, by decide +kernel⟩, by decide +kernel, by decide +kernel, by decide +kernel, fun _ => by kernel_rfl⟩
theorem basR : Bas tlR "RuntimeError.__new__" := ⟨⟨_, _, _, F.excBase_RuntimeError, by decide +kernel⟩, by decide +kernel, by decide +kernel, by decide +kernel, fun _ => by kernel_rfl⟩
theorem basK : Bas tlK "LookupError.__new__" := ⟨⟨_, _, _, F.excBase_LookupError, by decide +kernel⟩, by decide +kernel, by decide +kernel, by decide +kernel, fun _ => by kernel_rfl⟩

abbrev xObj (C t : Addr) : Obj := { cls := .ref C, data := .fields #[.ref t, .none, .none, .none, .bool false, .none] }
section
variable {prog : Program} {w : World} {A : Around} {R : Result → Shared → Prop} {h : Heap} {g : Array GenState} {d : Drawn} {t : Nat} {os : OsState}
variable {nm q : Str} {C N : Addr} {bs bm bm0 : List Value} {hdct : Bool} {sn : List Str} {sub : List Value} {ab : Bool} {col : Option Bool} {dd : Option Addr} {k0 k1 k2 k3 k5 : Option Value} {B newId initId : String}
/-- C(..): the maker, then C's own __init__ -/
theorem call_x (F : ExcBaseFacts B newId initId bm0) (hB : bm.contains (.type B) = true) (hA : bm.contains (.type "AttributeError") = false) (hN : bm.contains (.type "NameError") = false) {us : List Value} {fI : Addr}
    (hC : h.get? C = some (excClassObj nm q C N bs bm hdct sn sub ab col dd k0 k1 k2 k3 k5 newId)) (hi : Looks (model prog w) h (typeLookup (.ref C) "__init__") (some (.ref fI)))
    (hb : ∀ self, Looks (model prog w) h (bindSpecial (.ref fI) self) (.ref fI, [self])) (hz : us.length ≤ sizeLine)
    (go : codeAny (model prog w) (A.under (.builtin "type.__call__" ⟨.ref C :: us, []⟩)) (.call (.ref fI) ⟨.ref (h.objs.size + 1) :: us, []⟩) (InitBack (h.objs.size + 1) R) ⟨(h.push (kdv_tup us)).push (xObj C h.objs.size), g, d, t, os⟩) :
    codeAny (model prog w) A (.call (.ref C) ⟨us, []⟩) R ⟨h, g, d, t, os⟩ := by
  have cB : (Value.ref C :: bm).contains (.type B) = true := by rw [List.contains_cons, hB, Bool.or_true]
  have cA : (Value.ref C :: bm).contains (.type "AttributeError") = false := by rw [List.contains_cons, hA]; rfl
  have cN : (Value.ref C :: bm).contains (.type "NameError") = false := by rw [List.contains_cons, hN]; rfl
  have lk := tc_lookup; have bd := tc_bind (.ref C); have st := F.noStar; have en := F.ends
  have ty : (⟨h, g, d, t, os⟩ : Shared).TypeIs (.ref C) "type" := ⟨_, hC, rfl⟩
  -- what the maker is asked
  have ask : ∀ {A' : Around} {Q : Unit → Shared → Prop} {E : Value → Shared → Prop}, Q () ⟨h, g, d, t, os⟩ → wpAny (model prog w) A' (checkBuiltinCall newId ⟨.ref C :: us, []⟩) Q E ⟨h, g, d, t, os⟩ := fun {A' Q E} y => by
    simp only [checkBuiltinCall, F.newSplit, F.newKind, F.newRow]
    repeat (first | refine wpAny_loadPart_at hC ?_ | (refine wpAny_isSubtype_exc hC ?_; rw [cB]) | refine wpAny_madeBy_exc hC ?_ | refine wpAny_staticBase_exc hC ?_ | simp only [bne_self_eq_false, Bool.false_eq_true, if_false] | wp_step)
    exact y
  -- the maker
  have make : ∀ {A' : Around} {S : Result → Shared → Prop}, S (.ok (.ret (.ref (h.objs.size + 1)))) ⟨(h.push (kdv_tup us)).push (xObj C h.objs.size), g, d, t, os⟩ → codeAny (model prog w) A' (.builtin newId ⟨.ref C :: us, []⟩) S ⟨h, g, d, t, os⟩ := fun {A' S} y => by
    refine PySem.codeAny_builtinAt F.entry ?_; unfold Builtin.«BaseException.__new__»
    refine PySem.wpAt_bind ?_; show PySem.wpAt _ _ _ (stack >>= _) _ _ _
    refine PySem.wpAt_bind (PySem.wpAt_stack fun p below => PySem.wpAt_of_wpAny ?_); wp_walk
    refine PySem.wpAt_of_wpAny ?_; rw [F.owner]
    repeat (first | with_reducible refine wpAny_madeHere_exc F.canon hC ?_ | with_reducible refine wpAny_loadPart_at hC ?_ | (with_reducible refine wpAny_isSubtype_exc hC ?_; first | rw [cB] | rw [cA] | rw [cN]) | wp_step)
    show S _ _; rw [Heap.size_push]; exact y
  have k : ∀ b o, h.get? b = some o → ((h.push (kdv_tup us)).push (xObj C h.objs.size)).get? b = some o := fun b o e => Heap.get?_push_of_some _ (Heap.get?_push_of_some _ e)
  have hC1 := k _ _ hC
  have hx : ((h.push (kdv_tup us)).push (xObj C h.objs.size)).get? (h.objs.size + 1) = some (xObj C h.objs.size) := by heap_get
  have cC : (Value.ref C :: bm).contains (.ref C) = true := by simp
  have i1 := hi.keeps k; have b1 := (hb (.ref (h.objs.size + 1))).keeps k
  refine codeAny_of_tree ?_; show wpAny _ _ (callAny (.ref C) _) _ _ _
  repeat (any_goals (first | assumption | with_reducible refine wpAny_loadPart_at hC ?_ | wp_step))
  refine ⟨rfl, codeAny_call_builtin_at (Code.quiet_builtin _ (by decide +kernel)) entry_typeCall (wpAny_check_type_call_sub hC ?_)⟩
  repeat (first | with_reducible refine wpAny_loadPart_at hC ?_ | with_reducible refine wpAny_madeBy_exc hC ?_ | wp_step)
  refine codeAny_call_builtin_code (Code.quiet_builtin _ F.quiet) (ask (make ?_))
  show wpAny _ _ _ _ _ _
  unfold isInstance
  repeat (first | with_reducible refine wpAny_loadPart_at hx ?_ | (with_reducible refine wpAny_isSubtype_exc hC1 ?_; rw [cC]) | wp_step)
  show wpAny _ _ (typeLookup (.ref C) _) _ _ _
  refine i1.at (wpAny_holding (wpAny_bind (b1.at (wpAny_bind (wpAny_call (codeAny_mono go fun r s' z => ?_))))))
  rcases r with e | (v | _ | _ | _) <;> first | exact z | exact z.elim | skip
  obtain ⟨rfl, z⟩ := z
  first
    | exact wpAny_pure (wpAny_pure z)
    | (wp_walk; exact z)
end
end XC
namespace XC
open PySem.W PySem.Calls PyProof.Rows Builtin Builtin.ObjectAttr
section
variable {prog : Program} {w : World} {A : Around} {R : Result → Shared → Prop} {hp : Heap} {g : Array GenState} {d : Drawn} {t : Nat} {os : OsState}
/-- self.f = v on an error that has no dict as yet -/
theorem osa_x {K : Frag} {f : Str} {tk : Tok} {v : Value} {x C : Addr} {fv : Array Value} {bmB : List Value} {newId : String} (B : Bas bmB newId) (X : K.In hp) (hx : hp.get? x = some { cls := .ref C, data := .fields fv }) (ho : excOver K C bmB = true) (hh : hasDictIn K C = true)
    (ha : findIn K (.ref C) f = some none)
    (go : ∀ h' tk' dx, (∀ b o, b ≠ x → hp.get? b = some o → h'.get? b = some o) → hp.objs.size ≤ dx → dx ≠ x → h'.get? x = some { cls := .ref C, dict := some dx, data := .fields fv } → h'.Ns1 dx (fun y => if y = f then some v else none) → R (.ok (.ret .none)) ⟨h', g, d, tk', os⟩) :
    codeAny (model prog w) A (.call (.builtin "object.__setattr__") ⟨[.ref x, .str f tk, v], []⟩) R ⟨hp, g, d, t, os⟩ := by
  obtain ⟨cd, hcd, hdct⟩ := any_some hh
  obtain ⟨bm, hm, ht⟩ : ∃ bm, cd.mro = .ref C :: bm ∧ excTail bmB bm = true := by
    unfold excOver at ho
    rw [hcd] at ho
    have ho : (match cd.mro with | .ref C' :: bm => C' == C && excTail bmB bm | _ => false) = true := ho
    split at ho
    · rename_i C' bm e
      obtain ⟨h1, h2⟩ := Bool.and_eq_true_iff.mp ho
      rw [beq_iff_eq.mp h1] at e
      exact ⟨bm, e, h2⟩
    · cases ho
  have ob : cd.mro.contains (.type "object") = true := by rw [hm, List.contains_cons, excTail_contains _ _ ht, B.ob, Bool.or_true]
  have ne : cd.mro.isEmpty = false := by rw [hm]; rfl
  have ps : ∀ self, PySem.refuseLoop self "__setattr__" cd.mro = pure () := fun self => excTail_pass self (B.pass self) _ (by rw [hm]; exact ht)
  have I : InstAt hp x { cls := .ref C, data := .fields fv } C none := ⟨hx, rfl, rfl, trivial⟩
  have xs : x ≠ hp.objs.size := Nat.ne_of_lt (Heap.lt_size hx)
  have SF := F.store_object
  have su : Looks (model prog w) hp (isInstance (.ref x) (.type "object")) true := I.type.andThen (looks_mroIn X (by unfold mroIn; rw [hcd, Option.bind_some, if_neg (by rw [ne]; decide), ob]))
  have lm : Looks (model prog w) hp (mroOf (.ref C)) cd.mro := (looks_clsIn X hcd).andThen .now
  have ls : Looks (model prog w) hp (storeTaker? none) none := .now
  have lc : Looks (model prog w) hp (classData C) cd := looks_clsIn X hcd
  refine codeAny_call_builtin SF.slot.plain SF.entry (@check_slot (model prog w) _ _ ⟨hp, g, d, t, os⟩ "object.__setattr__" "object" "__setattr__" (.ref x) [.str f tk, v] [] _ SF.kind SF.split su (SF.args (.ref x) (.str f tk) v) ?_)
  rw [osa_eq, refuse_eq]
  refine wpAny_bind (wpAny_bind (I.type.at (wpAny_bind (lm.at ?_)))); rw [ps]
  refine wpAny_pure (wpAny_bind (I.type.at (wpAny_bind ((looks_findIn X ha).at (wpAny_bind (ls.at ?_)))))); show wpAny _ _ (storeInOwnDict (.ref x) (.ref C) (.str f tk) f v false) _ _ _
  obtain ⟨nm, bs, mro, ns, qn, hd, sn, sb, ab, col, del⟩ := cd
  have hdct : hd = true := hdct
  subst hdct
  unfold storeInOwnDict ownDictForStores
  repeat (first | with_reducible refine HandSPX.store_in_new ?_ ?_ | with_reducible refine wpAny_loadPart_at hx ?_ | with_reducible refine lc.at ?_ | wp_step)
  · exact ⟨_, #[], _, (Heap.get?_update_ne _ _ _ _ xs.symm).trans (Heap.get?_push_at rfl rfl), rfl, fun e he => absurd he (by simp), fun _ => rfl⟩
  · intro h' tk' hn' hs
    have hx1 : (hp.push { cls := .type "dict", data := .dict #[] }).get? x = some { cls := .ref C, data := .fields fv } := Heap.get?_push_of_some _ hx
    exact go h' tk' hp.objs.size (fun b o hb ho => (hs.2 b (Nat.ne_of_lt (Heap.lt_size ho))).trans ((Heap.get?_update_ne _ _ _ _ hb).trans (Heap.get?_push_of_some _ ho))) (Nat.le_refl _) xs.symm ((hs.2 x xs).trans (Heap.get?_update_self _ hx1 rfl)) hn'
end
end XC
/-- what the written part says of an error class -/
structure OexG (K : PySem.W.Frag) (C : Addr) : Prop where
  ex : ∃ (bmB : List Value) (newId : String), XC.Bas bmB newId ∧ PySem.W.excInitIn K C bmB newId = true ∧ PySem.W.excOver K C bmB = true
  hd : PySem.W.hasDictIn K C = true
  sa : PySem.W.findIn K (.ref C) "__setattr__" = some (some (.builtin "object.__setattr__"))
  exC : PySem.W.subIn K (.ref C) (.type "BaseException") = some true
  tyC : PySem.W.typeIn K (.ref C) = some (.type "type")
  kC : PySem.W.keepIn K (.ref C) = true
section
variable {X : Cx} {pins : List (Addr × Obj)} {σ : L2.St} {H : Hp} {s : Shared} {a C : Addr} {f : Str} {y : V} {u : Value} {Q : Unit → Shared → Prop} {E : Value → Shared → Prop} {A : Around}
/-- self.f = y, the first one -/
theorem ostG (T : OexG X.K C) (I : Inv X pins σ H s) (e : H a = some (exo a C none)) (hno : PySem.W.findIn X.K (.ref C) f = some none) (ry : RelV y u)
    (go : ∀ dx s', H dx = none → dx ≠ a → Inv X pins σ (upd (upd H dx (exd dx [(f, y)])) a (exo a C (some dx))) s' → Q () s') : wpAny (model X.prog X.w) A (setAttr (.ref a) f u) Q E s := by
  obtain ⟨bmB, newId, B, _, ov⟩ := T.ex
  obtain ⟨t1, ho⟩ := exo_at I.hok e
  obtain ⟨hp, g, d, t, os⟩ := s
  refine PySem.W.set_plain I.kIn (ox := { cls := .ref C, dict := none, data := .fields #[.ref t1, .none, .none, .none, .bool false, .none] }) (od := none) ⟨ho, rfl, rfl, trivial⟩ T.sa (XC.osa_x B I.kIn ho ov T.hd hno fun h' tk' dx k dn dne hx hn => ?_)
  have hnd : H dx = none := I.hok.fresh dn
  have ndx : ∀ {b : Addr} {o : Obj}, hp.get? b = some o → b ≠ dx := fun {b o} q => Nat.ne_of_lt (Nat.lt_of_lt_of_le (Heap.lt_size q) dn)
  have nea : ∀ {b : Addr}, H b = none → b ≠ a := fun {b} n z => by rw [z, e] at n; cases n
  have U : Un X.fs [] H (upd (upd H dx (exd dx [(f, y)])) a (exo a C (some dx))) hp h' := {
    keep := fun b o q n _ _ => k b o (nea n) q
    slot := fun b o q n _ _ => ⟨o.slots, k b o (nea n) q⟩
    free := fun b o q n _ => (upd_ne (nea n)).trans ((upd_ne (ndx q)).trans n)
    there := fun b o q _ => by
      by_cases hb : b = a
      · exact ⟨_, hb ▸ hx⟩
      · exact ⟨o, k b o hb q⟩
    tups := fun b xs q => (upd_ne (at_ne e q exo_tup)).trans ((upd_ne (ne_of_none q hnd)).trans q)
    frzs := fun b o v q => (upd_ne (at_ne e q exo_frz)).trans ((upd_ne (ne_of_none q hnd)).trans q)
    tbls := fun b ps q => ⟨#[], by rw [upd_ne (at_ne e q exo_tbl), upd_ne (ne_of_none q hnd), q]; simp⟩ }
  refine go dx _ hnd dne (I.un (t' := tk') U fun b o q => ?_)
  by_cases hb : b = a
  · subst hb
    rw [upd_same] at q
    cases q
    exact exo_ok hx
  · rw [upd_ne hb] at q
    by_cases hbd : b = dx
    · subst hbd
      rw [upd_same] at q
      cases q
      refine exd_ok hn fun g => ?_
      rw [lookup_put]
      by_cases hg : g = f
      · rw [if_pos hg, if_pos hg]; exact ry
      · rw [if_neg hg, if_neg hg]; exact trivial
    · rw [upd_ne hbd] at q
      refine (I.hok b o q).stay (fun c v hc z => k c v ?_ z) (fun c hc => (upd_ne (at_ne e hc exo_own)).trans ((upd_ne (ne_of_none hc hnd)).trans hc)) (fun c xs hc => (upd_ne (at_ne e hc exo_tup)).trans ((upd_ne (ne_of_none hc hnd)).trans hc))
      rcases hc with hc | hc
      · rw [hc]; exact hb
      · exact at_ne e hc exo_own
end
/-- self.f = e in an error's __init__ -/
def tOstG (K : PySem.W.Frag) (f : Str) (to te : TE) : TS := fun D σ H => te σ H fun y H1 => to σ H1 fun x H2 => ∃ a C : Addr, x = .ref a ∧ OexG K C ∧ PySem.W.findIn K (.ref C) f = some none ∧ H2 a = some (exo a C none) ∧
  ∀ dx, H2 dx = none → dx ≠ a → D.nx σ (upd (upd H2 dx (exd dx [(f, y)])) a (exo a C (some dx)))
theorem ps_ostG {X : Cx} {o e : Expr} {to te : TE} {f : Str} {p' pos : Pos} (ho : PE X o to) (he : PE X e te) (hs : swapsWith e (some (.Attribute o f p')) pos.line X.env = pure false := by rfl) : PS X (.Assign [.Attribute o f p'] e pos) (tOstG X.K f to te) := by
  refine ⟨fun pins s σ H D I h => plainObj_wpAny_Assign_Attribute (thn (he.run pins s σ H _ I h) fun v s1 ⟨y, H1, I1, r1, q1⟩ => thn (ho.run pins s1 σ H1 _ I1 q1) fun u s2 ⟨x, H2, I2, r2, a, C, ex, T, hno, ea, q⟩ => ?_) hs⟩
  subst ex
  obtain rfl : u = Value.ref a := r2
  exact ostG T I2 ea hno r1 fun dx s' n ne J => ⟨σ, _, J, q dx n ne⟩
/-- what the __init__ of an error class with one field does -/
def spX (C : Addr) (f : Str) : Sp := fun vs H Q _ => ∃ (a : Addr) (v : V), vs = [.ref a, v] ∧ H a = some (exo a C none) ∧ ∀ dx, H dx = none → dx ≠ a → Q .non (upd (upd H dx (exd dx [(f, v)])) a (exo a C (some dx)))
/-- an error class under its name -/
structure HasX (P : Program) (w : World) (K : PySem.W.Frag) (mg : Str → Option Value) (base : Heap) (k : Nat) (x : Str) (C : Addr) (f : Str) : Prop where
  ex : ∃ (fI : Addr) (fd : FuncData) (ps : List Str), OexG K C ∧ PySem.W.findIn K (.ref C) "__init__" = some (some (.ref fI)) ∧ PySem.W.typeIn K (.ref fI) = some (.type "function") ∧ FnOk P w K mg base CX0 k fI fd ps (spX C f) ∧ mg x = some (.ref C) ∧ Binds K fd ps []
/-- C(e), to be raised -/
def tMkX (C : Addr) (f : Str) (ta : TA) : L2.St → Hp → XK → Prop := fun σ H Q => ta σ H fun vs H1 => ∃ v, vs = [v] ∧ ∀ d, H1 d = none → Q (.ref C) (some d) (upd H1 d (.xd [(f, v)]))
theorem pmk_x {X : Cx} {x : Str} {C : Addr} {f : Str} {k : Nat} {e : Expr} {ta : TA} {p pos : Pos} (T : HasX X.prog X.w X.K X.mg X.base k x C f) (hr : Room (k + 1) X.A) (hg : Gl X x) (ha : PA X [e] ta)
    (hdb : (x == ("__debug__" : Str)) = false := by decide) (he : starEach [e] X.env = (false, eval e X.env) :: starEach [] X.env := by rfl) : L2N.PMk X (.Call (.Name x p) [e] [] pos) (tMkX C f ta) := by
  intro pins s σ H Q I h
  obtain ⟨fI, fd, ps, T, iC, tI, F1, hm, hb⟩ := T.ex
  obtain ⟨bmB, newId, B, hini, ov⟩ := T.ex
  refine wpAny_Call_Name_kw (ld_glob I hg hm ?_ hdb)
  refine PySem.W.callWith_K (h₀ := X.base) I.ok.mod.kin T.kC (thn (ha.run pos pins s σ H _ I h) fun us s1 ⟨vs, H1, I1, r1, v, ev, q1⟩ => ⟨I1.kIn, ?_⟩) he rfl
  subst ev
  cases r1 with
  | @cons _ u _ ur ru rn =>
    cases rn
    show wpAny _ _ (call (.ref C) [u]) _ _ _
    obtain ⟨hp, g, dr, tk, os⟩ := s1
    obtain ⟨nm, N, qn, bs, bm, hdct, sn, sub, ab, col, dd, k0, k1, k2, k3, k5, hC, hT⟩ := PySem.W.excInit_of I1.kIn hini
    obtain ⟨B0, i0, bm0, FB, cB⟩ := B.ex
    have hn : H1 (hp.objs.size + 1) = none := I1.hok.fresh (Nat.le_succ _)
    have kk : ∀ b o, hp.get? b = some o → ((hp.push (PySem.W.kdv_tup [u])).push (XC.xObj C hp.objs.size)).get? b = some o := fun b o z => Heap.get?_push_of_some _ (Heap.get?_push_of_some _ z)
    have hget : ((hp.push (PySem.W.kdv_tup [u])).push (XC.xObj C hp.objs.size)).get? (hp.objs.size + 1) = some (XC.xObj C hp.objs.size) := by heap_get
    have I2 : Inv X pins σ (upd H1 (hp.objs.size + 1) (exo (hp.objs.size + 1) C none)) ⟨(hp.push (PySem.W.kdv_tup [u])).push (XC.xObj C hp.objs.size), g, dr, tk, os⟩ :=
      I1.laid (t' := tk) (a := hp.objs.size + 1) (o := exo (hp.objs.size + 1) C none) kk (Nat.le_succ _) (exo_ok hget)
    have r2 : Vals [V.ref (hp.objs.size + 1), v] [Value.ref (hp.objs.size + 1), u] := .cons rfl (.cons ru .nil)
    have hq : spX C f [.ref (hp.objs.size + 1), v] (upd H1 (hp.objs.size + 1) (exo (hp.objs.size + 1) C none)) (fun r H2 => r = .non ∧ ∃ d, H1 d = none ∧ d ≠ hp.objs.size + 1 ∧ H2 = upd (upd (upd H1 (hp.objs.size + 1) (exo (hp.objs.size + 1) C none)) d (exd d [(f, v)])) (hp.objs.size + 1) (exo (hp.objs.size + 1) C (some d))) (fun _ _ _ => False) :=
      ⟨_, _, rfl, upd_same, fun dx z ne => ⟨rfl, dx, by rw [upd_ne ne] at z; exact z, ne, rfl⟩⟩
    have hl : ([Value.ref (hp.objs.size + 1), u] ++ []).length = ps.length := by
      rw [List.append_nil, ← F1.len _ _ _ _ hq, ← r2.length]
    have b2 := hb _ [Value.ref (hp.objs.size + 1), u] I2.kIn hl
    rw [List.append_nil] at b2
    refine wpAny_call (XC.call_x FB (by rw [hT]; exact cB) (by rw [hT]; exact B.noA) (by rw [hT]; exact B.noN) hC (PySem.W.looks_findIn I1.kIn iC) (fun self => PySem.W.bind_fn I1.kIn self tI) (by show 1 ≤ sizeLine; rw [sizeLine_eq]; omega)
      (codeAny_mono (F1.run _ X.stack _ _ ⟨[Value.ref (hp.objs.size + 1), u], []⟩ [Value.ref (hp.objs.size + 1), u] _ _ (fun _ _ _ => False) (hr.make C [u] []) (I2.env0.make C [u] []) b2 r2 hq) fun r s' hq' => ?_))
    cases r with
    | error er => exact hq'.elim
    | ok fl =>
      cases fl with
      | ret y =>
        obtain ⟨v2, H2, os2, bare2, un2, hok2, rv, ev, d, hd1, dne, eH⟩ := hq'
        subst ev
        obtain ⟨h2, g2, d2, t2, os'⟩ := s'
        obtain ⟨t0, G, J, kG, ge, hoe, na⟩ := mk_end0 (d2 := d2) (t2 := t2) (fs := [(f, v)]) I1 (Nat.le_succ _) kk un2 hok2 os2 bare2 (by rw [eH, upd_same]) (by rw [eH, upd_ne dne, upd_same]) hd1
        have eq : upd (del H2 (hp.objs.size + 1)) d (.xd [(f, v)]) = upd H1 d (.xd [(f, v)]) := by
          funext b
          by_cases hbd : b = d
          · rw [hbd, upd_same, upd_same]
          · rw [upd_ne hbd, upd_ne hbd]
            by_cases hba : b = hp.objs.size + 1
            · rw [hba, del_same, hn]
            · rw [del_ne hba, eH, upd_ne hba, upd_ne hbd, upd_ne hba]
        rw [eq] at J na
        exact ⟨rv, ⟨hp.objs.size + 1, _, _, ⟨G, g2, d2, t2, os'⟩, _, .ref C, some d, rfl, J, kG, ge, hoe, ⟨rfl, rfl, fun vs hv => by cases hv; rfl⟩, rfl, rfl, na, rfl, bare2, raises_own T.exC T.tyC, q1 d hd1⟩⟩
      | next => exact hq'.elim
      | brk => exact hq'.elim
      | cont => exact hq'.elim

/-! ### try with several clauses, each with a class or a tuple of classes, with or without a name -/
namespace TX
open PySem.W PySem.Calls PyProof.Rows
section
variable {M : Model} {h : Heap} {K : Frag}
theorem look_each {α : Type} {f : α → PUnit → Sem (ForInStep PUnit)} : ∀ {cs : List α}, (∀ c ∈ cs, Looks M h (f c ⟨⟩) (.yield ⟨⟩)) → Looks M h (forIn cs PUnit.unit f) ⟨⟩
  | [], _ => fun A Q E s k q => wpAny_pure q
  | c :: r, hf => by
    rw [List.forIn_cons]
    exact (hf c List.mem_cons_self).andThen (look_each fun d hd => hf d (List.mem_cons_of_mem _ hd))
theorem look_first {α β : Type} {f : α → β → Sem (ForInStep β)} {b0 bd : β} {p : α → Bool} : ∀ {cs : List α}, (∀ c ∈ cs, Looks M h (f c b0) (if p c = true then .done bd else .yield b0)) → Looks M h (forIn cs b0 f) (if cs.any p = true then bd else b0)
  | [], _ => fun A Q E s k q => wpAny_pure q
  | c :: r, hf => by
    rw [List.forIn_cons, List.any_cons]
    have h1 := hf c List.mem_cons_self
    cases hp : p c with
    | true =>
      rw [hp, if_pos rfl] at h1
      rw [Bool.true_or, if_pos rfl]
      exact h1.andThen fun A Q E s k q => wpAny_pure q
    | false =>
      rw [hp, if_neg Bool.false_ne_true] at h1
      rw [Bool.false_or]
      exact h1.andThen (look_first fun d hd => hf d (List.mem_cons_of_mem _ hd))
theorem exmAny_all {cls : Value} : ∀ {cs : List Value} {b : Bool}, exmAny K cls cs = some b → (∀ c ∈ cs, exmOne K cls c = some ((exmOne K cls c).getD false)) ∧ b = cs.any fun c => (exmOne K cls c).getD false
  | [], b, e => ⟨fun c hc => (by cases hc), (Option.some.inj (show some false = some b from e)).symm⟩
  | c :: r, b, e => by
    obtain ⟨b1, d1, x1, y1, z1⟩ := exmAny_cons e
    obtain ⟨i1, i2⟩ := exmAny_all y1
    refine ⟨fun d hd => ?_, ?_⟩
    · rcases List.mem_cons.mp hd with rfl | hd
      · rw [x1]; rfl
      · exact i1 d hd
    · rw [List.any_cons, x1, ← i2]; exact z1
/-- the clause's tuple of classes -/
theorem exm_tupN {cls : Value} {tp e : Addr} {cs : List Value} {b : Bool} (X : K.In h) (LT : Looks M h (typeOf (.ref e)) cls) (hp : h.get? tp = some { cls := .type "tuple", data := .seq cs.toArray }) (hx : exmAny K cls cs = some b) : Looks M h (excMatches (.ref e) (.ref tp)) b := by
  obtain ⟨h1, h2⟩ := exmAny_all hx
  have tt : Looks M h (isInstance (.ref tp) (.type "tuple")) true := ((Looks.ld hp).andThen .now).andThen (Looks.of_pure isSubtype_tuple_tuple)
  intro A Q E s k q
  unfold excMatches
  refine wpAny_bind ((tt.keeps k).here ?_)
  rw [if_pos rfl]
  first
    | refine wpAny_bind (wpAny_seqItems (k _ _ hp) rfl ?_)
    | refine wpAny_bind (wpAny_bind (wpAny_seqItems (k _ _ hp) rfl (wpAny_pure ?_)))
  dsimp only [Option.getD_some, Option.getD]
  refine wpAny_bind (wpAny_pure ?_)
  refine wpAny_bind ((look_each (h := h) (cs := cs) fun c hc => ?_) _ _ _ _ k ?_)
  · intro A' Q' E' s' k' q'
    refine wpAny_bind ((((exm_cls (M := M) X (h1 c hc)).1).keeps k').here ?_)
    simp only [Bool.not_true, Bool.false_eq_true, if_false]
    exact wpAny_pure q'
  · refine wpAny_bind ((LT.keeps k).here ?_)
    refine wpAny_bind ((look_first (h := h) (p := fun c => (exmOne K cls c).getD false) (bd := (some true, ())) (cs := cs) fun c hc => ?_) _ _ _ _ k ?_)
    · intro A' Q' E' s' k' q'
      refine wpAny_bind ((((exm_cls (M := M) X (h1 c hc)).2).keeps k').here ?_)
      cases hv : (exmOne K cls c).getD false with
      | true => rw [hv, if_pos rfl] at q'; rw [if_pos rfl]; exact wpAny_pure q'
      | false => rw [hv, if_neg Bool.false_ne_true] at q'; rw [if_neg Bool.false_ne_true]; exact wpAny_pure q'
    · rw [← h2]
      cases b with
      | true => rw [if_pos rfl]; exact wpAny_pure q
      | false => rw [if_neg Bool.false_ne_true]; exact wpAny_pure q
end
end TX
/-- own classes under these names -/
inductive NamesAll (X : Cx) : List Expr → List Value → Prop
  | nil : NamesAll X [] []
  | cons {x : Str} {p : Pos} {c : Value} {es : List Expr} {cs : List Value} (h : Names X x c) (r : NamesAll X es cs) : NamesAll X (.Name x p :: es) (c :: cs)
/-- what an except clause tests -/
inductive Tst (X : Cx) : Expr → List Value → Prop
  | one {x : Str} {p : Pos} {c : Value} (h : Names X x c) : Tst X (.Name x p) [c]
  | tup {es : List Expr} {cs : List Value} {k : Nat} {p : Pos} (h : NamesAll X es cs) (hl : cs.length ≤ 100) : Tst X (.Tuple es k p) cs
section
variable {X : Cx} {a : Addr} {pn : List (Addr × Obj)} {σ : L2.St} {H : Hp} {s : Shared}
theorem name_test {x : Str} {c : Value} {p : Pos} (h : Names X x c) (I : Inv (X.suite a pn) [] σ H s) {Q : Value → Shared → Prop} {E : Value → Shared → Prop} (q : Q c s) : wpAny (model X.prog X.w) (X.A.mark (some (.ref a))) (eval (.Name x p) X.env) Q E s := by
  obtain ⟨hg, hd, hm | ⟨hm, hv, hn⟩⟩ := h
  · exact ld_glob (X := X.suite a pn) I hg hm q hd
  · exact ld_blt (X := X.suite a pn) I hg hm hv q hn hd
theorem names_test {es : List Expr} {cs : List Value} {pos : Pos} (h : NamesAll X es cs) (I : Inv (X.suite a pn) [] σ H s) : ∀ {Q : List Value → Shared → Prop} {E : Value → Shared → Prop}, Q cs s → wpAny (model X.prog X.w) (X.A.mark (some (.ref a))) (spliced (backTo pos (starEach es X.env))) Q E s := by
  induction h with
  | nil => exact fun q => wpAny_pure q
  | cons h r ih => exact fun q => wpAny_items_cons (name_test h I (ih q))
theorem Tst.run {t : Expr} {cs : List Value} {cls : Value} {b : Bool} (T : Tst X t cs) (I : Inv (X.suite a pn) [] σ H s) (LT : PySem.W.Looks (model X.prog X.w) s.heap (typeOf (.ref a)) cls) (hx : PySem.W.exmAny X.K cls cs = some b) {Q : Bool → Shared → Prop} {E : Value → Shared → Prop}
    (q : ∀ h', (∀ b o, s.heap.get? b = some o → h'.get? b = some o) → Q b { s with heap := h' }) :
    wpAny (model X.prog X.w) (X.A.mark (some (.ref a))) (eval t X.env) (fun c s1 => wpAny (model X.prog X.w) (X.A.mark (some (.ref a))) (excMatches (.ref a) c) Q E s1) E s := by
  cases T with
  | one h =>
    obtain ⟨b1, d1, x1, y1, z1⟩ := PySem.W.exmAny_cons hx
    have e : d1 = false := (Option.some.inj (show some false = some d1 from y1)).symm
    subst e
    rw [Bool.or_false] at z1
    subst z1
    exact name_test h I ((PySem.W.exm_one (M := model X.prog X.w) I.kIn LT x1).here (q _ fun _ _ z => z))
  | tup h hl =>
    refine wpAny_Tuple_spliced (names_test h I ⟨by rw [sizeLine_eq]; omega, ?_⟩)
    have k : ∀ b o, s.heap.get? b = some o → (s.heap.push { cls := .type "tuple", data := .seq cs.toArray }).get? b = some o := fun b o z => Heap.get?_push_of_some _ z
    exact (TX.exm_tupN (I.kIn.keeps k) (LT.keeps k) (Heap.get?_push_size _ rfl) hx).here (q _ k)
end
/-- the suite of a clause, for any error that it takes -/
abbrev SuOk (X : Cx) (suite : List Stmt) (ts : Addr → Value → Option Addr → TS) : Prop :=
  ∀ (a : Addr) (oe : Obj) (cls : Value) (d : Option Addr) (pn : List (Addr × Obj)), L2N.Zn cls d oe → (∃ vs, oe.data = .fields vs) → PSs (X.suite a ((a, oe) :: pn)) suite (ts a cls d)
inductive HdX (X : Cx) : List ExceptHandler → List (List Value × Option Nat × (Addr → Value → Option Addr → TS)) → Prop
  | nil : HdX X [] []
  | only {t : Expr} {cs : List Value} {ts : Addr → Value → Option Addr → TS} {b₀ : Stmt} {suite : List Stmt} {pos' : Pos} {hds : List ExceptHandler} {l : List (List Value × Option Nat × (Addr → Value → Option Addr → TS))} (ht : Tst X t cs) (hsu : SuOk X (b₀ :: suite) ts) (r : HdX X hds l) :
      HdX X (.ExceptHandler (some t) none (b₀ :: suite) pos' :: hds) ((cs, none, ts) :: l)
  | named {t : Expr} {n : Str} {i : Nat} {cs : List Value} {ts : Addr → Value → Option Addr → TS} {b₀ : Stmt} {suite : List Stmt} {pos' : Pos} {hds : List ExceptHandler} {l : List (List Value × Option Nat × (Addr → Value → Option Addr → TS))} (ht : Tst X t cs)
      (hi : X.N[i]? = some n) (hln : X.env.kindOf n = some .local) (hsu : SuOk X (b₀ :: suite) ts) (r : HdX X hds l) : HdX X (.ExceptHandler (some t) (some n) (b₀ :: suite) pos' :: hds) ((cs, some i, ts) :: l)
/-- a slot that is emptied behind the suite -/
def Ends.less (D : Ends) (i : Nat) : Ends := { nx := fun σ H => D.nx (σ.set i none) H, rt := D.rt, bk := fun σ H => D.bk (σ.set i none) H, ct := fun σ H => D.ct (σ.set i none) H }
/-- what the clauses wish of an error of the body -/
def wX (K : PySem.W.Frag) (Wout : WX) (D : Ends) : List (List Value × Option Nat × (Addr → Value → Option Addr → TS)) → WX
  | [] => Wout
  | (cs, none, ts) :: r => fun cls d σ H => ∃ b, PySem.W.exmAny K cls cs = some b ∧ (b = true → ∀ a, H a = none → ts a cls d D σ H) ∧ (b = false → wX K Wout D r cls d σ H)
  | (cs, some i, ts) :: r => fun cls d σ H => ∃ b, PySem.W.exmAny K cls cs = some b ∧ (b = true → ∀ a, H a = none → ts a cls d (Ends.less D i) (σ.set i (some (.ref a))) H) ∧ (b = false → wX K Wout D r cls d σ H)
theorem flying_keeps {B h h' : Heap} {l : List Env} {a : Addr} {Z : Obj → Prop} (k : ∀ b o, h.get? b = some o → h'.get? b = some o) (x : HandSPX.FlyingZ B l a Z h) : HandSPX.FlyingZ B l a Z h' := by
  obtain ⟨k1, k2, k3, oe, vs, T, oT, ts, he, hz, hd, h1, hT0, hne, hT, hdT, h3⟩ := x
  exact ⟨fun b o z => k b o (k1 b o z), k2, k3.of_keeps fun b o z _ => ⟨o, k b o z, rfl⟩, oe, vs, T, oT, ts, k _ _ he, hz, hd, h1, hT0, hne, k _ _ hT, hdT, h3⟩
theorem up_keeps {h h' : Heap} (k : ∀ b o, h.get? b = some o → h'.get? b = some o) : h.UpToSlots h' := fun b o z _ => ⟨o.slots, k b o z⟩
section
variable {X : Cx} {body : List Stmt} {h₀ : ExceptHandler} {hds : List ExceptHandler} {l : List (List Value × Option Nat × (Addr → Value → Option Addr → TS))} {pos : Pos} {tb : WX → TS} {Wout : WX}
/-- the clauses, one after the other, at an error that has landed -/
theorem clauses (hs : X.stack = X.env :: X.outer) (hf : X.env.frame = some X.env.locals) (hN : X.N.Nodup) (tk : L2N.Takes X Wout) {pins : List (Addr × Obj)} {σ : L2.St} {H : Hp} {sI : Shared} {a : Addr} {B : Heap} {cls : Value} {d : Option Addr} {D : Ends}
    (J : Inv X pins σ H sI) (nb : ∀ b o, sI.heap.get? b = some o → b ∉ frs X.stack → B.get? b = some o) (na : H a = none) (hh : HdX X hds l) : wX X.K Wout D l cls d σ H →
    ∀ s : Shared, HandSPX.FlyingZ B (X.env :: X.outer) a (L2N.Zn cls d) s.heap → sI.heap.UpToSlots s.heap → s.os = sI.os → PyProof.Rows.AllBare s.gens → wpAny (model X.prog X.w) X.A (handleBy (.ref a) X.env hds) (SP X pins D) X.xe s := by
  have ok := J.ok
  have land : ∀ {h : Heap} {s : Shared}, HandSPX.FlyingZ B (X.env :: X.outer) a (L2N.Zn cls d) h → sI.heap.UpToSlots h → s.os = sI.os → PyProof.Rows.AllBare s.gens → Inv X pins σ H { s with heap := h } := fun {h s} fl up os ag => J.landed (s' := { s with heap := h }) nb fl.1 up os ag
  have suit : ∀ {h : Heap} {s : Shared}, HandSPX.FlyingZ B (X.env :: X.outer) a (L2N.Zn cls d) h → sI.heap.UpToSlots h → s.os = sI.os → PyProof.Rows.AllBare s.gens →
      ∃ oe, L2N.Zn cls d oe ∧ (∃ vs, oe.data = .fields vs) ∧ h.get? a = some oe ∧ Inv (X.suite a ((a, oe) :: (X.pn ++ pins))) [] σ H { s with heap := h } := fun {h s} fl up os ag => by
    obtain ⟨oe, vs, he, hz, hd⟩ := fl.there
    have nfr : a ∉ frs (X.env :: X.outer) := fun hm => by
      obtain ⟨_, o', e', hnf⟩ := fl.2.2.1.mem hm
      rw [he] at e'; cases e'
      exact hnf _ hd
    have nL : a ≠ X.env.locals := fun z => nfr (List.mem_filterMap.mpr ⟨X.env, List.mem_cons_self, by rw [hf, z]⟩)
    have nF : a ∉ X.fs := fun hm => by
      obtain ⟨e, he, q⟩ := List.mem_filterMap.mp hm
      exact nfr (List.mem_filterMap.mpr ⟨e, List.mem_cons_of_mem _ he, q⟩)
    exact ⟨oe, hz, ⟨vs, hd⟩, he, (land fl up os ag).suite he hd na nL nF⟩
  induction hh with
  | nil =>
    intro w s fl up os ag
    refine wpAny_handleBy_nil ?_
    obtain ⟨k1, k2, k3, oe, vs, T, oT, ts', he, hz, hd, h1, hr⟩ := id fl
    unfold PySem.passOn
    refine wpAny_bind (wpAny_field he hd h1 ?_); rw [if_neg (show ¬ ((Value.ref T == Value.none) = true) from by simp)]
    have last : wpAny (model X.prog X.w) X.A (setFlight (.ref a) X.env.frame) (fun _ s4 => wpAny (model X.prog X.w) X.A (throw (.ref a) : Sem Flow) (SP X pins D) X.xe s4) X.xe s := by
      rw [hf]
      exact HandSPX.setFlight_upZ fl fun h4 hh4 up4 => wpAny_throw (tk _ _ ⟨a, B, sI, pins, σ, H, cls, d, rfl, J, nb, up.trans up4, .inr (.inr (by rw [hs]; exact hh4)), na, os, ag, w⟩)
    first
      | exact wpAny_bind (wpAny_pure (wpAny_bind last))
      | exact wpAny_bind last
  | @only t cs ts b₀ suite pos' hds2 l2 ht hsu r ih =>
    rintro ⟨b, hb1, yes, no⟩ s fl up os ag
    obtain ⟨oe, hz, hd, he, S⟩ := suit (s := s) fl up os ag
    have LT : PySem.W.Looks (model X.prog X.w) s.heap (typeOf (.ref a)) cls := fun A Q E s' k q => wpAny_typeOf_ref (k _ _ he) (by rw [hz.1]; exact q)
    refine wpAny_handleBy_cons (codeAny_handlers_test (ht.run S LT hb1 fun h1 k => ?_)) (by intro q; cases q)
    have fl1 := flying_keeps k fl; have up1 := up.trans (up_keeps k)
    cases b with
    | false => exact ih (no rfl) { s with heap := h1 } fl1 up1 os ag
    | true =>
      refine codeAny_handlers_suite (HandSPX.lands_againZ (s := { s with heap := h1 }) fl1 fun h4 fl4 up4 => ?_)
      obtain ⟨oe4, hz4, hd4, he4, S4⟩ := suit (s := s) fl4 (up1.trans up4) os ag
      refine wpAny_mono ((hsu a oe4 cls d (X.pn ++ pins) hz4 hd4).run [] _ _ H _ S4 (yes rfl a na)) (fun f s6 hsp => ?_) (fun _ _ z => False.elim z)
      cases f with
      | ret u => obtain ⟨v6, σ6, H6, S6, r6, q6⟩ := hsp; exact ⟨_, _, _, S6.unsuite ok, r6, q6⟩
      | next => obtain ⟨σ6, H6, S6, q6⟩ := hsp; exact ⟨_, _, S6.unsuite ok, q6⟩
      | brk => obtain ⟨σ6, H6, S6, q6⟩ := hsp; exact ⟨_, _, S6.unsuite ok, q6⟩
      | cont => obtain ⟨σ6, H6, S6, q6⟩ := hsp; exact ⟨_, _, S6.unsuite ok, q6⟩
  | @named t n i cs ts b₀ suite pos' hds2 l2 ht hi hln hsu r ih =>
    rintro ⟨b, hb1, yes, no⟩ s fl up os ag
    obtain ⟨oe, hz, hd, he, S⟩ := suit (s := s) fl up os ag
    have LT : PySem.W.Looks (model X.prog X.w) s.heap (typeOf (.ref a)) cls := fun A Q E s' k q => wpAny_typeOf_ref (k _ _ he) (by rw [hz.1]; exact q)
    refine wpAny_handleBy_cons (codeAny_handlers_test (ht.run S LT hb1 fun h1 k => ?_)) (by intro q; cases q)
    have fl1 := flying_keeps k fl; have up1 := up.trans (up_keeps k)
    cases b with
    | false => exact ih (no rfl) { s with heap := h1 } fl1 up1 os ag
    | true =>
      refine codeAny_handlers_suite_as (HandSPX.lands_againZ (s := { s with heap := h1 }) fl1 fun h4 fl4 up4 => ?_)
      obtain ⟨oe4, hz4, hd4, he4, S4⟩ := suit (s := s) fl4 (up1.trans up4) os ag
      refine store_ok (X := X.suite a ((a, oe4) :: (X.pn ++ pins))) (v := .ref a) S4 hN hi (.inl hln) rfl (fun s5 S5 => ?_) (.inr hln)
      refine wpAny_mono ((hsu a oe4 cls d (X.pn ++ pins) hz4 hd4).run [] s5 _ H _ S5 (yes rfl a na)) (fun f s6 hsp => ?_) (fun _ _ z => False.elim z)
      have back : ∀ {σ6 : L2.St} {H6 : Hp} {Q : Shared → Prop}, Inv (X.suite a ((a, oe4) :: (X.pn ++ pins))) [] σ6 H6 s6 → (∀ s7, Inv X pins (σ6.set i none) H6 s7 → Q s7) → wpAny (model X.prog X.w) X.A (do bindName X.env n .none; unbindBehindTheSuite X.env n pos') (fun _ s7 => Q s7) X.xe s6 :=
        fun {σ6 H6 Q} S6 hq => gone_ok (S6.unsuite ok) hN hi hln hq
      cases f with
      | ret u => obtain ⟨v6, σ6, H6, S6, r6, q6⟩ := hsp; exact back S6 fun s7 J7 => ⟨_, _, _, J7, r6, q6⟩
      | next => obtain ⟨σ6, H6, S6, q6⟩ := hsp; exact back S6 fun s7 J7 => ⟨_, _, J7, q6⟩
      | brk => obtain ⟨σ6, H6, S6, q6⟩ := hsp; exact back S6 fun s7 J7 => ⟨_, _, J7, q6⟩
      | cont => obtain ⟨σ6, H6, S6, q6⟩ := hsp; exact back S6 fun s7 J7 => ⟨_, _, J7, q6⟩
theorem ps_tryX (hs : X.stack = X.env :: X.outer) (hf : X.env.frame = some X.env.locals) (hN : X.N.Nodup) (tk : L2N.Takes X Wout)
    (hb : ∀ (W : WX) (pn : List (Addr × Obj)) (xe : Value → Shared → Prop), L2N.Takes (X.tr pn xe) W → PassesOwn (model X.prog X.w) X.A X.env xe → PSs (X.tr pn xe) body (tb W))
    (hh : HdX X (h₀ :: hds) l) : PS X (.Try body (h₀ :: hds) [] [] pos) (fun D σ H => tb (wX X.K Wout D l) D σ H) := by
  refine ⟨fun pins s σ H D I h => wpAny_Try_except ?_⟩
  have ok := I.ok
  have hfr : X.A.frames = some (X.env :: X.outer) := by rw [ok.frames, hs]
  refine wpAny_mono ((hb (wX X.K Wout D l) (X.pn ++ pins) (fun e s1 => wpAny (model X.prog X.w) X.A (noteFrame e X.env) (fun _ s2 => wpAny (model X.prog X.w) X.A (setFlight e none) (fun _ s3 =>
    wpAny (model X.prog X.w) X.A (handleBy e X.env (h₀ :: hds)) (SP X pins D) X.xe s3) X.xe s2) X.xe s1) (fun u s' xx => ?_) PassesOwn.looking).run [] s σ H D (I.toTry _) h) (fun f s1 hsp => ?_) (fun e s1 he => he)
  · obtain ⟨a, B, sI, pins', σ', H', cls, d, rfl, J', nb, up, sky, na, os, ag, w⟩ := xx
    exact L2N.Sky.land L2N.Zn.steady hfr hf (by rw [← hs]; exact sky) fun h3 fl3 up3 => clauses hs hf hN tk (J'.ofTry ok) nb na hh w { s' with heap := h3 } fl3 (up.trans up3) os ag
  · cases f with
    | ret u => obtain ⟨v, σ', H', J', r, q⟩ := hsp; exact ⟨v, σ', H', J'.ofTry ok, r, q⟩
    | next => obtain ⟨σ', H', J', q⟩ := hsp; exact wpAny_execs_nil ⟨σ', H', J'.ofTry ok, q⟩
    | brk => obtain ⟨σ', H', J', q⟩ := hsp; exact ⟨σ', H', J'.ofTry ok, q⟩
    | cont => obtain ⟨σ', H', J', q⟩ := hsp; exact ⟨σ', H', J'.ofTry ok, q⟩
end

/-! ### isinstance of an error that is pinned, its dict tracked -/
namespace TX
open PySem.W PySem.Calls PyProof.Rows
section
variable {prog : Program} {w : World} {A : Around} {E : Value → Shared → Prop} {s : Shared} {K : Frag} {x D : Addr} {ox od : Obj}
theorem class_x {Q : Option Value → Shared → Prop} (C : ExcC K D) (X : K.In s.heap) (I : InstAt s.heap x ox D (some od)) (go : Q (some (.ref D)) { s with toks := s.toks + 1 }) : wpAny (model prog w) A (getAttr? (.ref x) "__class__") Q E s := by
  have hf : findObj K D (some od) "__class__" = some (.bind (.builtin "getset_descriptor.__get__") (.builtin "object.__class__")) := by
    obtain ⟨cd, hc, _⟩ := any_some C.hd
    unfold findObj
    rw [hc, Option.bind_some, C.ha, Option.bind_some]
    simp [C.hn, C.ht]
  obtain ⟨hp, g, d, t, os⟩ := s
  have L0 := I.type (M := model prog w); have L1 := looks_findIn (M := model prog w) X C.hg; have L2 := looks_findIn (M := model prog w) X C.hk; have L3 := looks_find (M := model prog w) X I hf
  have sub : Looks (model prog w) hp (isInstance (.ref x) (.type "BaseException")) true := L0.andThen (looks_subIn X C.hs)
  have n0 : (false && onTheHeap (Value.builtin "BaseException.__getattribute__")) = false := rfl
  have n2 : (Value.builtin "BaseException.__getattribute__" == Value.builtin "object.__getattribute__") = false := by decide +kernel
  have n1 : (onTheHeap (Value.ref D) && Value.builtin "BaseException.__getattribute__" == Value.builtin "object.__getattribute__") = false := by rw [n2]; rfl
  unfold getAttr? getAttrBy? getAttrBy
  refine wpAny_bind (wpAny_mkText (wpAny_bind (wpAny_attempt (wpAny_holding (wpAny_bind (L0.at (wpAny_bind (L1.at ?_)))))))); show wpAny _ _ (if (onTheHeap (Value.ref D) && Value.builtin "BaseException.__getattribute__" == Value.builtin "object.__getattribute__") = true then _ else _) _ _ _
  rw [n1, if_neg Bool.false_ne_true]; unfold getAttrByItsOwn hookBefore
  refine wpAny_bind ?_; rw [if_pos (show onTheHeap (Value.ref D) = true from rfl)]
  refine L2.at (wpAny_bind (wpAny_attempt (wpAny_holding ?_))); unfold callGetattribute
  rw [n0, if_neg Bool.false_ne_true]; unfold boundAndCalled; rw [PySem.F.excAttr_ValueError.ga.bind (.ref x)]
  refine wpAny_bind (wpAny_pure ?_); show wpAny _ _ (call (.builtin "BaseException.__getattribute__") [.ref x, .str "__class__" t]) _ _ _
  refine wpAny_call (codeAny_call_builtin PySem.F.excAttr_ValueError.ga.plain PySem.F.entry_bexc_ga (@check_slot (model prog w) _ _ ⟨hp, g, d, t + 1, os⟩ "BaseException.__getattribute__" "BaseException" "__getattribute__" (.ref x) [.str "__class__" t] [] _ (by decide +kernel) (by decide +kernel) sub (PySem.F.args_bexc_ga (.ref x) (.str "__class__" t)) ?_))
  unfold Builtin.«object.__getattribute__»
  refine wpAny_bind (wpAny_of_eq (a := ((Value.ref x : Value), [Value.str "__class__" t])) (by first | rfl | (simp only [slotArgs]; rfl)) (wpAny_bind (wpAny_pure (wpAny_bind (L0.at (wpAny_bind (L3.at ?_)))))))
  show wpAny _ _ (holding [Value.builtin "object.__class__"] (call (.builtin "getset_descriptor.__get__") [.builtin "object.__class__", .ref x, .ref D]) >>= ret) _ _ _
  refine wpAny_bind (wpAny_holding (wpAny_call (class_get (s := ⟨hp, g, d, t + 1, os⟩) X I C.hm (wpAny_pure ?_)))); show wpAny _ _ (handedOut (.ref D)) _ _ _
  rw [handedOut_of (v := .ref D) rfl]
  first
    | exact wpAny_pure (wpAny_pure go)
    | exact wpAny_pure go
    | exact wpAny_pure (wpAny_bind (wpAny_pure (wpAny_pure go)))
theorem kitx_x (C : ExcC K D) : KitX K (.ref x) (.ref D) (fun h => InstAt h x ox D (some od)) := by
  obtain ⟨cd, hc, _⟩ := any_some C.hd
  have hc2 := hc
  unfold clsIn at hc
  split at hc
  · rename_i c' d' cd' sl' ho
    refine ⟨fun _ _ _ I => I.type, fun _ _ X _ => ?_, fun h tp dd its n sl X htp => Bool.eq_false_iff.mpr fun q => ?_, fun X I k => class_x C X I k⟩
    · intro A' Q' E' s' k q
      unfold isType loadHead
      exact wpAny_bind (wpAny_loadPart (k _ _ (X _ _ ho)) (wpAny_pure q))
    · have e : D = tp := Value.ref.inj (beq_iff_eq.mp q)
      subst e
      have z := (X _ _ ho).symm.trans htp
      cases z
  · cases hc
end
end TX
/-- isinstance(e, c), e a pinned error of the class at D with its dict at dd -/
def rIsX (K : PySem.W.Frag) (D a dd : Addr) : List V → Hp → VK → Prop := fun xs H Q => ∃ (c : V) (cv : Value) (b : Bool) (fs : List (Str × V)), xs = [.ref a, c] ∧ (∀ u, RelV c u → u = cv) ∧ PySem.W.kitOne K (.ref D) cv = some b ∧ H dd = some (.xd fs) ∧ Q (.bl b) H
theorem call_isX {X : Cx} {a D dd : Addr} {oe : Obj} (C : ExcC X.K D) (hz : L2N.Zn (.ref D) (some dd) oe) (hf : ∃ vs, oe.data = .fields vs) (hp : (a, oe) ∈ X.pn) : CallR X (.builtin "isinstance") (rIsX X.K D a dd) := by
  intro pins s σ H xs us Q I r h
  obtain ⟨c, cv, b, fs, rfl, hcv, e, ed, q⟩ := h
  cases r with
  | cons rx rr =>
    cases rr with
    | cons rt rr =>
      cases rr
      cases rx
      have ec := hcv _ rt
      subst ec
      obtain ⟨hget, _⟩ := I.pin (a, oe) (List.mem_append.mpr (.inl hp))
      obtain ⟨vs, hv⟩ := hf
      have hx : ObjOk X.prog X.w H s.heap dd (.xd fs) := I.hok dd _ ed
      obtain ⟨mA, hns, _⟩ := hx
      obtain ⟨od, es, ep, ho, _⟩ := hns
      have J : PySem.W.InstAt s.heap a oe D (some od) := ⟨hget, hz.1, by unfold PySem.W.notCls; rw [hv] <;> rfl, by rw [hz.2.1]; exact ho⟩
      exact PySem.W.kia_one (TX.kitx_x C) I.kIn J e (fun z => nomatch z) fun tk => ⟨.bl b, H, I.kept (t' := tk) fun _ _ z => z, rfl, q⟩
/-! ### a def that is called within an except suite and handed the error -/
open L2H in
/-- its promise may speak of the error p that is handled -/
structure FnP (P : Program) (w : World) (K : PySem.W.Frag) (mg : Str → Option Value) (base : Heap) (k : Nat) (f : Addr) (fd : FuncData) (ps : List Str) (sp : Addr × Obj → Sp) : Prop where
  len : ∀ p vs H Q E, sp p vs H Q E → vs.length = ps.length
  run : ∀ (A : Around) (outer : List Env) (s : Shared) (H : Hp) (us : List Value) (vs : List V) (Q : VK) (E : XK) (p : Addr × Obj), RoomH k A → Hot1 A p → PinOk outer H s p → Env0 P w K mg base A outer s H → BindsTo s fd ⟨us, []⟩ (ps.zip us) → Vals vs us → sp p vs H Q E →
    codeAny (model P w) A (.call (.ref f) ⟨us, []⟩) (CR CX0 outer P w H s Q E) s
open L2H PyProof.Rows in
theorem Fun.okP {P : Program} {w : World} {K : PySem.W.Frag} {mg : Str → Option Value} {base : Heap} {x qual : Str} {st : Stmt} {f : Addr} {fd : FuncData} {N ps : List Str} {k : Nat} {sp : Addr × Obj → Sp} (F : Fun K x qual st f fd) (S : FnScope N ps (defScope st)) (len : ∀ p vs H Q E, sp p vs H Q E → vs.length = ps.length)
    (hbody : ∀ (cdv : Value) (A : Around) (outer : List Env) (s : Shared) (H : Hp) (vs : List V) (Q : VK) (E : XK) (p : Addr × Obj), Hot1 A p → RoomH k (A.deeper (envOfC qual (defScope st) s.heap.objs.size f cdv)) → sp p vs H Q E →
      ∃ t, PSs (cxH CX0 P w K mg base N qual (defScope st) f cdv A outer s H E p).nox (defBody st) t ∧ t { nx := fun _ H' => Q .non H', rt := Q } (start N vs) H) : FnP P w K mg base (k + 1) f fd ps sp := by
  obtain ⟨oc, od, kV, doc, pm, an, cdv, ct, osl, rfl, lk, hcd⟩ := F.ex
  refine ⟨len, fun A outer s H us vs Q E p hr hot hpin e0 hb r hsp => ?_⟩
  have hl := len _ _ _ _ _ hsp
  have KX : K.In s.heap := e0.mod.kin.keeps fun b o e => (e0.bs b o e).1
  have lim : s.heap.NoLimit := e0.mod.nolimit.keeps fun b o e => (e0.bs b o e).1
  refine codeAny_call_function hr.depth (KX _ _ lk) rfl S.co S.gen rfl (PySem.W.codeRec_of KX hcd) (hb _ _ _ _ (wpAny_newFunctionEnv_cells S.kind (fun ⟨n, v⟩ hy => ?_) fun env he s1 x => ?_))
  · rcases S.par n (List.of_mem_zip hy).1 with q | q
    · exact .inl q
    · exact .inr ⟨q, PySem.W.cellsFrom_some _ _ _ (.inl q)⟩
  · subst he
    obtain ⟨t, ht, hq⟩ := hbody cdv A outer s H vs Q E p hot (hr.deeper _) hsp
    have I : Inv (cxH CX0 P w K mg base N qual (defScope st) f cdv A outer s H E p) [] (start N vs) H s1 := inv_startH S hpin e0 hl r x
    refine ⟨lim.keeps x.toInCall.keep, codeAny_func (wpAny_mono (ht.nox.run [] s1 (start N vs) H _ I hq) (fun fl s' hs => ?_) fun e s' hs => hs)⟩
    cases fl with
    | ret u => obtain ⟨v, σ', H', J, rv, q⟩ := hs; exact ⟨v, H', J.os, J.bare, J.base, J.hok, rv, q⟩
    | next => obtain ⟨σ', H', J, q⟩ := hs; exact ⟨.non, H', J.os, J.bare, J.base, J.hok, rfl, q⟩
    | brk => obtain ⟨_, _, _, q⟩ := hs; exact q.elim
    | cont => obtain ⟨_, _, _, q⟩ := hs; exact q.elim
/-- f(e, ..), p the error that is handled here -/
def tCallP (sp : Sp) (t : TA) : TE := fun σ H Q => t σ H fun vs H1 => sp vs H1 Q (fun _ _ _ => False)
open L2H PyProof.Rows in
theorem pe_callP {X : Cx} {k : Nat} {f : Addr} {fd : FuncData} {ps : List Str} {sp : Addr × Obj → Sp} {x : Str} {q pos : Pos} {e : Expr} {es : List Expr} {t : TA} {p : Addr × Obj} (F : FnP X.prog X.w X.K X.mg X.base k f fd ps sp) (hr : RoomH k X.A) (hot : Hot1 X.A p) (hp : p ∈ X.pn) (hg : Gl X x) (hm : X.mg x = some (.ref f))
    (hk : PySem.W.keepIn X.K (.ref f) = true) (hb : Binds X.K fd ps []) (ha : PA X (e :: es) t) (hdb : (x == ("__debug__" : Str)) = false := by decide) (he : starEach (e :: es) X.env = (false, eval e X.env) :: starEach es X.env := by rfl) (hpl : (backTo pos (starEach es X.env)).any (·.1) = false := by rfl) :
    PE X (.Call (.Name x q) (e :: es) [] pos) (tCallP (sp p) t) := by
  refine ⟨fun pins s σ H Q I h => wpAny_Call_Name_kw (ld_glob I hg hm (PySem.W.callWith_K (h₀ := X.base) I.ok.mod.kin hk (thn (ha.run pos pins s σ H _ I h) fun us s1 ⟨vs, H1, I1, r, q⟩ => ⟨I1.kIn, ?_⟩) he hpl) hdb)⟩
  have hl : us.length = ps.length := by rw [← r.length]; exact F.len _ _ _ _ _ q
  have b := hb s1 us I1.kIn (by rw [List.append_nil]; exact hl)
  rw [List.append_nil] at b
  have P1 := I1.pin p (List.mem_append_left _ hp)
  show wpAny _ _ (call (.ref f) us) _ _ _
  refine wpAny_call (codeAny_mono (F.run X.A X.stack s1 H1 us vs Q (fun _ _ _ => False) p hr hot ⟨P1.1, P1.2.1, fun hm => (List.mem_cons.mp (I1.stkSub p.1 hm)).elim P1.2.2.1 P1.2.2.2.1, P1.2.2.2.2⟩ I1.env0 b r q) fun r s' hq => ?_)
  cases r with
  | error e => exact hq.elim
  | ok fl =>
    cases fl with
    | ret u => exact I1.after hq
    | next => exact hq.elim
    | brk => exact hq.elim
    | cont => exact hq.elim
/-- the error that a suite holds is handled there -/
theorem hot_suite {X : Cx} {a : Addr} {oe : Obj} {cls : Value} {d : Option Addr} {pn : List (Addr × Obj)} (hz : L2N.Zn cls d oe) (hf : ∃ vs, oe.data = .fields vs) : L2H.Hot1 (X.suite a ((a, oe) :: pn)).A (a, oe) := by
  obtain ⟨vs, hv⟩ := hf
  exact ⟨rfl, vs, hv, hz.2.2 vs hv⟩
/-! ### [elt for name in range(..)] within an except suite -/
/-- a comprehension's block, the handled error pinned -/
abbrev blkP (X : Cx) (p : Addr × Obj) (s : Shared) (H : Hp) (scope : Scope) (ce : Env) (fp : List Addr) : Cx := { X.blk s H scope ce fp with pn := [p] }
section
open L2H PyProof.Rows
variable {X : Cx} {p : Addr × Obj}
theorem blk_pin {pins : List (Addr × Obj)} {σ : L2.St} {H H0 : Hp} {s s0 : Shared} {scope : Scope} {ce : Env} {fp : List Addr} (I : Inv (X.blk s0 H0 scope ce fp) pins σ H s) (h : s.heap.get? p.1 = some p.2 ∧ H p.1 = none ∧ p.1 ≠ ce.locals ∧ p.1 ∉ frs X.stack ∧ ∀ v, p.2.data ≠ .cell v) : Inv (blkP X p s0 H0 scope ce fp) pins σ H s :=
  ⟨⟨I.ok.mod, I.ok.kind, I.ok.glob, I.ok.blt, I.ok.above, I.ok.inj, I.ok.has, I.ok.cab, I.ok.hd, I.ok.frames, I.ok.stk, I.ok.exf, I.ok.bs, I.ok.bsz, I.ok.noex, I.ok.exfs, I.ok.funs, I.ok.frf⟩, I.os, I.bare, I.base, I.loc, I.cell, I.free, I.freeC, fun q hq => by
    rcases List.mem_append.mp hq with hq | hq
    · rw [List.mem_singleton.mp hq]; exact h
    · exact I.pin q (List.mem_append_right _ hq), I.hok, I.len⟩
theorem pe_lcP {elt tg iter : Expr} {scope : Scope} {own : List (Str × Nat)} {pos : Pos} {wi : TI} {g : TG} {te : TE} (hot : Hot1 X.A p) (hp : p ∈ X.pn) (hN : X.N.Nodup) (hi : PIH X tg iter wi) (ok : BlkOk X.N X.env.scope scope own)
    (hg : ∀ (s : Shared) (H : Hp) (C : Addr) (cl : List (Str × Addr)) (fp : List Addr), PG (blkP X p s H scope (compEnvC scope cl C X.env) fp) tg g)
    (he : ∀ (s : Shared) (H : Hp) (C : Addr) (cl : List (Str × Addr)) (fp : List Addr), PE (blkP X p s H scope (compEnvC scope cl C X.env) fp) elt te) (hs : ∀ x, foldedSetIterable iter X.env x = pure x := by intro _; rfl) :
    PE X (.ListComp elt [⟨tg, iter, [], 0⟩] scope pos) (tLc wi g tYes te (own.map (·.2))) := by
  refine ⟨fun pins s σ H Q I h => ?_⟩
  rw [eval_ListComp]
  refine wpAny_comprehension_free (use := none) rfl hs (closure_ok fun y hy e => ?_) ok.kind (fun y hy e => by rw [ok.uniq y hy, e]) (thn (hi.run pins s σ H _ I h) fun xv s1 hx => thn hx fun itv s2 h2 => ?_)
  · rcases ok.free y hy e with k | k
    · exact I.ok.has _ (.inl k)
    · exact I.ok.has _ (.inr k)
  obtain ⟨it, fp, tn, J, H2, e, I2, T, st2, f2, q⟩ := h2
  subst e
  refine wpAny_newObj_type (newEnv_comp ?_) (by show 0 ≤ sizeLine; decide)
  generalize hD : s2.heap.objs.size = D
  obtain ⟨W, ⟨m0, w0⟩, turn⟩ := q D (I2.hok.fresh (Nat.le_of_eq hD))
  generalize hs3 : ({ s2 with heap := s2.heap.push { cls := .type "list", data := .seq ([] : List Value).toArray } } : Shared) = s3
  have h3 : s3.heap = s2.heap.push { cls := .type "list", data := .seq ([] : List Value).toArray } := by rw [← hs3]
  have I3 : Inv X pins σ (upd H2 D (.lst [])) s3 := by
    rw [← hs3]
    exact I2.laid (t' := s2.toks) (fun b o e => Heap.get?_push_of_some _ e) (Nat.le_of_eq hD) ⟨Nat.zero_le _, [], 0, .nil, by rw [← hD]; exact Heap.get?_push_size _ rfl⟩
  have f3 : ∀ b ∈ fp, FpOk X pins (upd H2 D (.lst [])) b ∧ b < s3.heap.objs.size := fun b hb => by
    obtain ⟨o, e, _⟩ := T.obj _ _ st2 b hb
    have lt := Heap.lt_size e
    exact ⟨⟨by rw [upd_ne (by rw [← hD]; exact Nat.ne_of_lt lt)]; exact (f2 b hb).1, (f2 b hb).2⟩, by rw [h3, Heap.size_push]; exact Nat.lt_succ_of_lt lt⟩
  have P3 := I3.pin p (List.mem_append_left _ hp)
  have I4 := block_start I3 ok hN f3
  have pg := hg s3 (upd H2 D (.lst [])) s3.heap.objs.size (cellsFrom (s3.heap.objs.size + 1) scope.names (cloFrom X.env.cells scope.names [])) fp
  have pe := he s3 (upd H2 D (.lst [])) s3.heap.objs.size (cellsFrom (s3.heap.objs.size + 1) scope.names (cloFrom X.env.cells scope.names [])) fp
  have nfp : ∀ b ∈ fp, (upd H2 D (.lst [])) b = none := fun b hb => (f3 b hb).1.1
  show codeAny _ _ (.compStart (.ListComp elt [⟨tg, iter, [], 0⟩] scope pos) 0 (.ref it) (.ref D) (compEnvC scope (cellsFrom (s3.heap.objs.size + 1) scope.names (cloFrom X.env.cells scope.names [])) s3.heap.objs.size X.env)) (compPost (model X.prog X.w) X.A X.xe none (EP X pins σ Q) (.ref D) s3.heap.objs.size) { s3 with heap := pushCells (s3.heap.push { cls := .type "dict", data := .dict #[] }) scope.names }
  generalize hce : compEnvC scope (cellsFrom (s3.heap.objs.size + 1) scope.names (cloFrom X.env.cells scope.names [])) s3.heap.objs.size X.env = ce at I4 pg pe ⊢
  have cL : ce.locals = s3.heap.objs.size := by subst hce; rfl
  generalize hH3 : upd H2 D (.lst []) = H3 at I3 I4 pg pe w0 nfp f3 P3
  generalize hs4 : ({ s3 with heap := pushCells (s3.heap.push { cls := .type "dict", data := .dict #[] }) scope.names } : Shared) = s4 at I4 ⊢
  have kp4 : ∀ b o, s3.heap.get? b = some o → s4.heap.get? b = some o := fun b o e => by rw [← hs4]; exact pushCells_keeps _ _ _ _ (Heap.get?_push_of_some _ e)
  have st4 : tn 0 s4.heap := T.keep _ _ _ st2 fun b _ o e => kp4 b o (by rw [h3]; exact Heap.get?_push_of_some _ e)
  have I5 : Inv (blkP X p s3 H3 scope ce fp) [] (wipe σ (own.map (·.2))) H3 s4 := blk_pin I4 ⟨kp4 _ _ P3.1, P3.2.1, by rw [cL]; exact Nat.ne_of_lt (Heap.lt_size P3.1), fun hm => (List.mem_cons.mp (I3.stkSub p.1 hm)).elim P3.2.2.1 P3.2.2.2.1, P3.2.2.2.2⟩
  have hotB : HotC (blkP X p s3 H3 scope ce fp) := ⟨p, hot, List.mem_singleton.mpr rfl⟩
  have stat : ∀ {σ' : L2.St} {H' : Hp} {s' : Shared}, Inv (blkP X p s3 H3 scope ce fp) [] σ' H' s' → (∀ b ∈ fp, H' b = none) → ∀ b ∈ fp, FpOk (blkP X p s3 H3 scope ce fp) [] H' b := fun {σ' H' s'} I' hn b hb =>
    ⟨hn b hb, (I'.ok.exf b hb).1, I'.ok.exfs b hb, .inl hb, fun x c e => (I'.ok.exf b hb).2 x c e, fun r hr => by
      have er : r = p := by simpa using (show r ∈ [p] ++ ([] : List (Addr × Obj)) from hr)
      rw [er]
      exact (f3 b hb).1.2.2.2.2.2 p (List.mem_append_left _ hp)⟩
  have loop : codeAny (model X.prog X.w) X.A (.compLoop (.ListComp elt [⟨tg, iter, [], 0⟩] scope pos) 0 (.ref it) (.ref D) ce) (compPost (model X.prog X.w) X.A X.xe none (EP X pins σ Q) (.ref D) s3.heap.objs.size) s4 := by
    refine compLoop_any (fun n s' => ∃ i H', Inv (blkP X p s3 H3 scope ce fp) [] (wipe σ (own.map (·.2))) H' s' ∧ tn i s'.heap ∧ (∀ b ∈ fp, H' b = none) ∧ W i n H') ?_ m0 ⟨0, H3, I5, st4, nfp, w0⟩
    rintro n s5 ⟨i, H5, I5, st5, n5, w5⟩
    rcases turn i n H5 w5 with ⟨stop, qq⟩ | ⟨go, Nx, hNx, step⟩
    · refine thnF (T.done (blkP X p s3 H3 scope ce fp) rfl rfl rfl hotB i [] s5 _ H5 (fun _ _ => False) I5 (stat I5 n5) st5 stop) fun r s6 ⟨hr, I6⟩ => ?_
      subst hr
      have I7 : Inv X pins σ H5 s6 := I3.call' (ch := fp) I6.os I6.base I6.hok I6.bare fun b hb => ⟨(f3 b hb).1.2.2.2.1, (f3 b hb).1.2.1, (f3 b hb).1.2.2.2.2.1, (f3 b hb).1.2.2.2.2.2⟩
      have nC : H5 s3.heap.objs.size = none := cL ▸ (show H5 ce.locals = none from I6.free)
      obtain ⟨m, hn, _⟩ := I6.loc
      have hn : s6.heap.Ns s3.heap.objs.size m := cL ▸ (show s6.heap.Ns ce.locals m from hn)
      obtain ⟨f0, f1, f2', f3', f4, f5⟩ := I3.fpOk (Nat.le_refl _) nC
      exact ⟨m, hn, fun h'' sb => ⟨.ref D, H5, I7.turned (t' := s6.toks) (fun b o hb e => (sb.2 b hb).trans e) f0 f1 f3' f4 f5, rfl, qq⟩⟩
    · refine thnF (T.item (blkP X p s3 H3 scope ce fp) rfl rfl rfl hotB i [] s5 _ H5 (fun _ _ => False) I5 (stat I5 n5) st5 go) fun r s6 ⟨u, hr, h6⟩ => ?_
      subst hr
      refine thnF h6 fun _ s7 ⟨x, H7, I7, r7, y7, st7, n7⟩ => thnF (pg.run _ s7 _ H7 x u _ (I7.pinned (stat I7 n7) (T.obj _ _ st7)) r7 (step x H7 y7)) fun _ s8 ⟨σ8, H8, I8, hw8, q8⟩ => thnF ((pts_nil (X := blkP X p s3 H3 scope ce fp)).run _ s8 σ8 H8 _ I8 q8) fun b s9 ⟨H9, I9, q9⟩ => ?_
      have fin : ∀ {s' : Shared} {H' : Hp}, Inv (blkP X p s3 H3 scope ce fp) ([] ++ pinsAt fp s7.heap) σ8 H' s' → Nx H' → ∃ m, m < n ∧ ∃ i H', Inv (blkP X p s3 H3 scope ce fp) [] (wipe σ (own.map (·.2))) H' s' ∧ tn i s'.heap ∧ (∀ b ∈ fp, H' b = none) ∧ W i m H' := fun {s' H'} I' nx => by
        obtain ⟨m', hm, w'⟩ := hNx H' nx
        have pin' : ∀ b ∈ fp, ∀ o, s7.heap.get? b = some o → s'.heap.get? b = some o ∧ H' b = none := fun b hb o e => ⟨(I'.pin (b, o) (List.mem_append_right _ (List.mem_append_right _ (mem_pinsAt hb e)))).1, (I'.pin (b, o) (List.mem_append_right _ (List.mem_append_right _ (mem_pinsAt hb e)))).2.1⟩
        refine ⟨m', hm, i + 1, H', (I'.unpinned (pins := [])).weak (by rw [← hw8, wipe_length]) (fun j v e => (wipe_some (by rw [← hw8] at e; exact e)).1), T.keep _ _ _ st7 fun b hb o e => (pin' b hb o e).1, fun b hb => ?_, w'⟩
        obtain ⟨o, e, _⟩ := T.obj _ _ st7 b hb
        exact (pin' b hb o e).2
      cases b with
      | false =>
        simp only [Bool.false_eq_true, if_false] at q9 ⊢
        exact fin I9 q9
      | true =>
        simp only [if_true] at q9 ⊢
        exact thnF (pe.run _ s9 σ8 H9 _ I9 q9) fun z s10 ⟨yv, H10, I10, r10, acc, hD10, hz10, nx⟩ => app_ok (X := blkP X p s3 H3 scope ce fp) I10 hD10 hz10 r10 fun s11 I11 => fin I11 nx
  exact codeAny_compStart_list loop (T.self X.A 0 _ _ _ st4 loop)
end

/-! ### the errors -/
abbrev sXI0 : Stmt := inClass (topS 2) 0
abbrev NXI0 : List Str := ["self", "value"]
abbrev PXI0 : List Str := ["self", "value"]
theorem scXI0 : FnScope NXI0 PXI0 (defScope sXI0) := ⟨rfl, rfl, rfl, by decide +kernel, rfl, by decide +kernel, by decide +kernel⟩
theorem ok_XI0 {P : Program} {w : World} {K : PySem.W.Frag} {mg : Str → Option Value} {base : Heap} {f C : Addr} {fd : FuncData} (F : Fun K "__init__" "InvalidTree.__init__" sXI0 f fd) (T : OexG K C) (hn : PySem.W.findIn K (.ref C) "value" = some none) : FnOk P w K mg base CX0 1 f fd PXI0 (spX C "value") := by
  refine F.ok scXI0 (fun vs H Q E h => ?_) fun cdv A outer s H vs Q E hr h => ⟨_, pss_one (ps_ostG (pv 0) (pv 1)), ?_⟩
  · obtain ⟨a, v, rfl, _⟩ := h; rfl
  · obtain ⟨a, v, rfl, ea, q⟩ := h; exact ⟨_, rfl, _, rfl, a, C, rfl, T, hn, ea, q⟩
abbrev sXI1 : Stmt := inClass (topS 3) 0
abbrev NXI1 : List Str := ["self", "value"]
abbrev PXI1 : List Str := ["self", "value"]
theorem scXI1 : FnScope NXI1 PXI1 (defScope sXI1) := ⟨rfl, rfl, rfl, by decide +kernel, rfl, by decide +kernel, by decide +kernel⟩
theorem ok_XI1 {P : Program} {w : World} {K : PySem.W.Frag} {mg : Str → Option Value} {base : Heap} {f C : Addr} {fd : FuncData} (F : Fun K "__init__" "InvalidRow.__init__" sXI1 f fd) (T : OexG K C) (hn : PySem.W.findIn K (.ref C) "value" = some none) : FnOk P w K mg base CX0 1 f fd PXI1 (spX C "value") := by
  refine F.ok scXI1 (fun vs H Q E h => ?_) fun cdv A outer s H vs Q E hr h => ⟨_, pss_one (ps_ostG (pv 0) (pv 1)), ?_⟩
  · obtain ⟨a, v, rfl, _⟩ := h; rfl
  · obtain ⟨a, v, rfl, ea, q⟩ := h; exact ⟨_, rfl, _, rfl, a, C, rfl, T, hn, ea, q⟩
structure ErrH (P : Program) (w : World) (K : PySem.W.Frag) (mg : Str → Option Value) (base : Heap) (C : Nat → Addr) : Prop where
  h0 : HasX P w K mg base 1 "InvalidTree" (C 0) "value"
  h1 : HasX P w K mg base 1 "InvalidRow" (C 1) "value"
open PyProof.Rows in
/-- as Fun.ok, for a def that errors leave -/
theorem Fun.okN {P : Program} {w : World} {K : PySem.W.Frag} {mg : Str → Option Value} {base : Heap} {x qual : Str} {st : Stmt} {f : Addr} {fd : FuncData} {N ps : List Str} {k : Nat} {sp : Sp} (F : Fun K x qual st f fd) (S : FnScope N ps (defScope st)) (len : ∀ vs H Q E, sp vs H Q E → vs.length = ps.length)
    (hbody : ∀ (cdv : Value) (A : Around) (outer : List Env) (s : Shared) (H : Hp) (vs : List V) (Q : VK) (E : XK), Room k (A.deeper (envOfC qual (defScope st) s.heap.objs.size f cdv)) → sp vs H Q E →
      ∃ t, PSs (cxOf (L2N.CX P w) P w K mg base N qual (defScope st) f cdv A outer s H E) (defBody st) t ∧ t { nx := fun _ H' => Q .non H', rt := Q } (start N vs) H) : FnOk P w K mg base (L2N.CX P w) (k + 1) f fd ps sp := by
  obtain ⟨oc, od, kV, doc, pm, an, cdv, ct, osl, rfl, lk, hcd⟩ := F.ex
  exact fn_of lk hcd S len fun A outer s H vs Q E hr hsp => hbody cdv A outer s H vs Q E hr hsp
theorem pe_callSH {X : Cx} {CX : CXT} {k : Nat} {x : Str} {ps : List Str} {sp : Sp} {E : L2.St → XK} {e : Expr} {es : List Expr} {t : TA} {p pos : Pos} (F : Has X.prog X.w X.K X.mg X.base CX k x ps sp) (hr : Room k X.A) (hg : Gl X x) (hx : ∀ σ, PassesAt CX X σ (E σ)) (ha : PA X (e :: es) t)
    (hd : (x == ("__debug__" : Str)) = false := by decide) (he : starEach (e :: es) X.env = (false, eval e X.env) :: starEach es X.env := by rfl) (hpl : (backTo pos (starEach es X.env)).any (·.1) = false := by rfl) :
    PE X (.Call (.Name x p) (e :: es) [] pos) (tCallS sp E t) := by
  obtain ⟨f, fd, F, m, kp, b⟩ := F.ex
  exact pe_callS F hr hg m kp b hx ha hd he hpl
/-- raise C(e) in a def that errors leave -/
theorem ps_raiseX {X : Cx} {W : WX} {x : Str} {C : Addr} {f : Str} {k : Nat} {e : Expr} {ta : TA} {p pos pos' : Pos} (hc : X.calm = true) (tk : L2N.Takes X W) (T : HasX X.prog X.w X.K X.mg X.base k x C f) (hr : Room (k + 1) X.A) (hg : Gl X x) (ha : PA X [e] ta)
    (hdb : (x == ("__debug__" : Str)) = false := by decide) (he : starEach [e] X.env = (false, eval e X.env) :: starEach [] X.env := by rfl) : PS X (.Raise (some (.Call (.Name x p) [e] [] pos)) none pos') (fun _ σ H => tMkX C f ta σ H fun cls d H' => W cls d σ H') :=
  L2N.ps_raise hc tk (pmk_x T hr hg ha hdb he)

/-! ### is_row with both answers; reduced, a sharper bound -/
theorem QS.iff_of {S T : Row → Prop} (h1 : ∀ r, S r → QS T (ev r)) (h2 : ∀ r, T r → QS S (ev r)) (v : Vec) : QS S v ↔ QS T v := ⟨fun q => q.trans h1, fun q => q.trans h2⟩
section
variable {P : Program} {w : World} {K : PySem.W.Frag} {mg : Str → Option Value} {base : Heap}
/-- what is no row of n numbers -/
inductive NoRow (K : PySem.W.Frag) (H : Hp) (n : Nat) : V → Prop where
  | kind {v : V} {t : Value} (ty : TyX K H v t) (k : PySem.W.kitOne K t (.type "tuple") = some false) : NoRow K H n v
  | len {p : Addr} {xs : List V} (e : H p = some (.tup xs)) (h : xs.length ≠ n) : NoRow K H n (.ref p)
  | item {p : Addr} {xs : List V} (e : H p = some (.tup xs)) (h : xs.length = n) (h0 : 0 < n) (h1 : n ≤ 1000) (k : ∀ H', Same H H' → ∀ x ∈ xs, NoInt K H' x) : NoRow K H n (.ref p)
def spRowG (K : PySem.W.Frag) : Sp := fun vs H Q _ => ∃ (v : V) (n : Nat), vs = [v, .int (n : Nat)] ∧ ((∃ (p : Addr) (r : Row), v = .ref p ∧ TupAt H p r ∧ r.length = n ∧ r.length ≤ 1000 ∧ ∀ H', Same H H' → Q (.bl true) H') ∨ (NoRow K H n v ∧ ∀ H', Same H H' → Q (.bl false) H'))
theorem ok_IsRowG {f : Addr} {fd : FuncData} (F : Fun K "is_row" "is_row" sIsRow f fd) (T : TxRow mg) (GI : Has P w K mg base CX0 1 "is_integer" PIsInt (spIsInt K)) : FnOk P w K mg base CX0 2 f fd PIsRow (spRowG K) := by
  refine F.ok scIsRow (fun vs H Q E h => ?_) (fun cdv A outer s H vs Q E hr h => ?_)
  · obtain ⟨v, n, rfl, _⟩ := h
    rfl
  · obtain ⟨v, n, rfl, h⟩ := h
    refine ⟨_, (pss_one (ps_ret (pe_and (pe_callB call_isi (by rfl) T.n_isinstance bb_isinstance (pa_cons (pv 0) (pa_cons (pe_bltn (v := .ty "tuple") (by rfl) T.n_tuple bb_tuple rfl) pa_nil))) (pe_and (pe_cmpR op_eq (pe_callB call_len_seq (by rfl) T.n_len bb_len (pa_cons (pv 0) pa_nil)) (pv 1) (nomark _)) (pe_one (pe_callB (cr_all rfl) (by rfl) T.n_all bb_all (pa_cons (pe_lc (own := [("one", 2)]) (g := gName 2) (tt := tYes) rfl scIsRow.nd (pi_tup (pv 0)) (blkOk_by (own := [("one", 2)]) (N := NIsRow) (sc := (defScope sIsRow)) (by decide +kernel)) (fun _ _ _ _ _ => (pg_name (i := 2) scIsRow.nd rfl (Or.inl rfl))) (fun _ _ _ _ _ => pts_nil) (fun _ _ _ _ _ => (pe_callH GI hr rfl pass0 (pa_cons (pv 2) pa_nil)))) pa_nil))))))), ?_⟩
    rcases h with ⟨p, r, rfl, hp, hn, hl, k⟩ | ⟨h, k⟩
    · refine ⟨_, rfl, _, _, _, _, _, rfl, .ty _, .base (.tup hp), kit_ty (r := true) (by decide +kernel), _, rfl, ?_⟩
      refine ⟨_, rfl, p, _, rfl, .inr (SqT.of hp), _, rfl, rfl, ?_⟩
      rw [List.length_map, hn]
      refine ⟨true, by rw [decide_eq_true rfl], ?_⟩
      refine ⟨_, rfl, p, rfl, ⟨_, SqT.of hp⟩, fun D hD => ?_⟩
      refine lc_map (walk_tup (K := K) (a := p) (xs := r.map V.int)) (fun _ => V.bl true) hD (by rw [List.length_map]; exact hl) (fun H' s' => SqT.of (s' _ _ hp)) ?_ ?_
      · rintro i x H3 H4 kk hi s3 ⟨rfl, hxi⟩ kc
        obtain ⟨z, hz, rfl⟩ := int_at hxi
        exact ⟨rfl, _, rfl, _, rfl, .inl ⟨z, rfl, kc _ (Same.refl _)⟩⟩
      · intro H3 s3 e3
        refine ⟨D, (List.range (r.map V.int).length).map (fun _ => true), rfl, SqL.of (by rw [e3, List.map_map]; rfl), ?_⟩
        have ea : ((List.range (r.map V.int).length).map (fun _ => true)).all id = true := by
          rw [List.all_eq_true]
          intro b hb
          obtain ⟨_, _, rfl⟩ := List.mem_map.mp hb
          rfl
        rw [ea]
        exact k _ s3
    · cases h with
      | kind ty kt => exact ⟨_, rfl, _, _, _, _, _, rfl, .ty _, ty, kt, _, rfl, k _ (Same.refl _)⟩
      | @len p xs e ne =>
        refine ⟨_, rfl, _, _, _, _, _, rfl, .ty _, .base (.tup e), kit_ty (r := true) (by decide +kernel), _, rfl, ?_⟩
        refine ⟨_, rfl, p, _, rfl, .inr (SqT.of e), _, rfl, rfl, ?_⟩
        refine ⟨false, by rw [decide_eq_false fun z => ne (by injection z with z; omega)], ?_⟩
        exact k _ (Same.refl _)
      | @item p xs e hn h0 h1 ki =>
        refine ⟨_, rfl, _, _, _, _, _, rfl, .ty _, .base (.tup e), kit_ty (r := true) (by decide +kernel), _, rfl, ?_⟩
        refine ⟨_, rfl, p, _, rfl, .inr (SqT.of e), _, rfl, rfl, ?_⟩
        rw [hn]
        refine ⟨true, by rw [decide_eq_true rfl], ?_⟩
        refine ⟨_, rfl, p, rfl, ⟨_, SqT.of e⟩, fun D hD => ?_⟩
        refine lc_map (walk_tup (K := K) (a := p) (xs := xs)) (fun _ => V.bl false) hD (by omega) (fun H' s' => SqT.of (s' _ _ e)) ?_ ?_
        · rintro i x H3 H4 kk hi s3 ⟨rfl, hxi⟩ kc
          exact ⟨rfl, _, rfl, _, rfl, .inr ⟨ki _ s3 x (List.mem_of_getElem? hxi), kc _ (Same.refl _)⟩⟩
        · intro H3 s3 e3
          refine ⟨D, (List.range xs.length).map (fun _ => false), rfl, SqL.of (by rw [e3, List.map_map]; rfl), ?_⟩
          have ea : ((List.range xs.length).map (fun _ => false)).all id = false := by
            rw [List.all_eq_false]
            exact ⟨false, List.mem_map.mpr ⟨0, List.mem_range.mpr (by omega), rfl⟩, by decide⟩
          rw [ea]
          exact k _ s3
end
def EB (B : Nat) : Nat → Nat
  | 0 => 1
  | 1 => B
  | f + 2 => B + (f + 2) * (EB B (f + 1) + 1)
theorem EB_step {B : Nat} (b0 : 0 < B) : ∀ f : Nat, EB B f ≤ EB B (f + 1)
  | 0 => b0
  | f + 1 => by
    show EB B (f + 1) ≤ B + (f + 2) * (EB B (f + 1) + 1)
    have : 1 * (EB B (f + 1) + 1) ≤ (f + 2) * (EB B (f + 1) + 1) := Nat.mul_le_mul_right _ (by omega)
    omega
theorem EB_mono {B f g : Nat} (b0 : 0 < B) (h : f ≤ g) : EB B f ≤ EB B g := by
  induction h with
  | refl => exact Nat.le_refl _
  | step _ ih => exact Nat.le_trans ih (EB_step b0 _)
theorem EB_pos {B : Nat} (b0 : 0 < B) (f : Nat) : 0 < EB B f := Nat.lt_of_lt_of_le (show 0 < 1 by decide) (EB_mono b0 (f := 0) (Nat.zero_le f))
theorem adds_small {w B C : Nat} {rs out : List Row} {r : Row} (h : RS w rs) (hr : r.length = w) (sr : Small r B) (so : ∀ o ∈ rs, Small o C) (ha : Adds rs r out) : (out = rs) ∨ (out.length = rs.length + 1 ∧ (∀ o ∈ out, Small o (B + (rs.length + 1) * (C + 1))) ∧ (rs = [] → ∀ o ∈ out, Small o B)) := by
  rcases ha with ⟨_, e⟩ | ⟨ln, hp, _⟩
  · exact .inl e
  · obtain ⟨w1, w2⟩ := woAll_inv (rs := rs) (C := C) (n := w) (fun o ho => ⟨h.len o ho, so o ho⟩) hr sr
    have r2 : Small (restOf rs r) (B + rs.length * (C + 1)) := small_prim w2
    have rm : (rs.length + 1) * (C + 1) = rs.length * (C + 1) + (C + 1) := Nat.succ_mul ..
    refine .inr ⟨by rw [hp.length_eq, List.length_append, List.length_map]; rfl, fun o ho => ?_, fun e o ho => ?_⟩
    · rcases List.mem_append.mp (hp.mem_iff.mp ho) with q | q
      · obtain ⟨x, hx, rfl⟩ := List.mem_map.mp q
        exact small_mono (small_prim (small_wo (so x hx) r2)) (by omega)
      · rw [List.mem_singleton.mp q]
        exact small_mono (small_prim r2) (by omega)
    · subst e
      rcases List.mem_append.mp (hp.mem_iff.mp ho) with q | q
      · cases q
      · rw [List.mem_singleton.mp q]
        exact small_prim (small_prim sr)
/-- what reduced gives -/
structure Reds (w B : Nat) (rows out : List Row) : Prop where
  rs : RS w out
  span : ∀ v, QS (· ∈ out) v ↔ QS (· ∈ rows) v
  small : ∀ o ∈ out, Small o (EB B out.length)
  le : out.length ≤ rows.length
  gcd : ∀ o ∈ out, gcdR o = 1
theorem reds_nil {w B : Nat} : Reds w B [] [] := ⟨⟨(fun _ z => nomatch z), (fun _ z => nomatch z), .nil⟩, fun _ => Iff.rfl, (fun _ z => nomatch z), Nat.le_refl _, (fun _ z => nomatch z)⟩
theorem reds_snoc {w B : Nat} {rows out out' : List Row} {r : Row} (h : Reds w B rows out) (hr : r.length = w) (sr : Small r B) (ha : Adds out r out') : Reds w B (rows ++ [r]) out' := by
  obtain ⟨a1, a2, a3⟩ := adds_RS h.rs hr ha
  have mem : ∀ x, x ∈ rows ++ [r] ↔ x ∈ rows ∨ x = r := fun x => by rw [List.mem_append, List.mem_singleton]
  refine ⟨a1, fun v => (a2 v).trans (QS.iff_of (fun x hx => ?_) (fun x hx => ?_) v), ?_, ?_, adds_gcd h.rs hr h.gcd ha⟩
  · rcases hx with hx | rfl
    · exact ((h.span _).mp (QS.mem hx)).trans fun y hy => QS.mem ((mem y).mpr (.inl hy))
    · exact QS.mem ((mem x).mpr (.inr rfl))
  · rcases (mem x).mp hx with hx | rfl
    · exact ((h.span _).mpr (QS.mem hx)).trans fun y hy => QS.mem (.inl hy)
    · exact QS.mem (.inr rfl)
  · rcases adds_small h.rs hr sr h.small ha with rfl | ⟨e, q, q1⟩
    · exact h.small
    · rw [e]
      cases el : out.length with
      | zero => exact q1 (List.eq_nil_of_length_eq_zero el)
      | succ f => rw [el] at q; exact q
  · rw [List.length_append]
    have := h.le
    show _ ≤ rows.length + 1
    rcases a3 with q | q <;> omega
theorem reds_uniq {w B B' : Nat} {rows rows' out out' : List Row} (h : Reds w B rows out) (h' : Reds w B' rows' out') (e : ∀ v, QS (· ∈ rows) v ↔ QS (· ∈ rows') v) : out = out' :=
  h.rs.uniq h'.rs h.gcd h'.gcd fun v => (h.span v).trans ((e v).trans (h'.span v).symm)
section
variable {P : Program} {w : World} {K : PySem.W.Frag} {mg : Str → Option Value} {base : Heap}
def spRed : Sp := fun vs H Q _ => ∃ (R : Addr) (n : Nat) (xs : List V) (rows : List Row) (B : Nat), vs = [.ref R, .int (n : Nat)] ∧ H R = some (.lst xs) ∧ RowsIn H xs rows ∧ (∀ r ∈ rows, r.length = n ∧ Small r B) ∧ n ≤ 100 ∧ rows.length < 60 ∧ 0 < B ∧ B ≤ 8000 ∧ EB B (min rows.length (n + 1)) ≤ 9000 ∧
  ∀ (L : Addr) (ys : List V) (out : List Row) (H' : Hp), Same H H' → H L = none → H' L = some (.lst ys) → RowsIn H' ys out → Reds n B rows out → Q (.ref L) H'
theorem ok_Red {f : Addr} {fd : FuncData} (F : Fun K "reduced" "reduced" sRed f fd) (T : TxRow mg) (GR : Has P w K mg base CX0 2 "is_row" PIsRow (spRowG K)) (GA : Has P w K mg base CX0 5 "added" PAdded (spAdded K)) : FnOk P w K mg base CX0 6 f fd PRed spRed := by
  refine F.ok scRed (fun vs H Q E h => ?_) (fun cdv A outer s H vs Q E hr h => ?_)
  · obtain ⟨R, n, xs, rows, B, rfl, _⟩ := h
    rfl
  · obtain ⟨R, n, xs, rows, B, rfl, hR, hx, hrow, hn, h60, b0, b8, eb, k⟩ := h
    have hr2 := hr.mono (j := 2) (by decide)
    refine ⟨_, (pss_cons (ps_set (i := 2) scRed.nd rfl (Or.inl rfl) (pe_lst pa_nil))
  (pss_cons (ps_for PassesOwn.never rfl (pi_list (pv 0)) (pg_name (i := 3) scRed.nd rfl (Or.inl rfl))
  (pss_cons (ps_if (pt_not (pt_val (pe_callH GR hr2 rfl pass0 (pa_cons (pv 3) (pa_cons (pv 1) pa_nil)))))
  (pss_one ps_never)
  pss_nil)
  (pss_one (ps_set (i := 2) scRed.nd rfl (Or.inl rfl) (pe_callH GA hr rfl pass0 (pa_cons (pv 2) (pa_cons (pv 3) pa_nil)))))))
  (pss_one (ps_ret (pv 2))))), ?_⟩
    have lx : xs.length = rows.length := Paired.length hx
    refine ⟨(by show 0 ≤ sizeLine; decide), fun L0 hL0 => ?_⟩
    have s0 := same_new (o := .lst []) hL0
    refine ⟨_, rfl, R, rfl, ⟨_, SqL.of (s0 _ _ hR)⟩, for_list (K := K) (a := R) (xs := xs) (fun i σ H' => Same H H' ∧ ∃ (L : Addr) (ys : List V) (out : List Row) (x : Option V), σ = [some (.ref R), some (.int (n : Nat)), some (.ref L), x] ∧ H L = none ∧ H' L = some (.lst ys) ∧ RowsIn H' ys out ∧ Reds n B (rows.take i) out) ?_ (fun i σ H' _ h' => SqL.of (h'.1 _ _ hR)) ?_ ?_⟩
    · exact ⟨s0, L0, [], [], none, rfl, hL0, upd_same, .nil, reds_nil⟩
    · rintro i v σ H1 hv ⟨s1, L, ys, out, x, rfl, L0', hL, hy, hR1⟩
      obtain ⟨r, hri, q, rfl, hq⟩ := Paired.at hx hv
      have hi : i < rows.length := (List.getElem?_eq_some_iff.mp hri).1
      obtain ⟨r1, r2⟩ := hrow r (List.mem_of_getElem? hri)
      refine ⟨_, rfl, _, rfl, _, n, rfl, .inl ⟨q, r, rfl, s1 _ _ hq, r1, by omega, fun H2 s2 => ⟨true, rfl, ?_⟩⟩⟩
      have s12 := s1.trans s2
      have le := hR1.le
      rw [List.length_take, Nat.min_eq_left (Nat.le_of_lt hi)] at le
      have lw := hR1.rs.le_w
      have b1 : B + (out.length + 1) * (EB B out.length + 1) ≤ 9000 := by
        cases el : out.length with
        | zero => show B + (0 + 1) * (1 + 1) ≤ 9000; omega
        | succ f => exact Nat.le_trans (EB_mono b0 (f := f + 2) (g := min rows.length (n + 1)) (by omega)) eb
      refine ⟨_, rfl, _, rfl, L, q, ys, out, r, B, EB B out.length, rfl, s2 _ _ hL, hy.same (TSame.of s2), s12 _ _ hq, fun o ho => ⟨by rw [hR1.rs.len o ho, r1], hR1.small o ho, by rw [(hR1.rs.lead ho).1]; exact fun z => (by cases z)⟩, by omega, by omega, r2, b0, EB_pos b0 _, b1, adds_pre hR1.rs r1, fun L' ys' out' H3 s3 fr hL' hy' ha => ?_⟩
      refine ⟨s12.trans s3, L', ys', out', _, rfl, ?_, hL', hy', by rw [take_snoc hri]; exact reds_snoc hR1 r1 r2 ha⟩
      rcases fr with rfl | fr
      · exact L0'
      · exact s12.free fr
    · rintro σ H1 ⟨s1, L, ys, out, x, rfl, L0', hL, hy, hR1⟩
      rw [lx, List.take_length] at hR1
      exact ⟨_, rfl, k L ys out H1 s1 L0' hL hy hR1⟩
end

/-! ### own __len__, __bool__, __contains__, __eq__, __or__ of an instance: the rules -/
section
variable {X : Cx}
theorem run_own {k : Nat} {f : Addr} {fd : FuncData} {ps : List Str} {sp : Sp} {pins : List (Addr × Obj)} {σ : L2.St} {H : Hp} {s : Shared} {Q : VK} {us : List Value} {vs : List V} {A' : Around} {E' : Value → Shared → Prop} (F : FnOk X.prog X.w X.K X.mg X.base CX0 k f fd ps sp) (hr : Room k A') (hf : A'.frames = X.A.frames)
    (hb : Binds X.K fd ps []) (I : Inv X pins σ H s) (r : Vals vs us) (h : sp vs H Q E0) : wpAny (model X.prog X.w) A' (call (.ref f) us) (EP X pins σ Q) E' s := by
  have hl : us.length = ps.length := by rw [← r.length]; exact F.len _ _ _ _ h
  have e0 := I.env0
  have hb' := hb s us I.kIn (by rw [List.append_nil]; exact hl)
  rw [List.append_nil] at hb'
  refine wpAny_call (codeAny_mono (F.run A' X.stack s H ⟨us, []⟩ us vs Q E0 hr ⟨hf.trans e0.frames, e0.mod, e0.bs, e0.bsz, e0.funs, e0.frf, e0.hok, e0.bare⟩ hb' r h) fun r s' hq => ?_)
  cases r with
  | error e => exact False.elim hq
  | ok fl =>
    cases fl with
    | ret u => exact I.after hq
    | next => exact False.elim hq
    | brk => exact False.elim hq
    | cont => exact False.elim hq
/-- len(o) -/
def rLenO (C : Addr) (sp : Sp) : List V → Hp → VK → Prop := fun xs H Q => ∃ a dx fs, xs = [.ref a] ∧ H a = some (.ins C dx fs) ∧ sp [.ref a] H (fun v H' => ∃ n : Nat, v = .int (n : Nat) ∧ n < 1000000 ∧ Q (.int (n : Nat)) H') E0
theorem call_lenO {k : Nat} {C : Addr} {ps : List Str} {sp : Sp} (M : HasM X.prog X.w X.K X.mg X.base CX0 k C "__len__" ps sp) (hr : Room (k + 1) X.A) : CallR X (.builtin "len") (rLenO C sp) := by
  intro pins s σ H xs us Q I r h
  obtain ⟨f, fd, hm, F, hb⟩ := M.ex
  obtain ⟨a, dx, fs, rfl, ha, hq⟩ := h
  obtain ⟨u, rfl, ru⟩ := vals1 r
  obtain rfl : u = Value.ref a := ru
  obtain ⟨mA, J, _⟩ := ins_get I.hok ha
  obtain ⟨od, J, _⟩ := J.look
  obtain ⟨m, hF⟩ := I.fr
  refine PySem.W.len_K hF I.ok.mod.kin J hm.at_ hm.fn (wpAny_mono (run_own (A' := X.A.in1) F hr.in1 rfl hb I r hq) (fun v s' hv => ?_) fun _ _ z => z)
  obtain ⟨w, H', I', rw', n, rfl, hn, q⟩ := hv
  obtain ⟨t, rfl⟩ := rw'
  exact ⟨⟨by omega, by omega⟩, .int (n : Nat), H', I'.tok _, ⟨_, rfl⟩, q⟩
/-- x in o -/
def rInO (C : Addr) (sp : Sp) : R2 := fun x y H Q => ∃ a dx fs, y = .ref a ∧ H a = some (.ins C dx fs) ∧ sp [.ref a, x] H (fun v H' => ∃ b, v = .bl b ∧ Q (.bl b) H') E0
theorem op_inO {k : Nat} {C : Addr} {ps : List Str} {sp : Sp} (M : HasM X.prog X.w X.K X.mg X.base CX0 k C "__contains__" ps sp) (hr : Room k X.A) : OpR X (compareOp .In) (rInO C sp) := by
  intro pins s σ H x y v u Q I rx ry h
  obtain ⟨f, fd, hm, F, hb⟩ := M.ex
  obtain ⟨a, dx, fs, rfl, ha, hq⟩ := h
  obtain rfl : u = Value.ref a := ry
  obtain ⟨mA, J, _⟩ := ins_get I.hok ha
  obtain ⟨od, J, _⟩ := J.look
  obtain ⟨m, hF⟩ := I.fr
  refine PySem.W.in_K hF I.ok.mod.kin J hm.at_ hm.fn (wpAny_mono (run_own (A' := X.A) (vs := [.ref a, x]) F hr rfl hb I (.cons rfl (.cons rx .nil)) hq) (fun w s' hv => ?_) fun _ _ z => z)
  obtain ⟨w, H', I', rw', b, rfl, q⟩ := hv
  cases rw'
  exact wpAny_pure ⟨.bl b, H', I', rfl, q⟩
/-- o | p, both of one class -/
def rOrO (C : Addr) (sp : Sp) : R2 := fun x y H Q => ∃ a b dx dy fs gs, x = .ref a ∧ y = .ref b ∧ H a = some (.ins C dx fs) ∧ H b = some (.ins C dy gs) ∧ sp [.ref a, .ref b] H (fun v H' => (∃ c, v = .ref c) ∧ Q v H') E0
theorem op_orO {k : Nat} {C : Addr} {ps : List Str} {sp : Sp} (M : HasM X.prog X.w X.K X.mg X.base CX0 k C "__or__" ps sp) (hs : PySem.W.selfFirst X.K C = true) (hr : Room k X.A) : OpR X (binaryOp .BitOr) (rOrO C sp) := by
  intro pins s σ H x y v u Q I rx ry h
  obtain ⟨f, fd, hm, F, hb⟩ := M.ex
  obtain ⟨a, b, dx, dy, fs, gs, rfl, rfl, ha, hb', hq⟩ := h
  obtain rfl : v = Value.ref a := rx
  obtain rfl : u = Value.ref b := ry
  obtain ⟨mA, J, _⟩ := ins_get I.hok ha
  obtain ⟨od, J, _⟩ := J.look
  obtain ⟨mB, J', _⟩ := ins_get I.hok hb'
  obtain ⟨od', J', _⟩ := J'.look
  obtain ⟨m, hF⟩ := I.fr
  refine PySem.W.binop_K hF I.ok.mod.kin J J'.type hs hm.at_ hm.fn (wpAny_mono (run_own (A' := X.A) (vs := [.ref a, .ref b]) F hr rfl hb I (.cons rfl (.cons rfl .nil)) hq) (fun w s' hv => ?_) fun _ _ z => z)
  obtain ⟨w, H', I', rw', ⟨c, rfl⟩, q⟩ := hv
  cases rw'
  exact ⟨.ref c, H', I', rfl, q⟩
/-- o == p, both of one class -/
def rEqO (C : Addr) (sp : Sp) : R2 := fun x y H Q => ∃ a b dx dy fs gs, x = .ref a ∧ y = .ref b ∧ H a = some (.ins C dx fs) ∧ H b = some (.ins C dy gs) ∧ sp [.ref a, .ref b] H (fun v H' => ∃ c, v = .bl c ∧ Q (.bl c) H') E0
theorem op_eqO {k : Nat} {C : Addr} {ps : List Str} {sp : Sp} (M : HasM X.prog X.w X.K X.mg X.base CX0 k C "__eq__" ps sp) (hr : Room k X.A) : OpR X (compareOp .Eq) (rEqO C sp) := by
  intro pins s σ H x y v u Q I rx ry h
  obtain ⟨f, fd, hm, F, hb⟩ := M.ex
  obtain ⟨a, b, dx, dy, fs, gs, rfl, rfl, ha, hb', hq⟩ := h
  obtain rfl : v = Value.ref a := rx
  obtain rfl : u = Value.ref b := ry
  obtain ⟨mA, J, _⟩ := ins_get I.hok ha
  obtain ⟨od, J, _⟩ := J.look
  obtain ⟨mB, J', _⟩ := ins_get I.hok hb'
  obtain ⟨od', J', _⟩ := J'.look
  obtain ⟨m, hF⟩ := I.fr
  show wpAny (model X.prog X.w) X.A (richCompare .Eq (.ref a) (.ref b)) _ _ _
  refine PySem.W.cmp_K (op := .Eq) (tb := .ref C) hr.units0 hF I.ok.mod.kin J J'.type (by simp [PySem.W.notFirst]) hm.at_ hm.fn (wpAny_mono (run_own (A' := X.A) (vs := [.ref a, .ref b]) F hr rfl hb I (.cons rfl (.cons rfl .nil)) hq) (fun w s' hv => ?_) fun _ _ z => z)
  obtain ⟨w, H', I', rw', c, rfl, q⟩ := hv
  cases rw'
  exact ⟨.bl c, H', I', rfl, q⟩
/-- bool(o) -/
def rBoolO (C : Addr) (sp : Sp) : V → Hp → (Bool → Hp → Prop) → Prop := fun x H Q => ∃ a dx fs, x = .ref a ∧ H a = some (.ins C dx fs) ∧ sp [.ref a] H (fun v H' => ∃ c, v = .bl c ∧ Q c H') E0
theorem truthO {k : Nat} {C : Addr} {ps : List Str} {sp : Sp} {A' : Around} {pins : List (Addr × Obj)} {s : Shared} {σ : L2.St} {H : Hp} {x : V} {u : Value} {Q : Bool → Hp → Prop} {E : Value → Shared → Prop} (M : HasM X.prog X.w X.K X.mg X.base CX0 k C "__bool__" ps sp) (hr : Room k A') (hf : A'.frames = X.A.frames)
    (I : Inv X pins σ H s) (rx : RelV x u) (h : rBoolO C sp x H Q) : wpAny (model X.prog X.w) A' (truthy u) (fun b s' => ∃ H', Inv X pins σ H' s' ∧ Q b H') E s := by
  obtain ⟨f, fd, hm, F, hb⟩ := M.ex
  obtain ⟨a, dx, fs, rfl, ha, hq⟩ := h
  obtain rfl : u = Value.ref a := rx
  obtain ⟨mA, J, _⟩ := ins_get I.hok ha
  obtain ⟨od, J, _⟩ := J.look
  obtain ⟨m, hF⟩ := I.fr
  refine PySem.W.truthy_K hF I.ok.mod.kin J hm.at_ hm.fn (wpAny_mono (run_own (A' := A') (vs := [.ref a]) F hr hf hb I (.cons rfl .nil) hq) (fun w s' hv => ?_) fun _ _ z => z)
  obtain ⟨w, H', I', rw', c, rfl, q⟩ := hv
  cases rw'
  exact ⟨H', I', q⟩
end

/-! ### more of own objects: !=, bool(o), == with any value, t * n -/
section
open Builtin
variable {prog : Program} {w : World} {M : Model} {A : Around} {E : Value → Shared → Prop} {s : Shared} {K : PySem.W.Frag} {x C f : Addr} {ox : PySem.Obj} {od : Option PySem.Obj} {b tb : Value}
theorem bind_one (self : Value) : bindSpecial (.builtin "object.__ne__") self = pure (.builtin "object.__ne__", [self]) := PySem.F.slot_enumerate_ne.bind self
theorem boundB {name : Str} {id : String} {args : List Value} {Q : Option Value → Shared → Prop} (Z : K.In s.heap) (I : PySem.W.InstAt s.heap x ox C od) (hs : PySem.W.findIn K (.ref C) name = some (some (.builtin id))) (hb : ∀ self, bindSpecial (.builtin id) self = pure (.builtin id, [self]))
    (h : wpAny M A (call (.builtin id) (.ref x :: args)) (fun v => Q (some v)) E s) : wpAny M A (callSpecialIfBound? (.ref x) name args) Q E s := by
  simp only [callSpecialIfBound?, bindSpecialIfBound?]
  refine wpAny_holding (wpAny_bind (wpAny_bind (wpAny_bind (I.type.here ((PySem.W.looks_findIn Z hs).here ?_)))))
  have last : wpAny M A (call (.builtin id) ([.ref x] ++ args) >>= fun v => pure (some v)) Q E s := wpAny_bind (wpAny_mono h (fun _ _ q => wpAny_pure q) fun _ _ q => q)
  refine wpAny_bind (wpAny_askSetting (wpAny_ite ?_))
  split
  · exact wpAny_bind ((PySem.W.Looks.of_pure (hb _)).here (wpAny_pure (by exact last)))
  · exact wpAny_tryCatch (wpAny_bind ((PySem.W.Looks.of_pure (hb _)).here (wpAny_pure (by exact last))))
theorem ne_own {Q : Value → Shared → Prop} (hu : A.in1.units < cLine) (hu0 : A.units < cLine) (Z : K.In s.heap) (I : PySem.W.InstAt s.heap x ox C od) (hb : PySem.W.Looks (model prog w) s.heap (typeOf b) tb) (hn : PySem.W.notFirst K C tb = true)
    (hs : PySem.W.findIn K (.ref C) "__ne__" = some (some (.builtin "object.__ne__"))) (hm : PySem.W.mroIn K C (.type "object") = some true) (he : PySem.W.findIn K (.ref C) "__eq__" = some (some (.ref f))) (hf : PySem.W.isFn K (.ref f) = true)
    (h : wpAny (model prog w) A.in1 (call (.ref f) [.ref x, b]) (fun v s' => ∃ c, v = .bool c ∧ Q (.bool (!c)) s') E s) : wpAny (model prog w) A (richCompare .NotEq (.ref x) b) Q E s := by
  have one : wpAny (model prog w) A (tryCompare (.ref x) "__ne__" b) (fun r s' => ∃ v, r = some v ∧ Q v s') E s := by
    unfold tryCompare
    refine wpAny_bind (boundB Z I hs bind_one ?_)
    refine wpAny_call (codeAny_call_builtin PySem.F.slot_enumerate_ne.plain PySem.F.cmpEntry_ne (PySem.W.check_slot PySem.F.cmpKind_ne PySem.F.cmpSplit_ne (I.type.andThen (PySem.W.looks_mroIn Z hm)) (PySem.F.cmpArgs_ne _ _) ?_))
    unfold Builtin.«object.__ne__»
    refine wpAny_bind (m := slotArgs "__ne__" 1 _) (wpAny_pure ?_)
    refine wpAny_bind (m := cRoomFor _ _) (wpAny_cRoomFor hu ?_)
    refine wpAny_bind (m := callSpecialIfBound? (.ref x) (Str.ofString "__eq__") _) (PySem.W.ifBound_K Z I he hf (wpAny_mono h (fun r s' hr => ?_) fun _ _ q => q))
    obtain ⟨c, rfl, q⟩ := hr
    refine wpAny_bind (m := truthy (.bool _)) (wpAny_truthy_bool ?_)
    exact wpAny_pure (wpAny_pure ⟨_, rfl, q⟩)
  unfold richCompare
  simp only [oneThing_ref]
  refine wpAny_holding (wpAny_bind (wpAny_cRoomFor hu0 ?_))
  refine wpAny_bind (I.type.here (wpAny_bind (hb.here ?_)))
  have fin : ∀ (r : Option Value) (s' : Shared) (k : Sem Value), (∃ v, r = some v ∧ Q v s') → wpAny (model prog w) A (match r with | some v => pure v | none => k) Q E s' := fun r s' k z => by
    obtain ⟨v, rfl, hq⟩ := z
    exact wpAny_pure hq
  split
  · rename_i q
    have e : PySem.W.subIn K tb (.ref C) = some false := by
      rcases Bool.or_eq_true_iff.mp hn with e | e
      · rw [beq_iff_eq.mp e] at q
        simp at q
      · exact beq_iff_eq.mp e
    refine wpAny_bind ((PySem.W.looks_subIn Z e).here ?_)
    simp only [Bool.false_eq_true, if_false]
    refine wpAny_bind (wpAny_mono one (fun r s' z => ?_) fun _ _ q => q)
    obtain ⟨v, rfl, hq⟩ := z
    exact wpAny_pure hq
  · refine wpAny_bind (wpAny_pure ?_)
    simp only [Bool.false_eq_true, if_false]
    refine wpAny_bind (wpAny_mono one (fun r s' z => ?_) fun _ _ q => q)
    obtain ⟨v, rfl, hq⟩ := z
    exact wpAny_pure hq
theorem bool_own {Q : Value → Shared → Prop} (h : wpAny (model prog w) A.in1.in1 (truthy b) (fun c s' => Q (.bool c) s') E s) : wpAny (model prog w) A (call (.type "bool") [b]) Q E s := by
  refine callType_newIn PySem.F.called_bool PySem.F.newNe_bool (PySem.F.typeCall_bool_1 b) (PySem.F.newCall_bool_1 b) (fun obj => PySem.F.args_object_init_2 obj b) PySem.F.entry_bool_new (S := fun A' R s' => wpAny (model prog w) A'.in1 (truthy b) (fun c s' => R (.ok (.ret (.bool c))) s') (fun e s' => R (.error e) s') s') (MeetsIn.of_wp fun A' R s' hs => ?_) ?_
  · obtain ⟨hp, g, d, tk, os⟩ := s'
    have f1 := PySem.F.conv_sub_bool
    repeat (any_goals (first | assumption | (refine wpAny_bind (m := truthy b) (wpAny_mono hs (fun _ _ q => ?_) fun _ _ q => q)) | wp_step))
    all_goals first | exact ⟨_, rfl, q⟩ | exact wpAny_pure ⟨_, rfl, q⟩ | skip
  · exact wpAny_mono h (fun c s' q => ⟨typeIs_bool _ _, q⟩) fun _ _ q => q
end
section
variable {X : Cx}
/-- what is asked of an own class beside Cls -/
structure ClsT (K : PySem.W.Frag) (C : Addr) : Prop where
  cl : Cls K C
  ca : PySem.W.findIn K (.ref C) "__class__" = some (some (.builtin "object.__class__"))
  cg : PySem.W.specialIn K (.builtin "object.__class__") "__get__" = some (some (.builtin "getset_descriptor.__get__"))
  ct : PySem.W.takesIn K (.builtin "object.__class__") = some true
  mo : PySem.W.mroIn K C (.type "object") = some true
  mc : PySem.W.kitOne K (.ref C) (.ref C) = some true
theorem ClsT.ty {K : PySem.W.Frag} {C a dx : Addr} {H : Hp} {fs : List (Str × V)} (c : ClsT K C) (e : H a = some (.ins C dx fs)) : TyX K H (.ref a) (.ref C) := .base (.ins e c.cl c.ca c.cg c.ct c.mo)
theorem kit_self (K : PySem.W.Frag) (C : Addr) : PySem.W.kitOne K (.ref C) (.ref C) = some true := by
  unfold PySem.W.kitOne
  rw [if_pos (by simp)]
theorem kit_no {K : PySem.W.Frag} {C : Addr} {T : String} (hd : PySem.W.hasDictIn K C = true) (ty : PySem.W.typeIn K (.ref C) = some (.type "type")) (nf : PySem.W.notFirst K C (.type T) = true) : PySem.W.kitOne K (.type T) (.ref C) = some false := by
  obtain ⟨cd, hc, _⟩ := PySem.W.any_some hd
  unfold PySem.W.kitOne PySem.W.kitCls
  rw [if_neg (by simp)]
  simp only [hc, ty]
  rw [if_pos (by simp)]
  rcases Bool.or_eq_true_iff.mp nf with e | e
  · exact absurd (beq_iff_eq.mp e) (by simp)
  · exact beq_iff_eq.mp e
/-- o == y, whatever y is -/
def rEqX (K : PySem.W.Frag) (C : Addr) (sp : Sp) : R2 := fun x y H Q => ∃ a dx fs t, x = .ref a ∧ H a = some (.ins C dx fs) ∧ TyX K H y t ∧ PySem.W.notFirst K C t = true ∧ sp [.ref a, y] H (fun v H' => ∃ c, v = .bl c ∧ Q (.bl c) H') E0
theorem op_eqX {k : Nat} {C : Addr} {ps : List Str} {sp : Sp} (M : HasM X.prog X.w X.K X.mg X.base CX0 k C "__eq__" ps sp) (hr : Room k X.A) : OpR X (compareOp .Eq) (rEqX X.K C sp) := by
  intro pins s σ H x y v u Q I rx ry h
  obtain ⟨f, fd, hm, F, hb⟩ := M.ex
  obtain ⟨a, dx, fs, t, rfl, ha, ty, nf, hq⟩ := h
  obtain rfl : v = Value.ref a := rx
  obtain ⟨mA, J, _⟩ := ins_get I.hok ha
  obtain ⟨od, J, _⟩ := J.look
  obtain ⟨m, hF⟩ := I.fr
  obtain ⟨P, Z, p, _⟩ := kit_of I ry ty
  show wpAny (model X.prog X.w) X.A (richCompare .Eq (.ref a) u) _ _ _
  refine PySem.W.cmp_K (op := .Eq) (tb := t) hr.units0 hF I.ok.mod.kin J (Z.ty _ _ I.kIn p) nf hm.at_ hm.fn (wpAny_mono (run_own (A' := X.A) (vs := [.ref a, y]) F hr rfl hb I (.cons rfl (.cons ry .nil)) hq) (fun w s' hv => ?_) fun _ _ z => z)
  obtain ⟨w, H', I', rw', c, rfl, q⟩ := hv
  cases rw'
  exact ⟨.bl c, H', I', rfl, q⟩
/-- o != p, both of one class, by object.__ne__ -/
def rNeO (C : Addr) (sp : Sp) : R2 := fun x y H Q => ∃ a b dx dy fs gs, x = .ref a ∧ y = .ref b ∧ H a = some (.ins C dx fs) ∧ H b = some (.ins C dy gs) ∧ sp [.ref a, .ref b] H (fun v H' => ∃ c, v = .bl c ∧ Q (.bl (!c)) H') E0
theorem op_neO {k : Nat} {C : Addr} {ps : List Str} {sp : Sp} (M : HasM X.prog X.w X.K X.mg X.base CX0 k C "__eq__" ps sp) (ne : PySem.W.findIn X.K (.ref C) "__ne__" = some (some (.builtin "object.__ne__"))) (mo : PySem.W.mroIn X.K C (.type "object") = some true) (hr : Room (k + 1) X.A) : OpR X (compareOp .NotEq) (rNeO C sp) := by
  intro pins s σ H x y v u Q I rx ry h
  obtain ⟨f, fd, hm, F, hb⟩ := M.ex
  obtain ⟨a, b, dx, dy, fs, gs, rfl, rfl, ha, hb', hq⟩ := h
  obtain rfl : v = Value.ref a := rx
  obtain rfl : u = Value.ref b := ry
  obtain ⟨mA, J, _⟩ := ins_get I.hok ha
  obtain ⟨od, J, _⟩ := J.look
  obtain ⟨mB, J', _⟩ := ins_get I.hok hb'
  obtain ⟨od', J', _⟩ := J'.look
  show wpAny (model X.prog X.w) X.A (richCompare .NotEq (.ref a) (.ref b)) _ _ _
  refine ne_own (tb := .ref C) hr.in1.units0 hr.units0 I.kIn J J'.type (by simp [PySem.W.notFirst]) ne mo hm.at_ hm.fn (wpAny_mono (run_own (A' := X.A.in1) (vs := [.ref a, .ref b]) F hr.in1 rfl hb I (.cons rfl (.cons rfl .nil)) hq) (fun w s' hv => ?_) fun _ _ z => z)
  obtain ⟨w, H', I', rw', c, rfl, q⟩ := hv
  cases rw'
  exact ⟨c, rfl, .bl (!c), H', I', rfl, q⟩
/-- bool(o) -/
def rBoolC (C : Addr) (sp : Sp) : List V → Hp → VK → Prop := fun xs H Q => ∃ x, xs = [x] ∧ rBoolO C sp x H fun c H' => Q (.bl c) H'
theorem call_boolO {k : Nat} {C : Addr} {ps : List Str} {sp : Sp} (M : HasM X.prog X.w X.K X.mg X.base CX0 k C "__bool__" ps sp) (hr : Room (k + 2) X.A) : CallR X (.type "bool") (rBoolC C sp) := by
  intro pins s σ H xs us Q I r h
  obtain ⟨x, rfl, h⟩ := h
  obtain ⟨u, rfl, ru⟩ := vals1 r
  refine bool_own (wpAny_mono (truthO M hr.in1.in1 rfl I ru h) (fun c s' ⟨H', I', q⟩ => ⟨.bl c, H', I', rfl, q⟩) fun _ _ z => z)
/-- the truth of o -/
theorem tru_O {k : Nat} {C : Addr} {ps : List Str} {sp : Sp} (M : HasM X.prog X.w X.K X.mg X.base CX0 k C "__bool__" ps sp) (hr : Room k X.A) : TruR X (rBoolO C sp) := by
  intro pins s σ H x u Q I ru h
  exact truthO M hr rfl I ru h
/-- not o -/
theorem pe_notO {e : Expr} {te : TE} {pos : Pos} {r : V → Hp → (Bool → Hp → Prop) → Prop} (he : PE X e te) (hr : TruR X r) : PE X (.UnaryOp .Not e pos) (fun σ H Q => te σ H fun x H' => r x H' fun c H2 => Q (.bl (!c)) H2) := by
  refine ⟨fun pins s σ H Q I h => ?_⟩
  refine PyProof.Rows.UnaryOp_ (thn (he.run pins s σ H _ I h) fun v s1 ⟨x, H1, I1, r1, q1⟩ => ?_)
  exact PyProof.Rows.not_of (wpAny_mono (hr pins s1 σ H1 x v _ I1 r1 q1) (fun c s2 ⟨H2, I2, q⟩ => ⟨.bl (!c), H2, I2, rfl, q⟩) fun _ _ z => z)
/-- t * 1 is t -/
theorem tuple_mul1 (l : Addr) (items : Array Value) (n : Nat) (dd : Option Addr) (sl : Array (Option Value)) (u : Tok) : Meets (Builtin.«tuple.__mul__» ⟨[.ref l, .int 1 u], []⟩) (fun _ R s => s.heap.get? l = some { cls := .type "tuple", dict := dd, data := .seq items n, slots := sl } ∧ R (.ok (.ret (Value.ref l))) s) :=
  .of_wp fun prog w A R s h => by
    obtain ⟨hp, g, d, tk, os⟩ := s
    obtain ⟨hl, h⟩ := h
    have f1 := AutoSeq1.idx_int
    wp_walk using wpAny_loadPart' hl
    repeat (first
      | (refine wpAny_ite_false (decide_eq_false (by decide)) ?_; wp_walk using wpAny_loadPart' hl)
      | (refine wpAny_ite_true (decide_eq_true (by simp)) ?_; wp_walk using wpAny_loadPart' hl))
    exact ⟨_, rfl, h⟩
def rRepN (K : PySem.W.Frag) : R2 := fun x y H Q => ∃ l n xs, x = .ref l ∧ y = .int ((n : Nat) : Int) ∧ SqT K H l xs ∧ xs ≠ [] ∧ 1 ≤ n ∧ n ≤ 1000 ∧ xs.length ≤ 1000 ∧ ((n = 1 ∧ Q (.ref l) H) ∨ (2 ≤ n ∧ ∀ p, H p = none → Q (.ref p) (upd H p (.tup (List.replicate n xs).flatten))))
theorem op_repN : OpR X (binaryOp .Mult) (rRepN X.K) := by
  intro pins s σ H x y v u Q I rx ry h
  obtain ⟨l, n, xs, rfl, rfl, hT, hne, h1, h2, hz, q⟩ := h
  rcases q with ⟨rfl, q⟩ | ⟨h3, q⟩
  · cases rx
    obtain ⟨t, rfl⟩ := ry
    obtain ⟨its, r, ⟨⟨cls, dd, data, sl⟩, ho, hc, n, hd⟩, hs⟩ := I.tuple hT
    simp only at hc hd
    subst hc hd
    refine wpAny_binaryOp_repeat_ref (T := "tuple") (U := "int") (by decide) ⟨_, ho, rfl⟩ (fun s' => typeIs_int s' 1 t) noFill_tuple_mul F.fills_int_mul F.slot_int_rmul repeat_tuple F.slot_int_index.lookup
      (call_meets F.slot_int_rmul (typeIs_int s 1 t) F.entry_int_rmul (F.args_int_rmul_2 _ _) (int_rmul_tuple 1 t l its.toArray n dd sl)
        ⟨ho, rfl, ⟨_, ho, rfl⟩, call_meets F.slot_tuple_mul ⟨_, ho, rfl⟩ F.entry_tuple_mul (F.args_tuple_mul_2 _ _) (tuple_mul1 l its.toArray n dd sl t) ⟨ho, ?_⟩⟩)
    exact ⟨.ref l, H, I, rfl, q⟩
  · refine op_repT pins s σ H _ _ v u Q I rx ry ⟨l, n, xs, rfl, rfl, hT, hne, by omega, by omega, hz, fun p hp => ?_⟩
    rw [show ((n : Nat) : Int).toNat = n from rfl]
    exact q p hp
end

structure TxKer (mg : Str → Option Value) : Prop extends TxRow mg where
  n_range : mg "range" = none
  n_sum : mg "sum" = none
theorem bb_sum : bootBuiltins "sum" = some (.builtin "sum") := by decide +kernel
theorem atI_ev {o : Row} {c : Nat} (h : c < o.length) : atI (o.map V.int) ((c : Nat) : Int) = some (V.int (ev o c)) := atI_nat (by
  rw [List.getElem?_map, List.getElem?_eq_getElem h]
  show some (V.int o[c]) = _
  unfold ev
  rw [List.getD_eq_getElem?_getD, List.getElem?_eq_getElem h]
  rfl)

/-- there is always a reduced system -/
theorem adds_ex (rs : List Row) (r : Row) : ∃ out, Adds rs r out := by
  by_cases h : leadN (restOf rs r) = none
  · exact ⟨rs, .inl ⟨h, rfl⟩⟩
  · refine ⟨((rs.map (fun o => prim (wo o (restOf rs r)))) ++ [prim (restOf rs r)]).mergeSort fun a b => decide (leadD a ≤ leadD b), .inr ⟨h, List.mergeSort_perm .., ?_⟩⟩
    have q := List.pairwise_mergeSort (le := fun a b : Row => decide (leadD a ≤ leadD b)) (fun a b c h1 h2 => by simp only [decide_eq_true_eq] at *; omega) (fun a b => by simp only [Bool.or_eq_true, decide_eq_true_eq]; omega) ((rs.map (fun o => prim (wo o (restOf rs r)))) ++ [prim (restOf rs r)])
    exact q.imp fun h => by simpa using h

/-! ### the law's pool by cells, thin, rank -/
abbrev sPool : Stmt := topS 19
abbrev NPool : List Str := ["_law_script", "_law_k", "_law_cell", "_law_heavy", "_law_blend", "_law_seed"]
abbrev PPool : List Str := ["_law_script", "_law_k"]
theorem scPool : FnScope NPool PPool (defScope sPool) := ⟨rfl, rfl, rfl, by decide +kernel, rfl, by decide +kernel, by decide +kernel⟩
abbrev sTake : Stmt := topS 20
abbrev NTake : List Str := ["_law_pool_here", "_law_wide", "_law_result"]
abbrev PTake : List Str := ["_law_pool_here", "_law_wide"]
theorem scTake : FnScope NTake PTake (defScope sTake) := ⟨rfl, rfl, rfl, by decide +kernel, rfl, by decide +kernel, by decide +kernel⟩
theorem bb_max : bootBuiltins "max" = some (.builtin "max") := by decide +kernel
theorem bb_min : bootBuiltins "min" = some (.builtin "min") := by decide +kernel
theorem b01 (b : Bool) : 0 ≤ (if b = true then (1 : Int) else 0) ∧ (if b = true then (1 : Int) else 0) < 2 ^ 64 := by
  cases b <;> decide
def PoolB (H : Hp) (p : Addr) : Prop := ∃ h s : Int, H p = some (.lst [.int h, .int s]) ∧ 0 ≤ h ∧ 0 ≤ s ∧ s < 2147483647
section
variable {P : Program} {w : World} {K : PySem.W.Frag} {mg : Str → Option Value} {base : Heap}
def spPoolB (K : PySem.W.Frag) : Sp := fun vs H Q _ => ∃ (a : Addr) (ns : List Int) (k : Nat), vs = [.ref a, .int (k : Nat)] ∧ SqL K H a (ns.map V.int) ∧ k ≤ 10 ∧ ∀ (p : Addr) (H' : Hp), Same H H' → H p = none → PoolB H' p → Q (.ref p) H'
theorem ok_PoolB {f : Addr} {fd : FuncData} (F : Fun K "_law_pool" "_law_pool" sPool f fd) (T : TxKer mg) : FnOk P w K mg base CX0 1 f fd PPool (spPoolB K) := by
  refine F.ok scPool (fun vs H Q E h => ?_) (fun cdv A outer s H vs Q E hr h => ?_)
  · obtain ⟨a, ns, k, rfl, _⟩ := h
    rfl
  · obtain ⟨a, ns, k, rfl, hS, hk, kq⟩ := h
    refine ⟨_, (pss_cons (ps_set (i := 2) scPool.nd rfl (Or.inl rfl) pe_int)
  (pss_cons (ps_if (pt_cmpR op_lt (pv 1) (pe_callB call_len_seq (by rfl) T.n_len bb_len (pa_cons (pv 0) pa_nil)) (nomark _))
  (pss_one (ps_set (i := 2) scPool.nd rfl (Or.inl rfl) (pe_ix (r := rIxL K) ix_list (pv 0) (pv 1) (fun _ _ => rfl))))
  pss_nil)
  (pss_cons (ps_set (i := 3) scPool.nd rfl (Or.inl rfl) (pe_callB call_abs (by rfl) T.n_abs bb_abs (pa_cons (pv 2) pa_nil)))
  (pss_cons (ps_set (i := 4) scPool.nd rfl (Or.inl rfl) (pe_op op_mod (pe_op op_mul (pe_callTy call_int1 (by rfl) T.n_int bb_int (pa_cons (pe_op op_add (pe_op op_mod (pe_callTy call_int1 (by rfl) T.n_int bb_int (pa_cons (pv 2) pa_nil)) pe_int) (pe_op op_mul pe_int (pe_op op_add (pv 1) pe_int))) pa_nil)) (pe_op op_add (pv 1) pe_int)) pe_int))
  (pss_cons (ps_set (i := 5) scPool.nd rfl (Or.inl rfl) (pe_op op_mod (pe_op op_mul (pe_op op_mod (pe_callTy call_int1 (by rfl) T.n_int bb_int (pa_cons (pe_op op_mul (pv 4) (pv 4)) pa_nil)) pe_int) pe_int) pe_int))
  (pss_one (ps_ret (pe_lst (pa_cons (pe_op op_mul (pv 3) (pe_callTy call_int1 (by rfl) T.n_int bb_int (pa_cons (pe_cmpR op_ge (pv 3) (pe_op op_pow pe_int pe_int) (nomark _)) pa_nil))) (pa_cons (pv 5) pa_nil)))))))))), ?_⟩
    refine ⟨_, rfl, _, rfl, a, _, rfl, .inl hS, _, _, rfl, rfl, _, rfl, ite2 (fun hlt => ?ga) (fun hlt => ?gb)⟩
    case' ga =>
      have hlt := of_decide_eq_true hlt
      rw [List.length_map] at hlt
      obtain ⟨cell, hcell⟩ : ∃ z, ns[k]? = some z := ⟨ns[k]'(by omega), by simp [show k < ns.length by omega]⟩
      refine ⟨_, rfl, _, rfl, a, _, _, _, rfl, rfl, hS, atI_nat (by rw [List.getElem?_map, hcell]; rfl), ?_⟩
    all_goals
      refine ⟨_, rfl, _, rfl, ?_⟩
      refine ⟨_, rfl, .inl ⟨_, rfl, _, _, rfl, rfl, (show (0 : Int) < 2147483629 by decide), _, rfl, _, _, rfl, rfl, _, _, rfl, rfl, .inl ⟨by decide, by decide⟩, _, _, rfl, rfl, .inl ⟨_, rfl, _, rfl, _, _, rfl, rfl, _, _, rfl, rfl, .inr ⟨by omega, by omega⟩, _, _, rfl, rfl, (show (0 : Int) < 2147483629 by decide), ?_⟩⟩⟩
      obtain ⟨bl, ebl, bl0, bl1⟩ : ∃ bl : Int, bl = _ % 2147483629 ∧ 0 ≤ bl ∧ bl < 2147483629 := ⟨_, rfl, Int.emod_nonneg _ (by decide), Int.emod_lt_of_pos _ (by decide)⟩
      rw [← ebl]
      refine ⟨_, rfl, _, rfl, _, _, rfl, rfl, .inl ⟨by omega, by omega⟩, .inl ⟨_, rfl, _, _, rfl, rfl, (show (0 : Int) < 2147483629 by decide), _, _, rfl, rfl, .inr ⟨by decide, by decide⟩, _, _, rfl, rfl, (show (0 : Int) < 2147483647 by decide), ?_⟩⟩
      refine ⟨_, rfl, _, rfl, _, _, rfl, rfl, ⟨by decide, by decide, by decide⟩, _, _, rfl, rfl, .inr ⟨_, rfl, _, _, rfl, rfl, ?_, _, rfl, (by show 2 ≤ sizeLine; decide), fun p hp => kq p _ (same_new hp) hp ⟨_, _, upd_same, ?_, Int.emod_nonneg _ (by decide), Int.emod_lt_of_pos _ (by decide)⟩⟩⟩
      · exact .inr ⟨Int.lt_of_lt_of_le (by decide) (b01 _).1, (b01 _).2⟩
      · refine Int.mul_nonneg ?_ (b01 _).1
        split <;> omega
def spTake : Sp := fun vs H Q _ => ∃ (p : Addr) (m : Int), vs = [.ref p, .int m] ∧ PoolB H p ∧ 0 < m ∧ m ≤ 1000 ∧ ∀ (r : Int) (H' : Hp), 0 ≤ r → r < m → PoolB H' p → (∀ b o, H b = some o → b ≠ p → H' b = some o) → Q (.int r) H'
theorem ok_Take {f : Addr} {fd : FuncData} (F : Fun K "_law_take" "_law_take" sTake f fd) (T : TxKer mg) : FnOk P w K mg base CX0 1 f fd PTake spTake := by
  refine F.ok scTake (fun vs H Q E h => ?_) (fun cdv A outer s H vs Q E hr h => ?_)
  · obtain ⟨p, m, rfl, _⟩ := h
    rfl
  · obtain ⟨p, m, rfl, ⟨h0, s0, hp, hh, hs0, hs1⟩, m0, m1, kq⟩ := h
    refine ⟨_, (pss_cons (ps_if (pt_cmpR op_gt (pe_ix (r := rIxL K) ix_list (pv 0) pe_int (fun _ _ => rfl)) pe_int (nomark _))
  (pss_cons (ps_set (i := 2) scTake.nd rfl (Or.inl rfl) (pe_op op_mod (pe_callTy call_int1 (by rfl) T.n_int bb_int (pa_cons (pe_ix (r := rIxL K) ix_list (pv 0) pe_int (fun _ _ => rfl)) pa_nil)) (pv 1)))
  (pss_cons (ps_asg (pe_op op_fdiv (pe_ix (r := rIxL K) ix_list (pv 0) pe_int (fun _ _ => rfl)) (pv 1)) (pg_sub (pv 0) pe_int set_list))
  (pss_one (ps_ret (pv 2)))))
  pss_nil)
  (pss_cons (ps_asg (pe_op op_mod (pe_callTy call_int1 (by rfl) T.n_int bb_int (pa_cons (pe_op op_add (pe_op op_mul (pe_ix (r := rIxL K) ix_list (pv 0) pe_int (fun _ _ => rfl)) pe_int) pe_int) pa_nil)) pe_int) (pg_sub (pv 0) pe_int set_list))
  (pss_one (ps_ret (pe_op op_mod (pe_op op_fdiv (pe_op op_mod (pe_callTy call_int1 (by rfl) T.n_int bb_int (pa_cons (pe_op op_mul (pe_ix (r := rIxL K) ix_list (pv 0) pe_int (fun _ _ => rfl)) (pe_ix (r := rIxL K) ix_list (pv 0) pe_int (fun _ _ => rfl))) pa_nil)) pe_int) pe_int) (pv 1)))))), ?_⟩
    have set0 : ∀ x : Int, ([V.int h0, V.int s0].set 0 (V.int x)) = [V.int x, V.int s0] := fun _ => rfl
    have set1 : ∀ x : Int, ([V.int h0, V.int s0].set 1 (V.int x)) = [V.int h0, V.int x] := fun _ => rfl
    refine ⟨_, rfl, p, _, _, _, rfl, rfl, SqL.of hp, rfl, _, _, rfl, rfl, _, rfl, ite2 (fun hpos => ?_) (fun hpos => ?_)⟩
    · refine ⟨_, rfl, p, _, _, _, rfl, rfl, SqL.of hp, rfl, .inl ⟨_, rfl, _, rfl, _, _, rfl, rfl, m0, ?_⟩⟩
      refine ⟨_, rfl, p, _, _, _, rfl, rfl, SqL.of hp, rfl, _, rfl, _, _, rfl, rfl, ⟨m0, by omega⟩, _, rfl, p, _, _, 0, rfl, rfl, hp, rfl, ?_⟩
      rw [set0]
      exact ⟨_, rfl, kq _ _ (Int.emod_nonneg _ (by omega)) (Int.emod_lt_of_pos _ m0) ⟨_, s0, upd_same, Int.ediv_nonneg hh (by omega), hs0, hs1⟩ fun b o e hb => by rw [upd_ne hb]; exact e⟩
    · refine ⟨_, rfl, p, _, _, _, rfl, rfl, SqL.of hp, rfl, _, _, rfl, rfl, .inr ⟨by decide, by decide⟩, _, _, rfl, rfl, .inl ⟨_, rfl, _, _, rfl, rfl, (show (0 : Int) < 2147483647 by decide), _, rfl, p, _, _, 1, rfl, rfl, hp, rfl, ?_⟩⟩
      rw [set1]
      obtain ⟨sd, esd, sd0, sd1⟩ : ∃ sd : Int, sd = (s0 * 48271 + 12345) % 2147483647 ∧ 0 ≤ sd ∧ sd < 2147483647 := ⟨_, rfl, Int.emod_nonneg _ (by decide), Int.emod_lt_of_pos _ (by decide)⟩
      rw [← esd]
      refine ⟨_, rfl, p, _, _, _, rfl, rfl, SqL.of upd_same, rfl, _, rfl, p, _, _, _, rfl, rfl, SqL.of upd_same, rfl, _, _, rfl, rfl, .inl ⟨by omega, by omega⟩, .inl ⟨_, rfl, _, _, rfl, rfl, (show (0 : Int) < 2147483629 by decide), _, _, rfl, rfl, ⟨by decide, by decide⟩, _, rfl, _, _, rfl, rfl, m0, ?_⟩⟩
      exact kq _ _ (Int.emod_nonneg _ (by omega)) (Int.emod_lt_of_pos _ m0) ⟨h0, sd, upd_same, hh, sd0, sd1⟩ fun b o e hb => by rw [upd_ne hb]; exact e
def dRows (rs : List Row) : PyData := .list (rs.map fun r => .tuple (r.map .int))
theorem dp_ints {H : Hp} : ∀ r : Row, DpAll K H (r.map V.int) (r.map PyData.int)
  | [] => .nil
  | x :: r => .cons (.int x) (dp_ints r)
theorem dp_rows {H : Hp} {p : Addr} {xs : List V} {rs : List Row} (e : H p = some (.lst xs)) (h : RowsIn H xs rs) : Dp K H (.ref p) (dRows rs) := by
  refine .lst (SqL.of e) ?_
  clear e
  induction h with
  | nil => exact .nil
  | cons r _ ih =>
    obtain ⟨a, rfl, q⟩ := r
    exact .cons (.tup (SqT.of q) (dp_ints _)) ih
theorem lay_ints : ∀ r : Row, PyData.canLayAll0 (r.map PyData.int) = true
  | [] => by simp [PyData.canLayAll0]
  | x :: r => by simp only [List.map_cons, PyData.canLayAll0, PyData.canLay0, Bool.true_and]; exact lay_ints r
theorem depth_ints : ∀ r : Row, PyData.depthAll (r.map PyData.int) = 0
  | [] => by simp [PyData.depthAll]
  | x :: r => by simp only [List.map_cons, PyData.depthAll, PyData.depth, depth_ints r]; rfl
theorem lay_rows : ∀ rs : List Row, PyData.canLayAll0 (rs.map fun r => PyData.tuple (r.map .int)) = true
  | [] => by simp [PyData.canLayAll0]
  | r :: rs => by
    simp only [List.map_cons, PyData.canLayAll0, PyData.canLay0, lay_ints r, Bool.true_and]
    exact lay_rows rs
theorem depth_rows : ∀ rs : List Row, PyData.depthAll (rs.map fun r => PyData.tuple (r.map .int)) ≤ 1
  | [] => by simp [PyData.depthAll]
  | r :: rs => by
    have := depth_rows rs
    simp only [List.map_cons, PyData.depthAll, PyData.depth, depth_ints r]
    omega
theorem shaped_rows (rs : List Row) : SeqAt.shaped (dRows rs) = true := by
  have q := depth_rows rs
  unfold SeqAt.shaped dRows
  rw [Bool.and_eq_true]
  refine ⟨by simp only [PyData.canLay0]; exact lay_rows rs, decide_eq_true ?_⟩
  simp only [PyData.depth]
  omega
theorem eqv_rows (rs : List Row) : PyData.eqv (dRows rs) (dRows rs) = true := SeqAt.eqv_refl _ (by simp only [dRows, PyData.canLay0]; exact lay_rows rs)
theorem shaped_ints (r : Row) : SeqAt.shaped (.list (r.map .int)) = true := by
  unfold SeqAt.shaped
  simp only [PyData.canLay0, PyData.depth, lay_ints, depth_ints, Bool.true_and]
  decide
theorem eqv_nil_rows (rs : List Row) : PyData.eqv (dRows rs) (.list []) = decide (rs = []) := by
  cases rs with
  | nil => rfl
  | cons r rs => rfl
theorem eqv_nil_ints (r : Row) : PyData.eqv (.list (r.map .int)) (.list []) = decide (r = []) := by
  cases r with
  | nil => rfl
  | cons x r => rfl
end

/-! ### k43: is_row of any value, reduced that raises -/
/-- what is no row of n numbers -/
inductive NoRowM (K : PySem.W.Frag) (H : Hp) (n : Nat) : V → Prop where
  | kind {v : V} {t : Value} (ty : TyX K H v t) (k : PySem.W.kitOne K t (.type "tuple") = some false) : NoRowM K H n v
  | len {p : Addr} {xs : List V} (e : H p = some (.tup xs)) (h : xs.length ≠ n) : NoRowM K H n (.ref p)
  | item {p : Addr} {xs : List V} (e : H p = some (.tup xs)) (h : xs.length = n) (h1 : n ≤ 1000) (k : ∀ H', Same H H' → ∀ x ∈ xs, (∃ i : Int, x = .int i) ∨ NoInt K H' x) (b : ∃ x ∈ xs, ∀ i : Int, x ≠ .int i) : NoRowM K H n (.ref p)
def isIV : V → Bool
  | .int _ => true
  | _ => false
def spRowM (K : PySem.W.Frag) : Sp := fun vs H Q _ => ∃ (v : V) (n : Nat), vs = [v, .int (n : Nat)] ∧ ((∃ (p : Addr) (r : Row), v = .ref p ∧ TupAt H p r ∧ r.length = n ∧ r.length ≤ 1000 ∧ ∀ H', Same H H' → Q (.bl true) H') ∨ (NoRowM K H n v ∧ ∀ H', Same H H' → Q (.bl false) H'))
section
variable {P : Program} {w : World} {K : PySem.W.Frag} {mg : Str → Option Value} {base : Heap} {C' : Nat → Addr}
theorem ok_IsRowM {f : Addr} {fd : FuncData} (F : Fun K "is_row" "is_row" sIsRow f fd) (T : TxRow mg) (GI : Has P w K mg base CX0 1 "is_integer" PIsInt (spIsInt K)) : FnOk P w K mg base CX0 2 f fd PIsRow (spRowM K) := by
  refine F.ok scIsRow (fun vs H Q E h => ?_) (fun cdv A outer s H vs Q E hr h => ?_)
  · obtain ⟨v, n, rfl, _⟩ := h
    rfl
  · obtain ⟨v, n, rfl, h⟩ := h
    refine ⟨_, (pss_one (ps_ret (pe_and (pe_callB call_isi (by rfl) T.n_isinstance bb_isinstance (pa_cons (pv 0) (pa_cons (pe_bltn (v := .ty "tuple") (by rfl) T.n_tuple bb_tuple rfl) pa_nil))) (pe_and (pe_cmpR op_eq (pe_callB call_len_seq (by rfl) T.n_len bb_len (pa_cons (pv 0) pa_nil)) (pv 1) (nomark _)) (pe_one (pe_callB (cr_all rfl) (by rfl) T.n_all bb_all (pa_cons (pe_lc (own := [("one", 2)]) (g := gName 2) (tt := tYes) rfl scIsRow.nd (pi_tup (pv 0)) (blkOk_by (own := [("one", 2)]) (N := NIsRow) (sc := (defScope sIsRow)) (by decide +kernel)) (fun _ _ _ _ _ => (pg_name (i := 2) scIsRow.nd rfl (Or.inl rfl))) (fun _ _ _ _ _ => pts_nil) (fun _ _ _ _ _ => (pe_callH GI hr rfl pass0 (pa_cons (pv 2) pa_nil)))) pa_nil))))))), ?_⟩
    rcases h with ⟨p, r, rfl, hp, hn, hl, k⟩ | ⟨h, k⟩
    · refine ⟨_, rfl, _, _, _, _, _, rfl, .ty _, .base (.tup hp), kit_ty (r := true) (by decide +kernel), _, rfl, ?_⟩
      refine ⟨_, rfl, p, _, rfl, .inr (SqT.of hp), _, rfl, rfl, ?_⟩
      rw [List.length_map, hn]
      refine ⟨true, by rw [decide_eq_true rfl], ?_⟩
      refine ⟨_, rfl, p, rfl, ⟨_, SqT.of hp⟩, fun D hD => ?_⟩
      refine lc_map (walk_tup (K := K) (a := p) (xs := r.map V.int)) (fun _ => V.bl true) hD (by rw [List.length_map]; exact hl) (fun H' s' => SqT.of (s' _ _ hp)) ?_ ?_
      · rintro i x H3 H4 kk hi s3 ⟨rfl, hxi⟩ kc
        obtain ⟨z, hz, rfl⟩ := int_at hxi
        exact ⟨rfl, _, rfl, _, rfl, .inl ⟨z, rfl, kc _ (Same.refl _)⟩⟩
      · intro H3 s3 e3
        refine ⟨D, (List.range (r.map V.int).length).map (fun _ => true), rfl, SqL.of (by rw [e3, List.map_map]; rfl), ?_⟩
        have ea : ((List.range (r.map V.int).length).map (fun _ => true)).all id = true := by
          rw [List.all_eq_true]
          intro b hb
          obtain ⟨_, _, rfl⟩ := List.mem_map.mp hb
          rfl
        rw [ea]
        exact k _ s3
    · cases h with
      | kind ty kt => exact ⟨_, rfl, _, _, _, _, _, rfl, .ty _, ty, kt, _, rfl, k _ (Same.refl _)⟩
      | @len p xs e ne =>
        refine ⟨_, rfl, _, _, _, _, _, rfl, .ty _, .base (.tup e), kit_ty (r := true) (by decide +kernel), _, rfl, ?_⟩
        refine ⟨_, rfl, p, _, rfl, .inr (SqT.of e), _, rfl, rfl, ?_⟩
        refine ⟨false, by rw [decide_eq_false fun z => ne (by injection z with z; omega)], ?_⟩
        exact k _ (Same.refl _)
      | @item p xs e hn h1 ki hb =>
        refine ⟨_, rfl, _, _, _, _, _, rfl, .ty _, .base (.tup e), kit_ty (r := true) (by decide +kernel), _, rfl, ?_⟩
        refine ⟨_, rfl, p, _, rfl, .inr (SqT.of e), _, rfl, rfl, ?_⟩
        rw [hn]
        refine ⟨true, by rw [decide_eq_true rfl], ?_⟩
        refine ⟨_, rfl, p, rfl, ⟨_, SqT.of e⟩, fun D hD => ?_⟩
        refine lc_map (walk_tup (K := K) (a := p) (xs := xs)) (fun i => V.bl (isIV (xs.getD i .non))) hD (by omega) (fun H' s' => SqT.of (s' _ _ e)) ?_ ?_
        · rintro i x H3 H4 kk hi s3 ⟨rfl, hxi⟩ kc
          have ex : xs.getD i .non = x := by rw [List.getD_eq_getElem?_getD, hxi]; rfl
          rw [ex] at kc
          rcases ki _ s3 x (List.mem_of_getElem? hxi) with ⟨z, rfl⟩ | hz
          · exact ⟨rfl, _, rfl, _, rfl, .inl ⟨z, rfl, kc _ (Same.refl _)⟩⟩
          · refine ⟨rfl, _, rfl, _, rfl, .inr ⟨hz, ?_⟩⟩
            have e2 : isIV x = false := by
              cases x with
              | int i =>
                obtain ⟨t, b, ty, k1, k2⟩ := hz
                cases ty with
                | base h =>
                  cases h
                  have e1 : PySem.W.kitOne K (.type "int") (.type "int") = some true := kit_ty (r := true) (by decide +kernel)
                  have e3 : PySem.W.kitOne K (.type "int") (.type "bool") = some false := kit_ty (r := false) (by decide +kernel)
                  rw [e1] at k1
                  have := k2 (Option.some.inj k1).symm
                  rw [e3] at this
                  cases this
              | _ => rfl
            rw [e2] at kc
            exact kc _ (Same.refl _)
        · intro H3 s3 e3
          refine ⟨D, (List.range xs.length).map (fun i => isIV (xs.getD i .non)), rfl, SqL.of (by rw [e3, List.map_map]; rfl), ?_⟩
          have ea : ((List.range xs.length).map (fun i => isIV (xs.getD i .non))).all id = false := by
            rw [List.all_eq_false]
            obtain ⟨x, hx, nx⟩ := hb
            obtain ⟨i, hi, ei⟩ := List.getElem_of_mem hx
            refine ⟨false, List.mem_map.mpr ⟨i, List.mem_range.mpr hi, ?_⟩, by decide⟩
            rw [List.getD_eq_getElem?_getD, List.getElem?_eq_getElem hi]
            show isIV xs[i] = false
            rw [ei]
            cases x <;> first | rfl | exact absurd rfl (nx _)
          rw [ea]
          exact k _ s3
/-- all but instances stays -/
def KeepI (H H' : Hp) : Prop := ∀ b o, H b = some o → (∀ C dx fs, o ≠ .ins C dx fs) → H' b = some o
theorem KeepI.of {H H' : Hp} (s : Same H H') : KeepI H H' := fun b o e _ => s b o e
theorem KeepI.trans {H H1 H2 : Hp} (a : KeepI H H1) (b : KeepI H1 H2) : KeepI H H2 := fun x o e n => b x o (a x o e n) n
theorem KeepI.ins {H : Hp} {S C dx : Addr} {fs : List (Str × V)} (e : H S = some (.ins C dx fs)) (o : HO) : KeepI H (upd H S o) := fun b u z n => by
  rw [upd_ne (fun q => n C dx fs (by rw [q, e] at z; exact (Option.some.inj z).symm))]
  exact z
/-- good rows, then one that is none -/
structure BadRows (K : PySem.W.Frag) (H : Hp) (R : Addr) (n : Nat) (v : V) : Prop where
  ex : ∃ (xs rest : List V) (gs : List Row), H R = some (.lst (xs ++ v :: rest)) ∧ RowsIn H xs gs ∧ (∀ r ∈ gs, r.length = n ∧ Small r 3) ∧ gs.length ≤ 2
  no : ∀ H', KeepI H H' → NoRowM K H' n v
  n2 : n ≤ 100
theorem BadRows.keep {K : PySem.W.Frag} {H H' : Hp} {R : Addr} {n : Nat} {v : V} (h : BadRows K H R n v) (s : KeepI H H') : BadRows K H' R n v :=
  ⟨let ⟨xs, rest, gs, e, h1, h2, h3⟩ := h.ex; ⟨xs, rest, gs, s _ _ e (fun _ _ _ z => by cases z), h1.same (fun b ys z => s _ _ z (fun _ _ _ q => by cases q)), h2, h3⟩, fun H2 s2 => h.no H2 (s.trans s2), h.n2⟩
theorem BadRows.same {K : PySem.W.Frag} {H H' : Hp} {R : Addr} {n : Nat} {v : V} (h : BadRows K H R n v) (s : Same H H') : BadRows K H' R n v := h.keep (KeepI.of s)
/-- an error with its value -/
def ErrV (H : Hp) (E : XK) (CI : Addr) (v : V) : Prop := ∀ d H', Same H H' → H' d = none → E (.ref CI) (some d) (upd H' d (.xd [("value", v)]))
theorem ErrV.same {H H' : Hp} {E : XK} {CI : Addr} {v : V} (h : ErrV H E CI v) (s : Same H H') : ErrV H' E CI v := fun d H2 s2 hd => h d H2 (s.trans s2) hd
def spRedX (K : PySem.W.Frag) (CI : Addr) : Sp := fun vs H _ E => ∃ (R : Addr) (n : Nat) (v : V), vs = [.ref R, .int (n : Nat)] ∧ BadRows K H R n v ∧ ErrV H E CI v
theorem ok_RedX {f : Addr} {fd : FuncData} (F : Fun K "reduced" "reduced" sRed f fd) (T : TxRow mg) (X : ErrH P w K mg base C') (GR : Has P w K mg base CX0 2 "is_row" PIsRow (spRowM K)) (GA : Has P w K mg base CX0 5 "added" PAdded (spAdded K)) : FnOk P w K mg base (L2N.CX P w) 6 f fd PRed (spRedX K (C' 1)) := by
  refine Fun.okN F scRed (fun vs H Q E h => ?_) (fun cdv A outer sh H vs Q E hr h => ?_)
  · obtain ⟨R, n, v, rfl, _⟩ := h
    rfl
  · obtain ⟨R, n, v, rfl, B, hE⟩ := h
    have hr2 := hr.mono (j := 2) (by decide)
    have tk := L2N.takes_of (X := cxOf (L2N.CX P w) P w K mg base NRed "reduced" (defScope sRed) f cdv A outer sh H E) (E := E) rfl rfl rfl rfl
    refine ⟨_, (pss_cons (ps_set (i := 2) scRed.nd rfl (Or.inl rfl) (pe_lst pa_nil))
  (pss_cons (ps_for (passes_of rfl) rfl (pi_list (pv 0)) (pg_name (i := 3) scRed.nd rfl (Or.inl rfl))
  (pss_cons (ps_if (pt_not (pt_val (pe_callH GR hr2 rfl pass0 (pa_cons (pv 3) (pa_cons (pv 1) pa_nil)))))
  (pss_one (ps_raiseX rfl tk X.h1 hr2 rfl (pa_cons (pv 3) pa_nil)))
  pss_nil)
  (pss_one (ps_set (i := 2) scRed.nd rfl (Or.inl rfl) (pe_callH GA hr rfl pass0 (pa_cons (pv 2) (pa_cons (pv 3) pa_nil)))))))
  (pss_one (ps_ret (pv 2))))), ?_⟩
    obtain ⟨xs, rest, gs, eR, hx, hrow, h2⟩ := B.ex
    have lx : xs.length = gs.length := Paired.length hx
    refine ⟨(by show 0 ≤ sizeLine; decide), fun L0 hL0 => ?_⟩
    have s0 := same_new (o := .lst []) hL0
    refine ⟨_, rfl, R, rfl, ⟨_, SqL.of (s0 _ _ eR)⟩, for_list (K := K) (a := R) (xs := xs ++ v :: rest) (fun i σ H' => i ≤ xs.length ∧ Same H H' ∧ ∃ (L : Addr) (ys : List V) (out : List Row) (x : Option V), σ = [some (.ref R), some (.int (n : Nat)), some (.ref L), x] ∧ H L = none ∧ H' L = some (.lst ys) ∧ RowsIn H' ys out ∧ Reds n 3 (gs.take i) out) ?_ (fun i σ H' _ h' => SqL.of (h'.2.1 _ _ eR)) ?_ ?_⟩
    · exact ⟨Nat.zero_le _, s0, L0, [], [], none, rfl, hL0, upd_same, .nil, reds_nil⟩
    · rintro i x σ H1 hv ⟨hi, s1, L, ys, out, x3, rfl, hL0, hL, hy, hR1⟩
      by_cases hlt : i < xs.length
      · rw [List.getElem?_append_left hlt] at hv
        obtain ⟨r, hri, q, rfl, hq⟩ := Paired.at hx hv
        obtain ⟨r1, r2⟩ := hrow r (List.mem_of_getElem? hri)
        have n2 := B.n2
        refine ⟨_, rfl, _, rfl, _, n, rfl, .inl ⟨q, r, rfl, s1 _ _ hq, r1, by omega, fun H2 s2 => ⟨true, rfl, ?_⟩⟩⟩
        have s12 := s1.trans s2
        have le := hR1.le
        rw [List.length_take] at le
        have b1 : 3 + (out.length + 1) * (EB 3 out.length + 1) ≤ 9000 := by
          have l2 : out.length ≤ 2 := by omega
          match out.length, l2 with
          | 0, _ => decide
          | 1, _ => decide
          | 2, _ => decide
        refine ⟨_, rfl, _, rfl, L, q, ys, out, r, 3, EB 3 out.length, rfl, s2 _ _ hL, hy.same (TSame.of s2), s12 _ _ hq, fun o ho => ⟨by rw [hR1.rs.len o ho, r1], hR1.small o ho, by rw [(hR1.rs.lead ho).1]; exact fun z => (by cases z)⟩, by omega, by omega, r2, by decide, EB_pos (by decide) _, b1, adds_pre hR1.rs r1, fun L' ys' out' H3 s3 fr hL' hy' ha => ?_⟩
        refine ⟨hlt, s12.trans s3, L', ys', out', _, rfl, ?_, hL', hy', by rw [take_snoc hri]; exact reds_snoc hR1 r1 r2 ha⟩
        rcases fr with rfl | fr
        · exact hL0
        · exact s12.free fr
      · have ei : i = xs.length := by omega
        subst ei
        rw [List.getElem?_append_right (Nat.le_refl _), Nat.sub_self] at hv
        cases hv
        refine ⟨_, rfl, _, rfl, _, n, rfl, .inr ⟨B.no _ (KeepI.of s1), fun H2 s2 => ⟨false, rfl, ?_⟩⟩⟩
        exact ⟨_, rfl, _, rfl, fun d hd => hE d H2 (s1.trans s2) hd⟩
    · rintro σ H1 ⟨hi, _⟩
      rw [List.length_append] at hi
      simp at hi
      omega
end

/-! ### methods that errors leave -/
/-- o.m(e, ..), what it raises told by the slots -/
def tMethT (C : Addr) (m : Str) (sp : Sp) (E : L2.St → XK) (ta : TE) (t : TA) : TE := fun σ H Q => ta σ H fun x H1 => ∃ a dx fs, x = .ref a ∧ H1 a = some (.ins C dx fs) ∧ fs.lookup m = none ∧ t σ H1 fun vs H2 => sp (x :: vs) H2 Q (E σ)
theorem pe_methT {X : Cx} {CX : CXT} {k : Nat} {C : Addr} {m : Str} {ps : List Str} {sp : Sp} {E : L2.St → XK} {o e : Expr} {es : List Expr} {ta : TE} {t : TA} {apos pos : Pos} {pl : Sem Bool} (he : PE X o ta) (c : Cls X.K C) (M : HasM X.prog X.w X.K X.mg X.base CX k C m ps sp) (hr : Room k X.A) (hx : ∀ σ, PassesAt CX X σ (E σ)) (ha : PA X (e :: es) t)
    (hst : starEach (e :: es) X.env = (false, eval e X.env) :: starEach es X.env := by rfl) (hpl : (backTo pos (starEach es X.env)).any (·.1) = false := by rfl)
    (ht : eval (.Call (.Attribute o m apos) (e :: es) [] pos) X.env = (do
      let ov ← eval o X.env
      standAt apos.atName
      let (f, first) ← holding [ov] (getMethod ov m pl)
      callWith pos f first (backTo pos (starEach (e :: es) X.env)) (backToKw pos (keywordEach [] X.env))) := by rfl) :
    PE X (.Call (.Attribute o m apos) (e :: es) [] pos) (tMethT C m sp E ta t) := by
  obtain ⟨f, fd, hm, F, hb⟩ := M.ex
  refine ⟨fun pins s σ H Q I h => ?_⟩
  refine PySem.W.methodCall_KW (pl := pl) (thn (he.run pins s σ H _ I h) fun u s1 ⟨x, H1, I1, rx, a, dx, fs, ex, ea, l, q⟩ => ?_) ht
  subst ex
  obtain rfl : u = Value.ref a := rx
  refine getmeth_ok I1 ea c hm l ?_
  refine PySem.W.callWith_K (first := [.ref a]) (h₀ := X.base) I.ok.mod.kin hm.kp (thn (ha.run pos pins s1 σ H1 _ I1 q) fun us s2 ⟨vs, H2, I2, r, q2⟩ => ⟨I2.kIn, ?_⟩) hst hpl
  exact run_fnS (us := .ref a :: us) (vs := .ref a :: vs) F hr hb (hx σ) I2 (.cons rfl r) q2
theorem pass0N {X : Cx} : Passes (L2N.CX X.prog X.w) X E0 := fun _ _ _ _ _ _ _ c => by
  obtain ⟨_, _, _, _, _, _, _, _, _, _, _, _, z⟩ := c
  exact z.elim
theorem tNilGo {σ : L2.St} {H : Hp} {k : List V → Hp → Prop} (h : k [] H) : tNil σ H k := h

/-! ### k43: kernel and Space, where they raise -/
abbrev sKer : Stmt := topS 14
abbrev NKer : List Str := ["rows", "width", "known", "leads", "row", "found", "free", "factor", "values"]
abbrev PKer : List Str := ["rows", "width"]
theorem scKer : FnScope NKer PKer (defScope sKer) := ⟨rfl, rfl, rfl, by decide +kernel, rfl, by decide +kernel, by decide +kernel⟩
/-! ### the class Space -/
abbrev sIterR : Stmt := topS 16
abbrev NIterR : List Str := ["width", "rows"]
abbrev PIterR : List Str := ["width", "rows"]
theorem scIterR : FnScope NIterR PIterR (defScope sIterR) := ⟨rfl, rfl, rfl, by decide +kernel, rfl, by decide +kernel, by decide +kernel⟩
abbrev sSpIni : Stmt := inClass (topS 17) 0
abbrev NSpIni : List Str := ["self", "width", "rows"]
abbrev PSpIni : List Str := ["self", "width", "rows"]
theorem scSpIni : FnScope NSpIni PSpIni (defScope sSpIni) := ⟨rfl, rfl, rfl, by decide +kernel, rfl, by decide +kernel, by decide +kernel⟩
abbrev sSpWid : Stmt := inClass (topS 17) 1
abbrev NSpWid : List Str := ["self"]
abbrev PSpWid : List Str := ["self"]
theorem scSpWid : FnScope NSpWid PSpWid (defScope sSpWid) := ⟨rfl, rfl, rfl, by decide +kernel, rfl, by decide +kernel, by decide +kernel⟩
abbrev sSpRows : Stmt := inClass (topS 17) 2
abbrev NSpRows : List Str := ["self"]
abbrev PSpRows : List Str := ["self"]
theorem scSpRows : FnScope NSpRows PSpRows (defScope sSpRows) := ⟨rfl, rfl, rfl, by decide +kernel, rfl, by decide +kernel, by decide +kernel⟩
abbrev sSpLen : Stmt := inClass (topS 17) 3
abbrev NSpLen : List Str := ["self"]
abbrev PSpLen : List Str := ["self"]
theorem scSpLen : FnScope NSpLen PSpLen (defScope sSpLen) := ⟨rfl, rfl, rfl, by decide +kernel, rfl, by decide +kernel, by decide +kernel⟩
abbrev sSpBool : Stmt := inClass (topS 17) 4
abbrev NSpBool : List Str := ["self"]
abbrev PSpBool : List Str := ["self"]
theorem scSpBool : FnScope NSpBool PSpBool (defScope sSpBool) := ⟨rfl, rfl, rfl, by decide +kernel, rfl, by decide +kernel, by decide +kernel⟩
abbrev sSpIn : Stmt := inClass (topS 17) 5
abbrev NSpIn : List Str := ["self", "value"]
abbrev PSpIn : List Str := ["self", "value"]
theorem scSpIn : FnScope NSpIn PSpIn (defScope sSpIn) := ⟨rfl, rfl, rfl, by decide +kernel, rfl, by decide +kernel, by decide +kernel⟩
abbrev sSpEq : Stmt := inClass (topS 17) 6
abbrev NSpEq : List Str := ["self", "other"]
abbrev PSpEq : List Str := ["self", "other"]
theorem scSpEq : FnScope NSpEq PSpEq (defScope sSpEq) := ⟨rfl, rfl, rfl, by decide +kernel, rfl, by decide +kernel, by decide +kernel⟩
abbrev sSpChk : Stmt := inClass (topS 17) 7
abbrev NSpChk : List Str := ["self", "other"]
abbrev PSpChk : List Str := ["self", "other"]
theorem scSpChk : FnScope NSpChk PSpChk (defScope sSpChk) := ⟨rfl, rfl, rfl, by decide +kernel, rfl, by decide +kernel, by decide +kernel⟩
abbrev sSpOr : Stmt := inClass (topS 17) 8
abbrev NSpOr : List Str := ["self", "other"]
abbrev PSpOr : List Str := ["self", "other"]
theorem scSpOr : FnScope NSpOr PSpOr (defScope sSpOr) := ⟨rfl, rfl, rfl, by decide +kernel, rfl, by decide +kernel, by decide +kernel⟩
abbrev sSpWith : Stmt := inClass (topS 17) 9
abbrev NSpWith : List Str := ["self", "other", "row"]
abbrev PSpWith : List Str := ["self", "other"]
theorem scSpWith : FnScope NSpWith PSpWith (defScope sSpWith) := ⟨rfl, rfl, rfl, by decide +kernel, rfl, by decide +kernel, by decide +kernel⟩
def spF (n : Nat) (L : Addr) : List (Str × V) := [("length", .int (n : Nat)), ("basis", .ref L)]
structure TxS (K : PySem.W.Frag) (C : Addr) : Prop extends ClsT K C where
  nL : NoAttr K C "length"
  nB : NoAttr K C "basis"
  ne : PySem.W.findIn K (.ref C) "__ne__" = some (some (.builtin "object.__ne__"))
  sf : PySem.W.selfFirst K C = true
def SpaceAt (C : Addr) (H : Hp) (S L : Addr) (n : Nat) (out : List Row) : Prop := ∃ (dx : Addr) (ys : List V), H S = some (.ins C dx (spF n L)) ∧ H L = some (.lst ys) ∧ RowsIn H ys out
theorem SpaceAt.same {C : Addr} {H H' : Hp} {S L : Addr} {n : Nat} {out : List Row} (h : SpaceAt C H S L n out) (s : Same H H') : SpaceAt C H' S L n out := let ⟨dx, ys, e1, e2, e3⟩ := h; ⟨dx, ys, s _ _ e1, s _ _ e2, e3.same (TSame.of s)⟩
/-- a basis whose rows have B bits -/
structure Bas (n B : Nat) (out : List Row) : Prop where
  rs : RS n out
  gcd : ∀ o ∈ out, gcdR o = 1
  small : ∀ o ∈ out, Small o B
theorem eqv_int_list : ∀ a b : Row, PyData.eqvAll (a.map .int) (b.map .int) = decide (a = b)
  | [], [] => by simp [PyData.eqvAll]
  | [], y :: b => by simp [PyData.eqvAll]
  | x :: a, [] => by simp [PyData.eqvAll]
  | x :: a, y :: b => by
    simp only [List.map_cons, PyData.eqvAll, PyData.eqv, eqv_int_list a b, List.cons.injEq, Bool.decide_and]
    congr 1
theorem eqv_row_list : ∀ a b : List Row, PyData.eqvAll (a.map fun r => PyData.tuple (r.map .int)) (b.map fun r => PyData.tuple (r.map .int)) = decide (a = b)
  | [], [] => by simp [PyData.eqvAll]
  | [], y :: b => by simp [PyData.eqvAll]
  | x :: a, [] => by simp [PyData.eqvAll]
  | x :: a, y :: b => by
    simp only [List.map_cons, PyData.eqvAll, PyData.eqv, eqv_int_list, eqv_row_list a b, List.cons.injEq, Bool.decide_and]
theorem eqv_rows_iff (a b : List Row) : PyData.eqv (dRows a) (dRows b) = decide (a = b) := by
  unfold dRows
  simp only [PyData.eqv, eqv_row_list]
theorem rest_none {w : Nat} {rs : List Row} (h : RS w rs) {r : Row} (hr : r.length = w) : leadN (restOf rs r) = none ↔ QS (· ∈ rs) (ev r) := by
  obtain ⟨out, ha⟩ := adds_ex rs r
  obtain ⟨_, _, a3⟩ := adds_RS h hr ha
  have len : ∀ x : List Row, x.length ≠ x.length + 1 := fun x => by omega
  rcases ha with ⟨h1, h2⟩ | ⟨h1, hp, _⟩
  · rcases a3 with q | q
    · exact ⟨fun _ => q.2, fun _ => h1⟩
    · rw [h2] at q
      exact absurd q.1 (len _)
  · rcases a3 with q | q
    · have := hp.length_eq
      rw [List.length_append, List.length_map] at this
      have e : out.length = rs.length + 1 := this
      omega
    · exact ⟨fun z => absurd z h1, fun z => absurd z q.2⟩
section
variable {P : Program} {w : World} {K : PySem.W.Frag} {mg : Str → Option Value} {base : Heap} {C : Addr}
def spIterR : Sp := fun vs H Q _ => ∃ (R : Addr) (n : Nat) (xs : List V) (rows : List Row) (B : Nat), vs = [.int (n : Nat), .ref R] ∧ 0 < n ∧ H R = some (.lst xs) ∧ RowsIn H xs rows ∧ (∀ r ∈ rows, r.length = n ∧ Small r B) ∧ n ≤ 100 ∧ rows.length < 60 ∧ 0 < B ∧ B ≤ 8000 ∧ EB B (min rows.length (n + 1)) ≤ 9000 ∧
  ∀ (L : Addr) (ys : List V) (out : List Row) (H' : Hp), Same H H' → H L = none → H' L = some (.lst ys) → RowsIn H' ys out → Reds n B rows out → Q (.ref L) H'
theorem ok_IterR {f : Addr} {fd : FuncData} (F : Fun K "iter_rows" "iter_rows" sIterR f fd) (T : TxRow mg) (GI : Has P w K mg base CX0 1 "is_integer" PIsInt (spIsInt K)) (GR : Has P w K mg base CX0 6 "reduced" PRed spRed) : FnOk P w K mg base CX0 7 f fd PIterR spIterR := by
  refine F.ok scIterR (fun vs H Q E h => ?_) (fun cdv A outer s H vs Q E hr h => ?_)
  · obtain ⟨R, n, xs, rows, B, rfl, _⟩ := h
    rfl
  · obtain ⟨R, n, xs, rows, B, rfl, n0, hR, hx, hrow, hn, h60, b0, b8, eb, k⟩ := h
    have hr1 := hr.mono (j := 1) (by decide)
    refine ⟨_, (pss_cons (ps_if (PW.pt (pw_or (pt_not (pt_val (pe_callH GI hr1 rfl pass0 (pa_cons (pv 0) pa_nil)))) (pw_or1 (pt_cmpR op_lt (pv 0) pe_int (nomark _)))))
  (pss_one ps_never)
  pss_nil)
  (pss_one (ps_ret (pe_callH GR hr rfl pass0 (pa_cons (pv 1) (pa_cons (pv 0) pa_nil)))))), ?_⟩
    refine ⟨_, rfl, _, rfl, .inl ⟨_, rfl, true, rfl, ?_⟩⟩
    refine iteE rfl ⟨_, rfl, _, _, rfl, rfl, _, rfl, iteE (decide_eq_false (by omega)) ?_⟩
    exact ⟨_, rfl, _, rfl, R, n, xs, rows, B, rfl, hR, hx, hrow, hn, h60, b0, b8, eb, k⟩
def spSpIni (C : Addr) : Sp := fun vs H Q _ => ∃ (S R dx : Addr) (n : Nat) (xs : List V) (rows : List Row) (B : Nat), vs = [.ref S, .int (n : Nat), .ref R] ∧ H S = some (.ins C dx []) ∧ 0 < n ∧ H R = some (.lst xs) ∧ RowsIn H xs rows ∧ (∀ r ∈ rows, r.length = n ∧ Small r B) ∧ n ≤ 100 ∧ rows.length < 60 ∧ 0 < B ∧ B ≤ 8000 ∧ EB B (min rows.length (n + 1)) ≤ 9000 ∧
  ∀ (L : Addr) (out : List Row) (H' : Hp), (∀ b o, H b = some o → b ≠ S → H' b = some o) → H L = none → SpaceAt C H' S L n out → Reds n B rows out → Q .non H'
theorem lb_ne : ¬ (("length" : Str) = "basis") := by decide +kernel
theorem putF_sp (n : Nat) (L : Addr) : putF "basis" (.ref L) (putF "length" (.int (n : Nat)) []) = spF n L := by
  show (if ("length" : Str) = "basis" then [(("length" : Str), V.ref L)] else (("length" : Str), V.int (n : Nat)) :: putF "basis" (V.ref L) []) = _
  rw [if_neg lb_ne]
  rfl
theorem ok_SpIni {f : Addr} {fd : FuncData} (F : Fun K "__init__" "Space.__init__" sSpIni f fd) (TS : TxS K C) (GI : Has P w K mg base CX0 7 "iter_rows" PIterR spIterR) : FnOk P w K mg base CX0 8 f fd PSpIni (spSpIni C) := by
  refine F.ok scSpIni (fun vs H Q E h => ?_) (fun cdv A outer s H vs Q E hr h => ?_)
  · obtain ⟨S, R, dx, n, xs, rows, B, rfl, _⟩ := h
    rfl
  · obtain ⟨S, R, dx, n, xs, rows, B, rfl, eS, n0, hR, hx, hrow, hn, h60, b0, b8, eb, k⟩ := h
    refine ⟨_, (pss_cons (ps_fld (pv 0) (pv 1) rfl)
  (pss_one (ps_fld (pv 0) (pe_callH GI hr rfl pass0 (pa_cons (pv 1) (pa_cons (pv 2) pa_nil))) rfl))), ?_⟩
    have RS0 : R ≠ S := ne_of hR eS fun z => by cases z
    refine ⟨_, rfl, _, rfl, S, C, dx, [], rfl, eS, TS.cl, TS.nL, (by show 0 < 1000; decide), ?_⟩
    obtain ⟨H1, eH1⟩ : ∃ H1, H1 = upd H S (.ins C dx (putF "length" (.int (n : Nat)) [])) := ⟨_, rfl⟩
    have ts : TSame H H1 := fun b ys e => by rw [eH1, upd_ne (ne_of e eS fun z => by cases z)]; exact e
    have eS1 : H1 S = some (.ins C dx (putF "length" (.int (n : Nat)) [])) := by rw [eH1, upd_same]
    have oth : ∀ b o, H b = some o → b ≠ S → H1 b = some o := fun b o e hb => by rw [eH1, upd_ne hb]; exact e
    rw [← eH1]
    refine ⟨_, rfl, _, rfl, R, n, xs, rows, B, rfl, n0, oth _ _ hR RS0, hx.same ts, hrow, hn, h60, b0, b8, eb, fun L ys out H2 s2 fr eL hy hRd => ?_⟩
    have LS : L ≠ S := fun z => by rw [z, eS1] at fr; cases fr
    refine ⟨_, rfl, S, C, dx, _, rfl, s2 _ _ eS1, TS.cl, TS.nB, (by show 1 < 1000; decide), ?_⟩
    have eS2 := s2 _ _ eS1
    refine k L out _ (fun b o e hb => by rw [upd_ne hb]; exact s2 _ _ (oth b o e hb)) ?_ ⟨dx, ys, by rw [upd_same, putF_sp], by rw [upd_ne LS]; exact eL, hy.same fun b zs e => by rw [upd_ne (ne_of e eS2 fun z => by cases z)]; exact e⟩ hRd
    rw [eH1, upd_ne LS] at fr
    exact fr
/-! what is asked of a space -/
def spWidS (C : Addr) : Sp := fun vs H Q _ => ∃ (S L : Addr) (n : Nat) (out : List Row), vs = [.ref S] ∧ SpaceAt C H S L n out ∧ Q (.int (n : Nat)) H
theorem ok_SpWid {f : Addr} {fd : FuncData} (F : Fun K "width" "Space.width" sSpWid f fd) (TS : TxS K C) : FnOk P w K mg base CX0 1 f fd PSpWid (spWidS C) := by
  refine F.ok scSpWid (fun vs H Q E h => ?_) (fun cdv A outer s H vs Q E hr h => ?_)
  · obtain ⟨S, L, n, out, rfl, _⟩ := h
    rfl
  · obtain ⟨S, L, n, out, rfl, ⟨dx, ys, e1, e2, e3⟩, k⟩ := h
    refine ⟨_, (pss_one (ps_ret (pe_fld (pv 0) rfl))), ?_⟩
    exact ⟨_, rfl, S, C, dx, _, _, rfl, e1, TS.cl, TS.nL, rfl, k⟩
def spRowsS (C : Addr) : Sp := fun vs H Q _ => ∃ (S L : Addr) (n : Nat) (out : List Row), vs = [.ref S] ∧ SpaceAt C H S L n out ∧ ∀ (l : Addr) (ys : List V), H l = none → RowsIn H ys out → Q (.ref l) (upd H l (.lst ys))
theorem ok_SpRows {f : Addr} {fd : FuncData} (F : Fun K "rows" "Space.rows" sSpRows f fd) (T : TxRow mg) (TS : TxS K C) : FnOk P w K mg base CX0 1 f fd PSpRows (spRowsS C) := by
  refine F.ok scSpRows (fun vs H Q E h => ?_) (fun cdv A outer s H vs Q E hr h => ?_)
  · obtain ⟨S, L, n, out, rfl, _⟩ := h
    rfl
  · obtain ⟨S, L, n, out, rfl, ⟨dx, ys, e1, e2, e3⟩, k⟩ := h
    refine ⟨_, (pss_one (ps_ret (pe_callTy call_list_of (by rfl) T.n_list bb_list (pa_cons (pe_fld (pv 0) rfl) pa_nil)))), ?_⟩
    exact ⟨_, rfl, S, C, dx, _, _, rfl, e1, TS.cl, TS.nB, rfl, L, _, rfl, .inl (SqL.of e2), fun l hl => k l ys hl e3⟩
def spLenSp (C : Addr) : Sp := fun vs H Q _ => ∃ (S L : Addr) (n : Nat) (out : List Row), vs = [.ref S] ∧ SpaceAt C H S L n out ∧ Q (.int (out.length : Nat)) H
theorem ok_SpLen {f : Addr} {fd : FuncData} (F : Fun K "__len__" "Space.__len__" sSpLen f fd) (T : TxRow mg) (TS : TxS K C) : FnOk P w K mg base CX0 1 f fd PSpLen (spLenSp C) := by
  refine F.ok scSpLen (fun vs H Q E h => ?_) (fun cdv A outer s H vs Q E hr h => ?_)
  · obtain ⟨S, L, n, out, rfl, _⟩ := h
    rfl
  · obtain ⟨S, L, n, out, rfl, ⟨dx, ys, e1, e2, e3⟩, k⟩ := h
    refine ⟨_, (pss_one (ps_ret (pe_callB call_len_seq (by rfl) T.n_len bb_len (pa_cons (pe_fld (pv 0) rfl) pa_nil)))), ?_⟩
    refine ⟨_, rfl, S, C, dx, _, _, rfl, e1, TS.cl, TS.nB, rfl, L, _, rfl, .inl (SqL.of e2), ?_⟩
    rw [show ys.length = out.length from Paired.length e3]
    exact k
def spBoolSp (C : Addr) : Sp := fun vs H Q _ => ∃ (S L : Addr) (n : Nat) (out : List Row), vs = [.ref S] ∧ SpaceAt C H S L n out ∧ Q (.bl (decide (0 < out.length))) H
theorem ok_SpBool {f : Addr} {fd : FuncData} (F : Fun K "__bool__" "Space.__bool__" sSpBool f fd) (T : TxRow mg) (TS : TxS K C) : FnOk P w K mg base CX0 1 f fd PSpBool (spBoolSp C) := by
  refine F.ok scSpBool (fun vs H Q E h => ?_) (fun cdv A outer s H vs Q E hr h => ?_)
  · obtain ⟨S, L, n, out, rfl, _⟩ := h
    rfl
  · obtain ⟨S, L, n, out, rfl, ⟨dx, ys, e1, e2, e3⟩, k⟩ := h
    refine ⟨_, (pss_one (ps_ret (pe_cmpR op_gt (pe_callB call_len_seq (by rfl) T.n_len bb_len (pa_cons (pe_fld (pv 0) rfl) pa_nil)) pe_int (nomark _)))), ?_⟩
    refine ⟨_, rfl, S, C, dx, _, _, rfl, e1, TS.cl, TS.nB, rfl, L, _, rfl, .inl (SqL.of e2), _, _, rfl, rfl, ?_⟩
    rw [show ys.length = out.length from Paired.length e3]
    show Q (.bl (decide ((0 : Int) < (out.length : Nat)))) H
    rw [show decide ((0 : Int) < (out.length : Nat)) = decide (0 < out.length) from decide_eq_decide.mpr (by omega)]
    exact k
def spInSp (K : PySem.W.Frag) (C : Addr) : Sp := fun vs H Q _ => ∃ (S L : Addr) (v : V) (n : Nat) (out : List Row), vs = [.ref S, v] ∧ SpaceAt C H S L n out ∧
  ((∃ (p : Addr) (r : Row) (B B' : Nat), v = .ref p ∧ TupAt H p r ∧ r.length = n ∧ n ≤ 100 ∧ Small r B ∧ Bas n B' out ∧ 0 < B ∧ 0 < B' ∧ B + out.length * (B' + 1) ≤ 9000 ∧ ∀ (b : Bool) (H' : Hp), Same H H' → (b = true ↔ QS (· ∈ out) (ev r)) → Q (.bl b) H') ∨
   (NoRow K H n v ∧ ∀ H', Same H H' → Q (.bl false) H'))
theorem ok_SpIn {f : Addr} {fd : FuncData} (F : Fun K "__contains__" "Space.__contains__" sSpIn f fd) (T : TxRow mg) (TS : TxS K C) (GR : Has P w K mg base CX0 2 "is_row" PIsRow (spRowG K)) (GL : Has P w K mg base CX0 1 "lead" PLead spLead) (GB : Has P w K mg base CX0 4 "reduced_by" PRB (spRB K)) :
    FnOk P w K mg base CX0 5 f fd PSpIn (spInSp K C) := by
  refine F.ok scSpIn (fun vs H Q E h => ?_) (fun cdv A outer s H vs Q E hr h => ?_)
  · obtain ⟨S, L, v, n, out, rfl, _⟩ := h
    rfl
  · obtain ⟨S, L, v, n, out, rfl, sa, h⟩ := h
    obtain ⟨dx, ys, e1, e2, e3⟩ := id sa
    have hr2 := hr.mono (j := 2) (by decide)
    have hr1 := hr.mono (j := 1) (by decide)
    refine ⟨_, (pss_one (ps_ret (pe_and (pe_callH GR hr2 rfl pass0 (pa_cons (pv 1) (pa_cons (pe_fld (pv 0) rfl) pa_nil))) (pe_one (pe_cmpR op_isN (pe_callH GL hr1 rfl pass0 (pa_cons (pe_callH GB hr rfl pass0 (pa_cons (pe_fld (pv 0) rfl) (pa_cons (pv 1) pa_nil))) pa_nil)) pe_non (nomark _)))))), ?_⟩
    refine ⟨_, rfl, _, rfl, S, C, dx, _, _, rfl, e1, TS.cl, TS.nL, rfl, v, n, rfl, ?_⟩
    rcases h with ⟨p, r, B, B', rfl, hp, hn, n1, sr, hb, b0, b0', bb, k⟩ | ⟨h, k⟩
    · refine .inl ⟨p, r, rfl, hp, hn, by omega, fun H1 s1 => ⟨true, rfl, ?_⟩⟩
      refine ⟨_, rfl, S, C, dx, _, _, rfl, s1 _ _ e1, TS.cl, TS.nB, rfl, _, rfl, L, p, ys, out, r, B, B', rfl, s1 _ _ e2, e3.same (TSame.of s1), s1 _ _ hp, fun o ho => ⟨by rw [hb.rs.len o ho, hn], hb.small o ho, by rw [(hb.rs.lead ho).1]; exact fun z => (by cases z)⟩, by omega, sr, b0, b0', bb, fun t H2 s2 ht => ?_⟩
      refine ⟨t, _, rfl, ht, fun H3 s3 => ?_⟩
      have rn := rest_none hb.rs (r := r) hn
      refine ⟨rfl, ?_⟩
      cases el : leadN (prim (woAll out r)) with
      | none => exact k true H3 ((s1.trans s2).trans s3) ⟨fun _ => rn.mp el, fun _ => rfl⟩
      | some m => exact k false H3 ((s1.trans s2).trans s3) ⟨fun z => (by cases z), fun z => by rw [show leadN (prim (woAll out r)) = none from rn.mpr z] at el; cases el⟩
    · exact .inr ⟨h, fun H1 s1 => ⟨false, rfl, k H1 s1⟩⟩
def spEqSp (K : PySem.W.Frag) (C : Addr) : Sp := fun vs H Q _ => ∃ (S L : Addr) (v : V) (n : Nat) (out : List Row), vs = [.ref S, v] ∧ SpaceAt C H S L n out ∧
  ((∃ (S' L' : Addr) (n' : Nat) (out' : List Row), v = .ref S' ∧ SpaceAt C H S' L' n' out' ∧ Q (.bl (decide (n = n' ∧ out = out'))) H) ∨ (∃ t, TyX K H v t ∧ PySem.W.kitOne K t (.ref C) = some false ∧ Q (.bl false) H))
theorem ok_SpEq {f : Addr} {fd : FuncData} (F : Fun K "__eq__" "Space.__eq__" sSpEq f fd) (T : TxRow mg) (TS : TxS K C) (gC : mg "Space" = some (.ref C)) : FnOk P w K mg base CX0 1 f fd PSpEq (spEqSp K C) := by
  refine F.ok scSpEq (fun vs H Q E h => ?_) (fun cdv A outer s H vs Q E hr h => ?_)
  · obtain ⟨S, L, v, n, out, rfl, _⟩ := h
    rfl
  · obtain ⟨S, L, v, n, out, rfl, sa, h⟩ := h
    obtain ⟨dx, ys, e1, e2, e3⟩ := id sa
    refine ⟨_, (pss_one (ps_ret (pe_and (pe_callB call_isi (by rfl) T.n_isinstance bb_isinstance (pa_cons (pv 1) (pa_cons (pe_glob (v := .ref C) rfl gC rfl) pa_nil))) (pe_and (pe_cmpR op_eq (pe_fld (pv 0) rfl) (pe_fld (pv 1) rfl) (nomark _)) (pe_one (pe_cmpR (op_eqD hr.units) (pe_fld (pv 0) rfl) (pe_fld (pv 1) rfl) (nomark _))))))), ?_⟩
    rcases h with ⟨S', L', n', out', rfl, ⟨dx', ys', e1', e2', e3'⟩, k⟩ | ⟨t, ty, kt, k⟩
    · refine ⟨_, rfl, _, _, _, _, _, rfl, .own C, TS.ty e1', TS.mc, true, rfl, ?_⟩
      refine ⟨_, rfl, S, C, dx, _, _, rfl, e1, TS.cl, TS.nL, rfl, _, rfl, S', C, dx', _, _, rfl, e1', TS.cl, TS.nL, rfl, rfl, ?_⟩
      refine ⟨decide (n = n'), ?_, ?_⟩
      · congr 1
        refine decide_eq_decide.mpr ⟨fun z => by injection z with z; omega, fun z => by rw [z]⟩
      · by_cases en : n = n'
        · rw [decide_eq_true en]
          refine iteT ?_
          refine ⟨_, rfl, S, C, dx, _, _, rfl, e1, TS.cl, TS.nB, rfl, _, rfl, S', C, dx', _, _, rfl, e1', TS.cl, TS.nB, rfl, _, _, dp_rows e2 e3, dp_rows e2' e3', shaped_rows _, shaped_rows _, ?_⟩
          rw [eqv_rows_iff, show decide (out = out') = decide (n = n' ∧ out = out') from decide_eq_decide.mpr ⟨fun z => ⟨en, z⟩, fun z => z.2⟩]
          exact k
        · rw [decide_eq_false en]
          refine iteF ?_
          rw [show decide (n = n' ∧ out = out') = false from decide_eq_false fun z => en z.1] at k
          exact k
    · exact ⟨_, rfl, _, _, _, _, _, rfl, .own C, ty, kt, false, rfl, k⟩
def spChkSp (C : Addr) : Sp := fun vs H Q _ => ∃ (S L S' L' : Addr) (n : Nat) (out out' : List Row), vs = [.ref S, .ref S'] ∧ SpaceAt C H S L n out ∧ SpaceAt C H S' L' n out' ∧ Q .non H
theorem ok_SpChk {f : Addr} {fd : FuncData} (F : Fun K "check" "Space.check" sSpChk f fd) (T : TxRow mg) (TS : TxS K C) (gC : mg "Space" = some (.ref C)) : FnOk P w K mg base CX0 1 f fd PSpChk (spChkSp C) := by
  refine F.ok scSpChk (fun vs H Q E h => ?_) (fun cdv A outer s H vs Q E hr h => ?_)
  · obtain ⟨S, L, S', L', n, out, out', rfl, _⟩ := h
    rfl
  · obtain ⟨S, L, S', L', n, out, out', rfl, ⟨dx, ys, e1, e2, e3⟩, ⟨dx', ys', e1', e2', e3'⟩, k⟩ := h
    refine ⟨_, (pss_one (ps_if (PW.pt (pw_or (pt_not (pt_val (pe_callB call_isi (by rfl) T.n_isinstance bb_isinstance (pa_cons (pv 1) (pa_cons (pe_glob (v := .ref C) rfl gC rfl) pa_nil))))) (pw_or1 (pt_cmpR op_ne (pe_fld (pv 1) rfl) (pe_fld (pv 0) rfl) (nomark _)))))
  (pss_one ps_never)
  pss_nil)), ?_⟩
    refine ⟨_, rfl, _, _, _, _, _, rfl, .own C, TS.ty e1', TS.mc, true, rfl, iteE rfl ?_⟩
    refine ⟨_, rfl, S', C, dx', _, _, rfl, e1', TS.cl, TS.nL, rfl, _, rfl, S, C, dx, _, _, rfl, e1, TS.cl, TS.nL, rfl, rfl, ?_⟩
    refine ⟨false, ?_, iteF k⟩
    rw [decide_eq_true rfl]
    rfl
def spOrSp (C : Addr) : Sp := fun vs H Q _ => ∃ (S L S' L' : Addr) (n B : Nat) (out out' : List Row), vs = [.ref S, .ref S'] ∧ SpaceAt C H S L n out ∧ SpaceAt C H S' L' n out' ∧ Bas n B out ∧ Bas n B out' ∧ 0 < n ∧ n ≤ 20 ∧ 0 < B ∧ B ≤ 8000 ∧ EB B (min (out.length + out'.length) (n + 1)) ≤ 9000 ∧
  ∀ (S3 L3 : Addr) (out3 : List Row) (H' : Hp), Same H H' → H S3 = none → H L3 = none → SpaceAt C H' S3 L3 n out3 → Reds n B (out ++ out') out3 → Q (.ref S3) H'
theorem RowsIn.append {H : Hp} : ∀ {xs ys : List V} {rs ss : List Row}, RowsIn H xs rs → RowsIn H ys ss → RowsIn H (xs ++ ys) (rs ++ ss)
  | _, _, _, _, .nil, h => h
  | _, _, _, _, .cons r t, h => .cons r (RowsIn.append t h)
theorem ok_SpOr {f : Addr} {fd : FuncData} (F : Fun K "__or__" "Space.__or__" sSpOr f fd) (TS : TxS K C) (MC : HasM P w K mg base CX0 1 C "check" PSpChk (spChkSp C)) (HC : HasC P w K mg base CX0 8 "Space" C PSpIni (spSpIni C)) : FnOk P w K mg base CX0 10 f fd PSpOr (spOrSp C) := by
  refine F.ok scSpOr (fun vs H Q E h => ?_) (fun cdv A outer s H vs Q E hr h => ?_)
  · obtain ⟨S, L, S', L', n, B, out, out', rfl, _⟩ := h
    rfl
  · obtain ⟨S, L, S', L', n, B, out, out', rfl, sa, sa', hb, hb', n0, n20, b0, b8, eb, k⟩ := h
    obtain ⟨dx, ys, e1, e2, e3⟩ := id sa
    obtain ⟨dx', ys', e1', e2', e3'⟩ := id sa'
    have hr1 := hr.mono (j := 1) (by decide)
    have hr9 := hr.mono (j := 9) (by decide)
    refine ⟨_, (pss_cons (ps_expr (pe_methH (pv 0) TS.cl MC hr1 pass0 (pa_cons (pv 1) pa_nil)))
  (pss_one (ps_ret (pe_makeH HC hr9 rfl pass0 (pa_cons (pe_fld (pv 0) rfl) (pa_cons (pe_op op_cat (pe_fld (pv 0) rfl) (pe_fld (pv 1) rfl)) pa_nil)))))), ?_⟩
    refine ⟨_, rfl, S, dx, _, rfl, e1, rfl, _, rfl, S, L, S', L', n, out, out', rfl, sa, sa', ?_⟩
    refine ⟨_, rfl, S, C, dx, _, _, rfl, e1, TS.cl, TS.nL, rfl, ?_⟩
    have ly : ys.length = out.length := Paired.length e3
    have ly' : ys'.length = out'.length := Paired.length e3'
    have w1 := hb.rs.le_w
    have w2 := hb'.rs.le_w
    refine ⟨_, rfl, S, C, dx, _, _, rfl, e1, TS.cl, TS.nB, rfl, _, rfl, S', C, dx', _, _, rfl, e1', TS.cl, TS.nB, rfl, L, L', ys, ys', rfl, rfl, e2, e2', Nat.le_of_lt (small1000 (by omega)), fun G hG => ?_⟩
    have s1 := same_new (o := .lst (ys ++ ys')) hG
    obtain ⟨H1, eH1⟩ : ∃ H1, H1 = upd H G (.lst (ys ++ ys')) := ⟨_, rfl⟩
    have eG : H1 G = some (.lst (ys ++ ys')) := by rw [eH1, upd_same]
    rw [← eH1] at s1 ⊢
    intro N dN hN hdN nd
    have s2 : Same H1 (upd (upd H1 dN (.own N)) N (.ins C dN [])) := fun b o e => by
      rw [upd_ne (ne_of_none e hN), upd_ne (ne_of_none e hdN)]
      exact e
    refine ⟨N, G, dN, n, ys ++ ys', out ++ out', B, rfl, upd_same, n0, s2 _ _ eG, ((e3.same (TSame.of s1)).append (e3'.same (TSame.of s1))).same (TSame.of s2), fun r hr' => ?_, by omega, by rw [List.length_append]; omega, b0, b8, by rw [List.length_append]; exact eb, fun L3 out3 H3 oth fr sa3 hRd => ⟨rfl, ?_⟩⟩
    · rcases List.mem_append.mp hr' with q | q
      · exact ⟨hb.rs.len r q, hb.small r q⟩
      · exact ⟨hb'.rs.len r q, hb'.small r q⟩
    · exact k N L3 out3 H3 (fun b o e => oth b o (s2 _ _ (s1 _ _ e)) (ne_of_none (s1 _ _ e) hN)) (s1.free hN) (s1.free (s2.free fr)) sa3 hRd
theorem bools_of : ∀ (zs : List V) {R : Nat → Bool → Prop}, (∀ i y, zs[i]? = some y → ∃ b, y = .bl b ∧ R i b) → ∃ bs : List Bool, zs = bs.map V.bl ∧ ∀ i b, bs[i]? = some b → R i b
  | [], _, _ => ⟨[], rfl, fun i b z => by simp at z⟩
  | v :: zs, R, h => by
    obtain ⟨b0, rfl, r0⟩ := h 0 v rfl
    obtain ⟨bs, rfl, hb⟩ := bools_of zs (R := fun i b => R (i + 1) b) fun i y hy => h (i + 1) y hy
    refine ⟨b0 :: bs, rfl, fun i b hi => ?_⟩
    cases i with
    | zero => cases hi; exact r0
    | succ j => exact hb j b hi
def spWithSp (C : Addr) : Sp := fun vs H Q _ => ∃ (S L S' L' : Addr) (n B B' : Nat) (out out' : List Row), vs = [.ref S, .ref S'] ∧ SpaceAt C H S L n out ∧ SpaceAt C H S' L' n out' ∧ Bas n B out ∧ Bas n B' out' ∧ n ≤ 20 ∧ 0 < B ∧ 0 < B' ∧ B + out'.length * (B' + 1) ≤ 9000 ∧
  ∀ (b : Bool) (H' : Hp), Same H H' → (b = true ↔ ∀ o ∈ out, QS (· ∈ out') (ev o)) → Q (.bl b) H'
theorem ok_SpWith {f : Addr} {fd : FuncData} (F : Fun K "is_within" "Space.is_within" sSpWith f fd) (T : TxRow mg) (TS : TxS K C) (MC : HasM P w K mg base CX0 1 C "check" PSpChk (spChkSp C)) (MI : HasM P w K mg base CX0 5 C "__contains__" PSpIn (spInSp K C)) : FnOk P w K mg base CX0 6 f fd PSpWith (spWithSp C) := by
  refine F.ok scSpWith (fun vs H Q E h => ?_) (fun cdv A outer s H vs Q E hr h => ?_)
  · obtain ⟨S, L, S', L', n, B, B', out, out', rfl, _⟩ := h
    rfl
  · obtain ⟨S, L, S', L', n, B, B', out, out', rfl, sa, sa', hb, hb', n20, b0, b0', bb, k⟩ := h
    obtain ⟨dx, ys, e1, e2, e3⟩ := id sa
    obtain ⟨dx', ys', e1', e2', e3'⟩ := id sa'
    have hr1 := hr.mono (j := 1) (by decide)
    have hr5 := hr.mono (j := 5) (by decide)
    refine ⟨_, (pss_cons (ps_expr (pe_methH (pv 0) TS.cl MC hr1 pass0 (pa_cons (pv 1) pa_nil)))
  (pss_one (ps_ret (pe_callB (cr_all rfl) (by rfl) T.n_all bb_all (pa_cons (pe_lc (own := [("row", 2)]) (g := gName 2) (tt := tYes) rfl scSpWith.nd (pi_list (pe_fld (pv 0) rfl)) (blkOk_by (own := [("row", 2)]) (N := NSpWith) (sc := (defScope sSpWith)) (by decide +kernel)) (fun _ _ _ _ _ => (pg_name (i := 2) scSpWith.nd rfl (Or.inl rfl))) (fun _ _ _ _ _ => pts_nil) (fun _ _ _ _ _ => (pe_cmpR (r := rInO C (spInSp K C)) (op_inO MI hr5) (pv 2) (pv 1) (by rfl)))) pa_nil))))), ?_⟩
    refine ⟨_, rfl, S, dx, _, rfl, e1, rfl, _, rfl, S, L, S', L', n, out, out', rfl, sa, sa', ?_⟩
    refine ⟨_, rfl, S, C, dx, _, _, rfl, e1, TS.cl, TS.nB, rfl, L, rfl, ⟨_, SqL.of e2⟩, fun D hD => ?_⟩
    have ly : ys.length = out.length := Paired.length e3
    have w1 := hb.rs.le_w
    refine lc_rel (walk_list (K := K) (a := L) (xs := ys)) (fun i y _ => ∃ b, y = .bl b ∧ (b = true ↔ QS (· ∈ out') (ev (out.getD i [])))) (fun i y Ha Hb ts z => z) hD (by omega) (fun H' s' => SqL.of (s' _ _ e2)) ?_ ?_
    · rintro i x H3 H4 kk hi s3 ⟨rfl, hxi⟩ kc
      obtain ⟨q, rfl, hq, hil⟩ := rows_at e3 hxi
      have hm := getD_mem hil
      exact ⟨rfl, _, rfl, _, rfl, S', dx', _, rfl, s3 _ _ e1', S', L', .ref q, n, out', rfl, sa'.same s3, .inl ⟨q, _, B, B', rfl, s3 _ _ hq, hb.rs.len _ hm, by omega, hb.small _ hm, hb', b0, b0', bb, fun b H5 s5 hb5 => ⟨b, rfl, kc _ H5 s5 ⟨b, rfl, hb5⟩⟩⟩⟩
    · intro zs H3 s3 eD lz pz
      obtain ⟨bs, rfl, hbs⟩ := bools_of zs pz
      refine ⟨D, bs, rfl, SqL.of eD, ?_⟩
      refine k _ H3 s3 ⟨fun ha o ho => ?_, fun ha => ?_⟩
      · obtain ⟨i, hi⟩ := List.mem_iff_getElem?.mp ho
        have hil := (List.getElem?_eq_some_iff.mp hi).1
        rw [List.length_map] at lz
        have hb1 : bs[i]? = some bs[i] := List.getElem?_eq_getElem (by omega)
        have q := (hbs i _ hb1).mp (List.all_eq_true.mp ha _ (List.mem_of_getElem? hb1))
        rw [List.getD_eq_getElem?_getD, hi] at q
        exact q
      · rw [List.all_eq_true]
        intro b hb1
        obtain ⟨i, hi⟩ := List.mem_iff_getElem?.mp hb1
        have hil := (List.getElem?_eq_some_iff.mp hi).1
        rw [List.length_map] at lz
        exact (hbs i b hi).mpr (ha _ (getD_mem (by omega)))
end

theorem pss_any {X : Cx} {b : List Stmt} : PSs X b (fun _ _ _ => False) := ⟨fun _ _ _ _ _ _ h => h.elim⟩
/-- all but S stays, and then an error with its value -/
def ErrS (H : Hp) (S : Addr) (E : XK) (CI : Addr) (v : V) : Prop := ∀ d H', (∀ b o, H b = some o → b ≠ S → H' b = some o) → H' d = none → E (.ref CI) (some d) (upd H' d (.xd [("value", v)]))
/-- no integer, whatever becomes of instances -/
def NoIntK (K : PySem.W.Frag) (H : Hp) (v : V) : Prop := ∀ H', KeepI H H' → NoInt K H' v
def spKerX (K : PySem.W.Frag) (CI : Addr) : Sp := fun vs H _ E => ∃ (R : Addr) (n : Nat) (v : V), vs = [.ref R, .int (n : Nat)] ∧ BadRows K H R n v ∧ ErrV H E CI v
/-- a width that is none, or a row that is none -/
def BadArg (K : PySem.W.Frag) (H : Hp) (wv : V) (R : Addr) (v : V) : Prop := (∃ n : Nat, 0 < n ∧ wv = .int (n : Nat) ∧ BadRows K H R n v) ∨ (((∃ i : Int, wv = .int i ∧ i < 1) ∨ NoIntK K H wv) ∧ v = wv)
theorem BadArg.keep {K : PySem.W.Frag} {H H' : Hp} {wv : V} {R : Addr} {v : V} (h : BadArg K H wv R v) (s : KeepI H H') : BadArg K H' wv R v :=
  h.imp (fun ⟨n, h0, e, b⟩ => ⟨n, h0, e, b.keep s⟩) fun ⟨a, e⟩ => ⟨a.imp id fun z H2 s2 => z H2 (s.trans s2), e⟩
def spIterX (K : PySem.W.Frag) (CI : Addr) : Sp := fun vs H _ E => ∃ (R : Addr) (wv v : V), vs = [wv, .ref R] ∧ BadArg K H wv R v ∧ ErrV H E CI v
def spSpIniX (K : PySem.W.Frag) (C CI : Addr) : Sp := fun vs H _ E => ∃ (S R dx : Addr) (wv v : V), vs = [.ref S, wv, .ref R] ∧ H S = some (.ins C dx []) ∧ BadArg K H wv R v ∧ ErrS H S E CI v
/-- no space of this width -/
def NoSpace (K : PySem.W.Frag) (C : Addr) (H : Hp) (n : Nat) (v : V) : Prop := (∃ t, TyX K H v t ∧ PySem.W.kitOne K t (.ref C) = some false) ∨ ∃ (S' L' : Addr) (n' : Nat) (out' : List Row), v = .ref S' ∧ SpaceAt C H S' L' n' out' ∧ n' ≠ n
def spChkX (K : PySem.W.Frag) (C CI : Addr) : Sp := fun vs H _ E => ∃ (S L : Addr) (n : Nat) (out : List Row) (v : V), vs = [.ref S, v] ∧ SpaceAt C H S L n out ∧ NoSpace K C H n v ∧ ErrV H E CI v
section
variable {P : Program} {w : World} {K : PySem.W.Frag} {mg : Str → Option Value} {base : Heap} {C CI : Addr} {C' : Nat → Addr}
theorem ok_KerX {f : Addr} {fd : FuncData} (F : Fun K "kernel" "kernel" sKer f fd) (GR : Has P w K mg base (L2N.CX P w) 6 "reduced" PRed (spRedX K CI)) : FnOk P w K mg base (L2N.CX P w) 7 f fd PKer (spKerX K CI) := by
  refine Fun.okN F scKer (fun vs H Q E h => ?_) (fun cdv A outer sh H vs Q E hr h => ?_)
  · obtain ⟨R, n, v, rfl, _⟩ := h
    rfl
  · obtain ⟨R, n, v, rfl, B, hE⟩ := h
    have tk := L2N.takes_of (X := cxOf (L2N.CX P w) P w K mg base NKer "kernel" (defScope sKer) f cdv A outer sh H E) (E := E) rfl rfl rfl rfl
    refine ⟨_, pss_cons (ps_set (i := 2) scKer.nd rfl (by first | exact Or.inl rfl | exact Or.inr rfl) (pe_callSH GR hr rfl (L2N.passAt tk) (pa_cons (pv 0) (pa_cons (pv 1) pa_nil)))) pss_any, ?_⟩
    exact ⟨_, rfl, _, rfl, R, n, v, rfl, B, hE⟩
theorem ok_IterX {f : Addr} {fd : FuncData} (F : Fun K "iter_rows" "iter_rows" sIterR f fd) (X : ErrH P w K mg base C') (GI : Has P w K mg base CX0 1 "is_integer" PIsInt (spIsInt K)) (GR : Has P w K mg base (L2N.CX P w) 6 "reduced" PRed (spRedX K (C' 1))) : FnOk P w K mg base (L2N.CX P w) 7 f fd PIterR (spIterX K (C' 1)) := by
  refine Fun.okN F scIterR (fun vs H Q E h => ?_) (fun cdv A outer sh H vs Q E hr h => ?_)
  · obtain ⟨R, wv, v, rfl, _⟩ := h
    rfl
  · obtain ⟨R, wv, v, rfl, h, hE⟩ := h
    have hr1 := hr.mono (j := 1) (by decide)
    have hr2 := hr.mono (j := 2) (by decide)
    have tk := L2N.takes_of (X := cxOf (L2N.CX P w) P w K mg base NIterR "iter_rows" (defScope sIterR) f cdv A outer sh H E) (E := E) rfl rfl rfl rfl
    refine ⟨_, (pss_cons (ps_if (PW.pt (pw_or (pt_not (pt_val (pe_callH GI hr1 rfl pass0 (pa_cons (pv 0) pa_nil)))) (pw_or1 (pt_cmpR op_lt (pv 0) pe_int (nomark _)))))
  (pss_one (ps_raiseX rfl tk X.h1 hr2 rfl (pa_cons (pv 0) pa_nil)))
  pss_nil)
  (pss_one (ps_ret (pe_callSH GR hr rfl (L2N.passAt tk) (pa_cons (pv 1) (pa_cons (pv 0) pa_nil)))))), ?_⟩
    rcases h with ⟨n, n0, rfl, B⟩ | ⟨h, rfl⟩
    · refine ⟨_, rfl, _, rfl, .inl ⟨_, rfl, true, rfl, ?_⟩⟩
      refine iteE rfl ⟨_, rfl, _, _, rfl, rfl, _, rfl, iteE (decide_eq_false (by omega)) ?_⟩
      exact ⟨_, rfl, _, rfl, R, n, v, rfl, B, hE⟩
    · rcases h with ⟨i, rfl, hi⟩ | h
      · refine ⟨_, rfl, _, rfl, .inl ⟨_, rfl, true, rfl, ?_⟩⟩
        refine iteE rfl ⟨_, rfl, _, _, rfl, rfl, _, rfl, iteS (decide_eq_true (by omega)) ?_⟩
        exact ⟨_, rfl, _, rfl, fun d hd => hE d H (Same.refl _) hd⟩
      · refine ⟨_, rfl, _, rfl, .inr ⟨h _ (KeepI.of (Same.refl _)), false, rfl, ?_⟩⟩
        refine iteS rfl ?_
        exact ⟨_, rfl, _, rfl, fun d hd => hE d H (Same.refl _) hd⟩
theorem ok_SpIniX {f : Addr} {fd : FuncData} (F : Fun K "__init__" "Space.__init__" sSpIni f fd) (TS : TxS K C) (GI : Has P w K mg base (L2N.CX P w) 7 "iter_rows" PIterR (spIterX K CI)) : FnOk P w K mg base (L2N.CX P w) 8 f fd PSpIni (spSpIniX K C CI) := by
  refine Fun.okN F scSpIni (fun vs H Q E h => ?_) (fun cdv A outer sh H vs Q E hr h => ?_)
  · obtain ⟨S, R, dx, wv, v, rfl, _⟩ := h
    rfl
  · obtain ⟨S, R, dx, wv, v, rfl, eS, h, hE⟩ := h
    have tk := L2N.takes_of (X := cxOf (L2N.CX P w) P w K mg base NSpIni "Space.__init__" (defScope sSpIni) f cdv A outer sh H E) (E := E) rfl rfl rfl rfl
    refine ⟨_, (pss_cons (ps_fld (pv 0) (pv 1) rfl)
  (pss_one (ps_fld (pv 0) (pe_callSH GI hr rfl (L2N.passAt tk) (pa_cons (pv 1) (pa_cons (pv 2) pa_nil))) rfl))), ?_⟩
    refine ⟨_, rfl, _, rfl, S, C, dx, [], rfl, eS, TS.cl, TS.nL, (by show 0 < 1000; decide), ?_⟩
    have k1 := KeepI.ins eS (.ins C dx (putF "length" wv []))
    have oth : ∀ b o, H b = some o → b ≠ S → upd H S (.ins C dx (putF "length" wv [])) b = some o := fun b o e hb => by rw [upd_ne hb]; exact e
    generalize upd H S (.ins C dx (putF "length" wv [])) = H1 at *
    refine ⟨_, rfl, _, rfl, R, wv, v, rfl, h.keep k1, fun d H2 s2 hd => ?_⟩
    exact hE d H2 (fun b o e hb => s2 _ _ (oth b o e hb)) hd
theorem ok_ChkX {f : Addr} {fd : FuncData} (F : Fun K "check" "Space.check" sSpChk f fd) (T : TxRow mg) (X : ErrH P w K mg base C') (TS : TxS K C) (gC : mg "Space" = some (.ref C)) : FnOk P w K mg base (L2N.CX P w) 3 f fd PSpChk (spChkX K C (C' 1)) := by
  refine Fun.okN F scSpChk (fun vs H Q E h => ?_) (fun cdv A outer sh H vs Q E hr h => ?_)
  · obtain ⟨S, L, n, out, v, rfl, _⟩ := h
    rfl
  · obtain ⟨S, L, n, out, v, rfl, ⟨dx, ys, e1, e2, e3⟩, h, hE⟩ := h
    have tk := L2N.takes_of (X := cxOf (L2N.CX P w) P w K mg base NSpChk "Space.check" (defScope sSpChk) f cdv A outer sh H E) (E := E) rfl rfl rfl rfl
    refine ⟨_, (pss_one (ps_if (PW.pt (pw_or (pt_not (pt_val (pe_callB call_isi (by rfl) T.n_isinstance bb_isinstance (pa_cons (pv 1) (pa_cons (pe_glob (v := .ref C) rfl gC rfl) pa_nil))))) (pw_or1 (pt_cmpR op_ne (pe_fld (pv 1) rfl) (pe_fld (pv 0) rfl) (nomark _)))))
  (pss_one (ps_raiseX rfl tk X.h1 hr rfl (pa_cons (pv 1) pa_nil)))
  pss_nil)), ?_⟩
    rcases h with ⟨t, ty, kt⟩ | ⟨S', L', n', out', rfl, ⟨dx', ys', e1', e2', e3'⟩, ne⟩
    · refine ⟨_, rfl, _, _, _, _, _, rfl, .own C, ty, kt, false, rfl, iteS rfl ?_⟩
      exact ⟨_, rfl, _, rfl, fun d hd => hE d H (Same.refl _) hd⟩
    · refine ⟨_, rfl, _, _, _, _, _, rfl, .own C, TS.ty e1', TS.mc, true, rfl, iteE rfl ?_⟩
      refine ⟨_, rfl, S', C, dx', _, _, rfl, e1', TS.cl, TS.nL, rfl, _, rfl, S, C, dx, _, _, rfl, e1, TS.cl, TS.nL, rfl, rfl, ?_⟩
      refine ⟨true, ?_, iteT ?_⟩
      · rw [decide_eq_false fun z => ne (by injection z with z; omega)]
        rfl
      · exact ⟨_, rfl, _, rfl, fun d hd => hE d H (Same.refl _) hd⟩
theorem ok_OrX {f : Addr} {fd : FuncData} (F : Fun K "__or__" "Space.__or__" sSpOr f fd) (TS : TxS K C) (MC : HasM P w K mg base (L2N.CX P w) 3 C "check" PSpChk (spChkX K C CI)) : FnOk P w K mg base (L2N.CX P w) 4 f fd PSpOr (spChkX K C CI) := by
  refine Fun.okN F scSpOr (fun vs H Q E h => ?_) (fun cdv A outer sh H vs Q E hr h => ?_)
  · obtain ⟨S, L, n, out, v, rfl, _⟩ := h
    rfl
  · obtain ⟨S, L, n, out, v, rfl, sa, h, hE⟩ := h
    obtain ⟨dx, ys, e1, e2, e3⟩ := id sa
    have tk := L2N.takes_of (X := cxOf (L2N.CX P w) P w K mg base NSpOr "Space.__or__" (defScope sSpOr) f cdv A outer sh H E) (E := E) rfl rfl rfl rfl
    refine ⟨_, pss_cons (ps_expr (pe_methT (pv 0) TS.cl MC hr (L2N.passAt tk) (pa_cons (pv 1) pa_nil))) pss_any, ?_⟩
    exact ⟨_, rfl, S, dx, _, rfl, e1, rfl, _, rfl, S, L, n, out, v, rfl, sa, h, hE⟩
theorem ok_WithX {f : Addr} {fd : FuncData} (F : Fun K "is_within" "Space.is_within" sSpWith f fd) (TS : TxS K C) (MC : HasM P w K mg base (L2N.CX P w) 3 C "check" PSpChk (spChkX K C CI)) : FnOk P w K mg base (L2N.CX P w) 4 f fd PSpWith (spChkX K C CI) := by
  refine Fun.okN F scSpWith (fun vs H Q E h => ?_) (fun cdv A outer sh H vs Q E hr h => ?_)
  · obtain ⟨S, L, n, out, v, rfl, _⟩ := h
    rfl
  · obtain ⟨S, L, n, out, v, rfl, sa, h, hE⟩ := h
    obtain ⟨dx, ys, e1, e2, e3⟩ := id sa
    have tk := L2N.takes_of (X := cxOf (L2N.CX P w) P w K mg base NSpWith "Space.is_within" (defScope sSpWith) f cdv A outer sh H E) (E := E) rfl rfl rfl rfl
    refine ⟨_, pss_cons (ps_expr (pe_methT (pv 0) TS.cl MC hr (L2N.passAt tk) (pa_cons (pv 1) pa_nil))) pss_any, ?_⟩
    exact ⟨_, rfl, S, dx, _, rfl, e1, rfl, _, rfl, S, L, n, out, v, rfl, sa, h, hE⟩
end

/-! ### try: .. except C as n: held = n: an error that is kept behind its suite -/
def ErrO (a : Addr) (cls : Value) (d : Option Addr) : HO := .ext fun h => ∃ (oe : PySem.Obj) (vs : Array Value), h.get? a = some oe ∧ L2N.Zn cls d oe ∧ oe.data = .fields vs
section
variable {X : Cx} {pins : List (Addr × Obj)} {σ : L2.St} {H : Hp} {s : Shared}
theorem Inv.track (I : Inv X pins σ H s) {a : Addr} {oe : PySem.Obj} {vs : Array Value} {cls : Value} {d : Option Addr} (he : s.heap.get? a = some oe) (hz : L2N.Zn cls d oe) (hd : oe.data = .fields vs) (na : H a = none) (h0 : X.s_0.heap.get? a = none) (nL : a ≠ X.env.locals) (nP : ∀ p ∈ X.pn ++ pins, p.1 ≠ a) : Inv X pins σ (upd H a (ErrO a cls d)) s := by
  have nC : ∀ x c, X.env.cells.lookup x = some c → c ≠ a := fun x c e q => by
    obtain ⟨v, o, ho, hv⟩ := I.cell x c e
    rw [q, he] at ho
    cases ho
    rw [hd] at hv
    cases hv
  refine ⟨I.ok, I.os, I.bare, ⟨I.base.keep, I.base.slot, fun b o e n hx => ?_, I.base.there, fun b xs e => ?_, fun b o u e => ?_, fun b ps e => ?_⟩, I.loc, I.cell, ?_, fun x c e => ?_, fun p hp => ?_, HOk.laidN I.hok (fun _ _ z => z) na ⟨⟨oe, vs, he, hz, hd⟩, ⟨oe, he⟩, fun _ _ ⟨o, v, q, r⟩ k => ⟨o, v, k o q, r⟩⟩, I.len⟩
  · rw [upd_ne (fun z => by rw [z, h0] at e; cases e)]
    exact I.base.free b o e n hx
  · have z := I.base.tups b xs e
    rw [upd_ne (ne_of_none z na)]
    exact z
  · have z := I.base.frzs b o u e
    rw [upd_ne (ne_of_none z na)]
    exact z
  · obtain ⟨more, z⟩ := I.base.tbls b ps e
    exact ⟨more, by rw [upd_ne (ne_of_none z na)]; exact z⟩
  · rw [upd_ne nL.symm]
    exact I.free
  · rw [upd_ne (nC x c e)]
    exact I.freeC x c e
  · obtain ⟨q1, q2, q3, q4, q5⟩ := I.pin p hp
    exact ⟨q1, by rw [upd_ne (nP p hp)]; exact q2, q3, q4, q5⟩
end
/-- the error at a is kept, its name emptied -/
def Ends.held (D : Ends) (i : Nat) (a : Addr) (cls : Value) (d : Option Addr) : Ends := { nx := fun σ H => D.nx (σ.set i none) (upd H a (ErrO a cls d)), rt := D.rt, bk := fun σ H => D.bk (σ.set i none) H, ct := fun σ H => D.ct (σ.set i none) H }
/-- what the clause wishes of an error of the body -/
def wK (K : PySem.W.Frag) (Wout : WX) (D : Ends) (cs : List Value) (i : Nat) (ts : Addr → Value → Option Addr → TS) : WX := fun cls d σ H => ∃ b, PySem.W.exmAny K cls cs = some b ∧ (b = true → ∀ a, H a = none → ts a cls d (Ends.held D i a cls d) (σ.set i (some (.ref a))) H) ∧ (b = false → Wout cls d σ H)
section
variable {X : Cx} {body : List Stmt} {pos : Pos} {tb : WX → TS} {Wout : WX}
theorem ps_tryK {t : Expr} {n : Str} {i : Nat} {cs : List Value} {ts : Addr → Value → Option Addr → TS} {b₀ : Stmt} {suite : List Stmt} {pos' : Pos} (hs : X.stack = X.env :: X.outer) (hf : X.env.frame = some X.env.locals) (hex : X.ex = []) (hN : X.N.Nodup) (tk : L2N.Takes X Wout)
    (hb : ∀ (W : WX) (pn : List (Addr × Obj)) (xe : Value → Shared → Prop), L2N.Takes (X.tr pn xe) W → PassesOwn (model X.prog X.w) X.A X.env xe → PSs (X.tr pn xe) body (tb W))
    (ht : Tst X t cs) (hi : X.N[i]? = some n) (hln : X.env.kindOf n = some .local) (hsu : SuOk X (b₀ :: suite) ts) :
    PS X (.Try body [.ExceptHandler (some t) (some n) (b₀ :: suite) pos'] [] [] pos) (fun D σ H => tb (wK X.K Wout D cs i ts) D σ H) := by
  refine ⟨fun pins s σ H D I h => wpAny_Try_except ?_⟩
  have ok := I.ok
  have hfr : X.A.frames = some (X.env :: X.outer) := by rw [ok.frames, hs]
  refine wpAny_mono ((hb (wK X.K Wout D cs i ts) (X.pn ++ pins) (fun e s1 => wpAny (model X.prog X.w) X.A (noteFrame e X.env) (fun _ s2 => wpAny (model X.prog X.w) X.A (setFlight e none) (fun _ s3 =>
    wpAny (model X.prog X.w) X.A (handleBy e X.env [.ExceptHandler (some t) (some n) (b₀ :: suite) pos']) (SP X pins D) X.xe s3) X.xe s2) X.xe s1) (fun u s' xx => ?_) PassesOwn.looking).run [] s σ H D (I.toTry _) h) (fun f s1 hsp => ?_) (fun e s1 he => he)
  · obtain ⟨a, B, sI, pins', σ', H', cls, d, rfl, J', nb, up, sky, na, os, ag, w⟩ := xx
    refine L2N.Sky.land L2N.Zn.steady hfr hf (by rw [← hs]; exact sky) fun h3 fl3 up3 => ?_
    have J := J'.ofTry ok
    have nb : ∀ b o, sI.heap.get? b = some o → b ∉ frs X.stack → B.get? b = some o := nb
    obtain ⟨b, hb1, yes, no⟩ := w
    have fl := fl3
    have up := up.trans up3
    -- at the landing
    have land : ∀ {h : Heap} {s : Shared}, HandSPX.FlyingZ B (X.env :: X.outer) a (L2N.Zn cls d) h → sI.heap.UpToSlots h → s.os = sI.os → PyProof.Rows.AllBare s.gens → Inv X pins σ' H' { s with heap := h } := fun {h s} fl up os ag => J.landed (s' := { s with heap := h }) nb fl.1 up os ag
    have frOf : ∀ {h : Heap}, HandSPX.FlyingZ B (X.env :: X.outer) a (L2N.Zn cls d) h → a ∉ frs (X.env :: X.outer) := fun {h} fl hm => by
      obtain ⟨oe, vs, he, hz, hd⟩ := fl.there
      obtain ⟨_, o', e', hnf⟩ := fl.2.2.1.mem hm
      rw [he] at e'
      cases e'
      exact hnf _ hd
    have nfr := frOf fl
    have nL : a ≠ X.env.locals := fun z => nfr (List.mem_filterMap.mpr ⟨X.env, List.mem_cons_self, by rw [hf, z]⟩)
    have nF : a ∉ X.fs := fun hm => by
      obtain ⟨e, he, q⟩ := List.mem_filterMap.mp hm
      exact nfr (List.mem_filterMap.mpr ⟨e, List.mem_cons_of_mem _ he, q⟩)
    have h0 : X.s_0.heap.get? a = none := by
      cases e0 : X.s_0.heap.get? a with
      | none => rfl
      | some o0 =>
        obtain ⟨o1, e1⟩ := J.base.there a o0 e0 (by rw [hex]; simp)
        have := nb a o1 e1 (by rw [hs]; exact nfr)
        rw [fl.2.1] at this
        cases this
    have suit : ∀ {h : Heap} {s : Shared}, HandSPX.FlyingZ B (X.env :: X.outer) a (L2N.Zn cls d) h → sI.heap.UpToSlots h → s.os = sI.os → PyProof.Rows.AllBare s.gens →
        ∃ oe, L2N.Zn cls d oe ∧ (∃ vs, oe.data = .fields vs) ∧ h.get? a = some oe ∧ Inv (X.suite a ((a, oe) :: (X.pn ++ pins))) [] σ' H' { s with heap := h } := fun {h s} fl up os ag => by
      obtain ⟨oe, vs, he, hz, hd⟩ := fl.there
      exact ⟨oe, hz, ⟨vs, hd⟩, he, (land fl up os ag).suite he hd na nL nF⟩
    obtain ⟨oe, hz, hd, he, S⟩ := suit (s := { s' with heap := h3 }) fl up os ag
    have LT : PySem.W.Looks (model X.prog X.w) h3 (typeOf (.ref a)) cls := fun A Q E s' k q => wpAny_typeOf_ref (k _ _ he) (by rw [hz.1]; exact q)
    refine wpAny_handleBy_cons (codeAny_handlers_test (ht.run S LT hb1 fun h1 k => ?_)) (by intro q; cases q)
    have fl1 := flying_keeps k fl
    have up1 := up.trans (up_keeps k)
    cases b with
    | false => exact clauses (l := []) hs hf hN tk J nb na .nil (no rfl) { s' with heap := h1 } fl1 up1 os ag
    | true =>
      refine codeAny_handlers_suite_as (HandSPX.lands_againZ (s := { s' with heap := h1 }) fl1 fun h4 fl4 up4 => ?_)
      obtain ⟨oe4, hz4, hd4, he4, S4⟩ := suit (s := { s' with heap := h1 }) fl4 (up1.trans up4) os ag
      refine store_ok (X := X.suite a ((a, oe4) :: (X.pn ++ pins))) (v := .ref a) S4 hN hi (.inl hln) rfl (fun s5 S5 => ?_) (.inr hln)
      refine wpAny_mono ((hsu a oe4 cls d (X.pn ++ pins) hz4 hd4).run [] s5 _ H' _ S5 (yes rfl a na)) (fun f s6 hsp => ?_) (fun _ _ z => False.elim z)
      have back : ∀ {σ6 : L2.St} {H6 : Hp} {Q : Shared → Prop}, Inv (X.suite a ((a, oe4) :: (X.pn ++ pins))) [] σ6 H6 s6 → (∀ s7, Inv X pins (σ6.set i none) H6 s7 → Q s7) → wpAny (model X.prog X.w) X.A (do bindName X.env n .none; unbindBehindTheSuite X.env n pos') (fun _ s7 => Q s7) X.xe s6 :=
        fun {σ6 H6 Q} S6 hq => gone_ok (S6.unsuite ok) hN hi hln hq
      cases f with
      | ret u => obtain ⟨v6, σ6, H6, S6, r6, q6⟩ := hsp; exact back S6 fun s7 J7 => ⟨_, _, _, J7, r6, q6⟩
      | next =>
        obtain ⟨σ6, H6, S6, q6⟩ := hsp
        obtain ⟨vs4, hv4⟩ := hd4
        obtain ⟨p1, p2, p3, _, _⟩ := S6.pin (a, oe4) (List.mem_append_left _ List.mem_cons_self)
        refine gone_ok (Inv.track (S6.unsuite ok) p1 hz4 hv4 p2 h0 nL fun p hp z => ?_) hN hi hln fun s7 J7 => ⟨_, _, J7, q6⟩
        have e1 := (J.pin p hp).1
        rw [z] at e1
        have e2 := nb a p.2 e1 (by rw [hs]; exact nfr)
        rw [fl.2.1] at e2
        cases e2
      | brk => obtain ⟨σ6, H6, S6, q6⟩ := hsp; exact back S6 fun s7 J7 => ⟨_, _, J7, q6⟩
      | cont => obtain ⟨σ6, H6, S6, q6⟩ := hsp; exact back S6 fun s7 J7 => ⟨_, _, J7, q6⟩
  · cases f with
    | ret u => obtain ⟨v, σ', H', J', r, q⟩ := hsp; exact ⟨v, σ', H', J'.ofTry ok, r, q⟩
    | next => obtain ⟨σ', H', J', q⟩ := hsp; exact wpAny_execs_nil ⟨σ', H', J'.ofTry ok, q⟩
    | brk => obtain ⟨σ', H', J', q⟩ := hsp; exact ⟨σ', H', J'.ofTry ok, q⟩
    | cont => obtain ⟨σ', H', J', q⟩ := hsp; exact ⟨σ', H', J'.ofTry ok, q⟩
end
/-! ### e.f and isinstance of an error that was kept -/
section
variable {X : Cx}
theorem errO_get {pins : List (Addr × PySem.Obj)} {σ : L2.St} {H : Hp} {s : Shared} {a : Addr} {cls : Value} {d : Option Addr} (I : Inv X pins σ H s) (h : H a = some (ErrO a cls d)) : ∃ (oe : PySem.Obj) (vs : Array Value), s.heap.get? a = some oe ∧ L2N.Zn cls d oe ∧ oe.data = .fields vs := (show ObjOk X.prog X.w H s.heap a (ErrO a cls d) from I.hok a _ h).1
def tErrF (K : PySem.W.Frag) (f : Str) (te : TE) : TE := fun σ H Q => te σ H fun x H1 => ∃ (a C dd : Addr) (fs : List (Str × V)) (v : V), x = .ref a ∧ H1 a = some (ErrO a (.ref C) (some dd)) ∧ XfC K C ∧ PySem.W.findIn K (.ref C) f = some none ∧ H1 dd = some (.xd fs) ∧ fs.lookup f = some v ∧ Q v H1
theorem pe_errF {e : Expr} {te : TE} {pos : Pos} {n : Str} (he : PE X e te) (hb : attributeBase e n X.env (eval e X.env) = eval e X.env := by rfl) : PE X (.Attribute e n pos) (tErrF X.K n te) := by
  refine ⟨fun pins s σ H Q I h => attr_of hb (thn (he.run pins s σ H _ I h) fun u s1 ⟨x, H1, I1, rx, a, C, dd, fs, v, ex, eo, T, hno, ea, l, q⟩ => ?_)⟩
  subst ex
  obtain rfl : u = Value.ref a := rx
  obtain ⟨oe, vs, hg, hz, hd⟩ := errO_get I1 eo
  obtain ⟨mA, hns, hr⟩ := (show ObjOk X.prog X.w H1 s1.heap dd (.xd fs) from I1.hok dd _ ea)
  obtain ⟨od, ho, hl⟩ := lookIn_ns hns
  obtain ⟨u, hu, ru⟩ := RelO.some_of (v := v) (o := mA n) (by rw [← l]; exact hr n)
  exact HandSPX.exc_get I1.kIn ⟨hg, hz.1, by unfold PySem.W.notCls; rw [hd] <;> rfl, by rw [hz.2.1]; exact ho⟩ T.ga T.gg T.exC (PySem.W.findObj_own T.hdC hno rfl (by rw [hl, hu])) (handed_of ru) ⟨v, H1, I1.tok _, ru, q⟩
def rIsE (K : PySem.W.Frag) : List V → Hp → VK → Prop := fun xs H Q => ∃ (a C dd : Addr) (c : V) (cv : Value) (b : Bool) (fs : List (Str × V)), xs = [.ref a, c] ∧ H a = some (ErrO a (.ref C) (some dd)) ∧ ExcC K C ∧ (∀ u, RelV c u → u = cv) ∧ PySem.W.kitOne K (.ref C) cv = some b ∧ H dd = some (.xd fs) ∧ Q (.bl b) H
theorem call_isE : CallR X (.builtin "isinstance") (rIsE X.K) := by
  intro pins s σ H xs us Q I r h
  obtain ⟨a, C, dd, c, cv, b, fs, rfl, eo, T, hcv, e, ed, q⟩ := h
  cases r with
  | cons rx rr =>
    cases rr with
    | cons rt rr =>
      cases rr
      cases rx
      have ec := hcv _ rt
      subst ec
      obtain ⟨oe, vs, hg, hz, hd⟩ := errO_get I eo
      obtain ⟨mA, hns, _⟩ := (show ObjOk X.prog X.w H s.heap dd (.xd fs) from I.hok dd _ ed)
      obtain ⟨od, es, ep, ho, _⟩ := hns
      have J : PySem.W.InstAt s.heap a oe C (some od) := ⟨hg, hz.1, by unfold PySem.W.notCls; rw [hd] <;> rfl, by rw [hz.2.1]; exact ho⟩
      exact PySem.W.kia_one (TX.kitx_x T) I.kIn J e (fun z => nomatch z) fun tk => ⟨.bl b, H, I.kept (t' := tk) fun _ _ z => z, rfl, q⟩
end

/-! ### o | v, where __or__ raises -/
section
open PySem.W PySem.Calls PyProof.Rows
variable {prog : Program} {w : World} {A : Around} {E : Value → Shared → Prop} {s : Shared} {K : Frag} {x C L f : Addr} {h₀ : Heap} {m : Str → Option Value} {ox : PySem.Obj} {od : Option PySem.Obj} {T : String}
/-- as the kit's rule for a pure type, for any value whose type is looked up -/
theorem bin_looks {op : Operator} {b : Value} {fo ro rc : Option Value} {Q : Value → Shared → Prop} (F : Fr h₀ L s.heap m) (X₀ : K.In h₀) (I : InstAt s.heap x ox C od) (hb : Looks (model prog w) s.heap (typeOf b) (.type T)) (hc : selfFirst K C = true) (hs : findIn K (.ref C) (PySem.dunder op.info.2) = some (some (.ref f))) (hf : isFn K (.ref f) = true)
    (hr : findIn K (.ref C) (dunderR op.info.2) = some rc) (hp : rc = none ∨ ∃ g : Addr, rc = some (.ref g)) (h1 : findIn K (.type T) (PySem.dunder op.info.2) = some fo) (h2 : findIn K (.type T) (dunderR op.info.2) = some ro) (hsub : subIn K (.type T) (.ref C) = some false) (h : wpAny (model prog w) A (call (.ref f) [.ref x, b]) (PySem.W.CmpBack Q) E s) : wpAny (model prog w) A (binaryOp op (.ref x) b) Q E s := by
  obtain ⟨cd, rest, c1, c2⟩ := ksp_first hc
  have X := X₀.keeps F.keep
  rcases eo : op.info with ⟨sy, nn⟩
  rw [eo] at hs hr h1 h2; dsimp only at hs hr h1 h2
  have tried := ksp_try X I hs hf h
  obtain ⟨hh, g, d, tt, os⟩ := s
  have K1 : Looks (model prog w) hh (typeOf (.ref x)) (.ref C) := I.type; have K2 := hb
  have K3 : Looks (model prog w) hh (fillsNumberSlot (.ref C) nn) true := fills_K X c1 c2 hs; have K4 := ksp_fillsT (M := model prog w) X h1 h2
  have K5 : Looks (model prog w) hh (isSubtype (.type T) (.ref C)) false := looks_subIn X hsub; have K6 : Looks (model prog w) hh (numberSlotInPython (.ref C) nn) true := ksp_inPy X hs hr hp
  have K7 : Looks (model prog w) hh (numberSlotInPython (.type T) nn) false := Looks.of_pure rfl; have K8 : Looks (model prog w) hh (typeLookup (.type T) (dunderR nn)) ro := looks_findIn X h2
  have two : (Value.ref C == Value.type T) = false := Bool.eq_false_iff.mpr fun z => nomatch beq_iff_eq.mp z
  generalize ((fo.isSome && !isSeqSlot fo) || (ro.isSome && !isSeqSlot ro)) = rt at K4
  simp only [binaryOp, eo]; refine wpAny_holding (wpAny_bind ?_); unfold binaryOp1
  refine wpAny_bind (K1.at (wpAny_bind (K2.at (wpAny_bind (K3.at ?_))))); simp only [two, Bool.false_eq_true, if_false]
  cases rt <;> (ksp_lk; refine wpAny_mono tried (fun r s' z => ?_) fun _ _ e => e; obtain ⟨v, rfl, hq⟩ := z; ksp_lk; exact hq)
end
/-- what is known of the built-in types that stand to the right -/
structure OrT (K : PySem.W.Frag) (C : Addr) (T : String) : Prop where
  o : ∃ fo, PySem.W.findIn K (.type T) "__or__" = some fo
  r : ∃ ro, PySem.W.findIn K (.type T) "__ror__" = some ro
  s : PySem.W.subIn K (.type T) (.ref C) = some false
structure OrC (K : PySem.W.Frag) (C : Addr) : Prop where
  r : PySem.W.findIn K (.ref C) "__ror__" = some none
  n : OrT K C "NoneType"
  i : OrT K C "int"
  t : OrT K C "tuple"
  l : OrT K C "list"
section
variable {X : Cx}
theorem run_ownX {CX : CXT} {k : Nat} {f : Addr} {fd : FuncData} {ps : List Str} {sp : Sp} {pins : List (Addr × Obj)} {σ : L2.St} {H : Hp} {s : Shared} {Q : VK} {E : XK} {us : List Value} {vs : List V} {A' : Around} (F : FnOk X.prog X.w X.K X.mg X.base CX k f fd ps sp) (hr : Room k A') (hf : A'.frames = X.A.frames)
    (hb : Binds X.K fd ps []) (hx : PassesAt CX X σ E) (I : Inv X pins σ H s) (r : Vals vs us) (h : sp vs H Q E) : wpAny (model X.prog X.w) A' (call (.ref f) us) (EP X pins σ Q) X.xe s := by
  have hl : us.length = ps.length := by rw [← r.length]; exact F.len _ _ _ _ h
  have e0 := I.env0
  have hb' := hb s us I.kIn (by rw [List.append_nil]; exact hl)
  rw [List.append_nil] at hb'
  refine wpAny_call (codeAny_mono (F.run A' X.stack s H ⟨us, []⟩ us vs Q E hr ⟨hf.trans e0.frames, e0.mod, e0.bs, e0.bsz, e0.funs, e0.frf, e0.hok, e0.bare⟩ hb' r h) fun r s' hq => ?_)
  cases r with
  | error e => exact hx pins H s e s' I hq
  | ok fl =>
    cases fl with
    | ret u => exact I.after hq
    | next => exact False.elim hq
    | brk => exact False.elim hq
    | cont => exact False.elim hq
def rOrX (K : PySem.W.Frag) (C : Addr) (sp : Sp) (E : XK) : R2 := fun x y H _ => ∃ a dx fs, x = .ref a ∧ H a = some (.ins C dx fs) ∧ ((∃ b dy gs, y = .ref b ∧ H b = some (.ins C dy gs)) ∨ ∃ T, TyX K H y (.type T) ∧ OrT K C T) ∧ sp [.ref a, y] H (fun _ _ => False) E
theorem op_orX {CX : CXT} {k : Nat} {C : Addr} {ps : List Str} {sp : Sp} {E : XK} (M : HasM X.prog X.w X.K X.mg X.base CX k C "__or__" ps sp) (hs : PySem.W.selfFirst X.K C = true) (hrr : PySem.W.findIn X.K (.ref C) "__ror__" = some none) (hr : Room k X.A) (hx : ∀ σ, PassesAt CX X σ E) : OpR X (binaryOp .BitOr) (rOrX X.K C sp E) := by
  intro pins s σ H x y v u Q I rx ry h
  obtain ⟨f, fd, hm, F, hb⟩ := M.ex
  obtain ⟨a, dx, fs, rfl, ha, hy, hq⟩ := h
  obtain rfl : v = Value.ref a := rx
  obtain ⟨mA, J, _⟩ := ins_get I.hok ha
  obtain ⟨od, J, _⟩ := J.look
  obtain ⟨m, hF⟩ := I.fr
  have go := run_ownX (A' := X.A) (us := [.ref a, u]) (vs := [.ref a, y]) F hr rfl hb (hx σ) I (.cons rfl (.cons ry .nil)) hq
  have back : wpAny (model X.prog X.w) X.A (call (.ref f) [.ref a, u]) (PySem.W.CmpBack fun r s' => EP X pins σ Q r s') X.xe s := wpAny_mono go (fun r s' z => by obtain ⟨_, _, _, _, z⟩ := z; exact z.elim) fun _ _ z => z
  rcases hy with ⟨b, dy, gs, rfl, hb'⟩ | ⟨T, ty, ot⟩
  · obtain rfl : u = Value.ref b := ry
    obtain ⟨mB, J', _⟩ := ins_get I.hok hb'
    obtain ⟨od', J', _⟩ := J'.look
    exact PySem.W.binop_K hF I.ok.mod.kin J J'.type hs hm.at_ hm.fn back
  · obtain ⟨Pt, KX, pt, _⟩ := kit_of I ry ty
    obtain ⟨fo, ofo⟩ := ot.o
    obtain ⟨ro, oro⟩ := ot.r
    exact bin_looks hF I.ok.mod.kin J (KX.ty _ _ I.kIn pt) hs hm.at_ hm.fn hrr (.inl rfl) ofo oro ot.s back
end

/-! ### the law where it is called: no repr is under way there -/
structure FnAt (A : Around) (P : Program) (w : World) (K : PySem.W.Frag) (mg : Str → Option Value) (base : Heap) (CX : CXT) (f : Addr) (fd : FuncData) (ps : List Str) (sp : Sp) : Prop where
  len : ∀ vs H Q E, sp vs H Q E → vs.length = ps.length
  run : ∀ (outer : List Env) (s : Shared) (H : Hp) (args : Args) (us : List Value) (vs : List V) (Q : VK) (E : XK), Env0 P w K mg base A outer s H → BindsTo s fd args (ps.zip us) → Vals vs us → sp vs H Q E → codeAny (model P w) A (.call (.ref f) args) (CR CX outer P w H s Q E) s
theorem fnAt_of {A : Around} {P : Program} {w : World} {K : PySem.W.Frag} {mg : Str → Option Value} {base : Heap} {x qual : Str} {st : Stmt} {f : Addr} {fd : FuncData} {N ps : List Str} {k : Nat} {sp : Sp} (hr : Room (k + 1) A) (F : Fun K x qual st f fd) (S : FnScope N ps (defScope st)) (len : ∀ vs H Q E, sp vs H Q E → vs.length = ps.length)
    (hbody : ∀ (cdv : Value) (outer : List Env) (s : Shared) (H : Hp) (vs : List V) (Q : VK) (E : XK), Room k (A.deeper (PyProof.Rows.envOfC qual (defScope st) s.heap.objs.size f cdv)) → sp vs H Q E → ∃ t, PSs (cxOf CX0 P w K mg base N qual (defScope st) f cdv A outer s H E).nox (defBody st) t ∧ t { nx := fun _ H' => Q .non H', rt := Q } (L2.start N vs) H) :
    FnAt A P w K mg base CX0 f fd ps sp := by
  obtain ⟨oc, od, kV, doc, pm, an, cdv, ct, osl, rfl, lk, hcd⟩ := F.ex
  refine ⟨len, fun outer s H args us vs Q E e0 hb r hsp => ?_⟩
  have hl := len _ _ _ _ hsp
  have old : ∀ b o, base.get? b = some o → s.heap.get? b = some o := fun b o e => (e0.bs b o e).1
  have kx : K.In s.heap := e0.mod.kin.keeps old
  have lim : s.heap.NoLimit := e0.mod.nolimit.keeps old
  have kinds : ∀ y ∈ ps.zip us, (defScope st).names.lookup y.1 = some .local ∨ ((defScope st).names.lookup y.1 = some .cell ∧ ((cellsFrom (s.heap.objs.size + 1) (defScope st).names []).lookup y.1).isSome = true) := fun ⟨n, v⟩ hy => (S.par n (List.of_mem_zip hy).1).imp id fun q => ⟨q, PySem.W.cellsFrom_some _ _ _ (.inl q)⟩
  refine codeAny_call_function hr.depth (kx _ _ lk) rfl S.co S.gen rfl (PySem.W.codeRec_of kx hcd) (hb _ _ _ _ (wpAny_newFunctionEnv_cells S.kind kinds fun env he s1 x => ?_))
  subst he
  obtain ⟨t, ht, hq⟩ := hbody cdv outer s H vs Q E (hr.deeper _) hsp
  have ht := ht.nox
  refine ⟨lim.keeps x.toInCall.keep, codeAny_func (wpAny_mono (ht.run [] s1 (L2.start N vs) H _ (inv_start S hr.hd e0 hl r x) hq) (fun fl s' hs => ?_) fun e s' hs => hs)⟩
  have fin : ∀ {σ' : L2.St} {H' : Hp} {v : V} {u : Value}, Inv (cxOf CX0 P w K mg base N qual (defScope st) f cdv A outer s H E) [] σ' H' s' → RelV v u → Q v H' → CE outer P w H s Q u s' := fun {σ' H' v u} J rv q => ⟨v, H', J.os, J.bare, J.base, J.hok, rv, q⟩
  cases fl with
  | ret u => exact let ⟨_, _, _, J, rv, q⟩ := hs; fin J rv q
  | next => exact let ⟨_, _, J, q⟩ := hs; fin (v := V.non) (u := Value.none) J rfl q
  | brk => exact let ⟨_, _, _, q⟩ := hs; False.elim q
  | cont => exact let ⟨_, _, _, q⟩ := hs; False.elim q
theorem fnAt_lk {A : Around} {P : Program} {w : World} {K : PySem.W.Frag} {mg : Str → Option Value} {base : Heap} {x qual : Str} {pg : Arguments} {bg : List Stmt} {sg : Scope} {dV kV doc pm cdv ct oc : Value} {an od : Option Addr} {osl : Array (Option Value)} {f : Addr} {N ps : List Str} {k : Nat} {sp : Sp} (hr : Room (k + 1) A)
    (lk : K.lookup f = some ⟨oc, od, .func (PySem.W.fnOf x qual pg bg sg dV kV doc pm an cdv ct), osl⟩) (hcd : PySem.W.codeIn K cdv qual = true) (S : FnScope N ps sg) (len : ∀ vs H Q E, sp vs H Q E → vs.length = ps.length)
    (hbody : ∀ (outer : List Env) (s : Shared) (H : Hp) (vs : List V) (Q : VK) (E : XK), Room k (A.deeper (PyProof.Rows.envOfC qual sg s.heap.objs.size f cdv)) → sp vs H Q E → ∃ t, PSs (cxOf CX0 P w K mg base N qual sg f cdv A outer s H E).nox bg t ∧ t { nx := fun _ H' => Q .non H', rt := Q } (L2.start N vs) H) :
    FnAt A P w K mg base CX0 f (PySem.W.fnOf x qual pg bg sg dV kV doc pm an cdv ct) ps sp :=
  ⟨len, fun outer s H args us vs Q E e0 hb r hsp => LamX.run_ofS lk hcd S hr e0 hb r (len _ _ _ _ hsp) fun hr' => let ⟨t, ht, hq⟩ := hbody outer s H vs Q E hr' hsp; ⟨t, ht.nox, hq⟩⟩
namespace LX
open LamX PyProof.Rows
/-- the law is called at callerA; cs: code objects with their tables, empty there -/
theorem law_atT {P : Program} {w : World} {K : PySem.W.Frag} {mg mb : Str → Option Value} {CX : CXT} {fa a : Addr} {cs : List (Addr × Addr)} {fd : FuncData} {x : Str} {sp : Sp} {s₁ : Shared} {vs : List Value} {ns : List Int} (kx : K.In s₁.heap) (hns : s₁.heap.Ns mainGlobals mg) (hb : s₁.heap.Ns builtinsNs mb) (hbb : ∀ x : Str, x ≠ "__name__" → mb x = bootBuiltins x) (hlim : s₁.heap.NoLimit) (hg : s₁.gens = #[])
    (tb : ∀ p ∈ cs, s₁.heap.get? p.2 = some { cls := .none, data := .fields #[] } ∧ K.lookup p.2 = none ∧ PySem.W.CodeHd s₁.heap p.1 p.2) (hbm : ∃ (bm : Addr) (ob : PySem.Obj), mg "__builtins__" = some (.ref bm) ∧ bm ≠ builtinsNs ∧ s₁.heap.get? bm = some ob ∧ ob.cls = .type "module" ∧ ob.dict = some builtinsNs ∧ ob.data = .plain)
    (ha : s₁.heap.get? a = some { cls := .type "list", data := .seq vs.toArray }) (hi : IntsAre vs ns) (hl : ns.length ≤ sizeLine) (F : ∀ base : Heap, K.In base → base.Ns mainGlobals mg → (∀ p ∈ cs, TabB base mg p.1 p.2) → FnAt callerA P w K mg base CX fa fd [x] sp) (hbind : ∀ (s : Shared) (u : Value), BindsTo s fd ⟨[u], []⟩ [(x, u)])
    (hsp : ∀ H : Hp, (∀ p ∈ cs, H p.2 = some (.tbl #[])) → SqL K H a (ns.map V.int) → sp [.ref a] H (fun v _ => v = .bl true) fun _ _ _ => False) (hCX : ∀ H e s', CX [] H s₁ (fun _ _ _ => False) e s' → False) :
    codeAny (model P w) callerA (.call (.ref fa) ⟨[.ref a], []⟩) (fun r s' => r = .ok (.ret (.bool true)) ∧ OldK s₁.heap s'.heap ∧ s'.os = s₁.os ∧ AllBare s'.gens) s₁ := by
  obtain ⟨T, eT⟩ : ∃ T, T = cs.map Prod.snd := ⟨_, rfl⟩
  have inT : ∀ {b}, b ∈ T → ∃ p ∈ cs, p.2 = b := fun {b} h => by rw [eT] at h; obtain ⟨p, hp, e⟩ := List.mem_map.mp h; exact ⟨p, hp, e⟩
  have tI : ∀ p ∈ cs, p.2 ∈ T := fun p hp => by rw [eT]; exact List.mem_map.mpr ⟨p, hp, rfl⟩
  have cell : ∀ b ∈ T, s₁.heap.get? b = some { cls := .none, data := .fields #[] } ∧ K.lookup b = none := fun b h => by obtain ⟨p, hp, rfl⟩ := inT h; exact ⟨(tb p hp).1, (tb p hp).2.1⟩
  have aT : a ∉ T := fun z => by have q := (cell a z).1; rw [ha] at q; exact nomatch (congrArg PySem.Obj.data (Option.some.inj q) : Data.seq vs.toArray _ = Data.fields #[])
  have len := hi.length
  -- what is tracked: the tables; the script too where the heap before the law does not hold it
  obtain ⟨H, hT, hN, hA, hK⟩ : ∃ H : Hp, (∀ b ∈ T, H b = some (.tbl #[])) ∧ (∀ b, b ∉ T → b ≠ a → H b = none) ∧ (H a = none ∨ H a = some (.frz { cls := .type "list", data := .seq vs.toArray } (.lst (ns.map V.int)))) ∧ (H a = none ↔ K.lookup a ≠ none) := by
    cases hk : K.lookup a with
    | some o => exact ⟨fun b => if b ∈ T then some (.tbl #[]) else none, fun b h => if_pos h, fun b h _ => if_neg h, .inl (if_neg aT), fun _ z => (nomatch z), fun _ => if_neg aT⟩
    | none => exact ⟨fun b => if b ∈ T then some (.tbl #[]) else if b = a then some (.frz { cls := .type "list", data := .seq vs.toArray } (.lst (ns.map V.int))) else none, fun b h => if_pos h, fun b h n => (if_neg h).trans (if_neg n), .inr ((if_neg aT).trans (if_pos rfl)), fun z => absurd (((if_neg aT).trans (if_pos rfl)).symm.trans z) (fun z => nomatch z), fun z => absurd rfl z⟩
  have form : ∀ b u, H b = some u → (b ∈ T ∧ u = .tbl #[]) ∨ (b = a ∧ u = .frz { cls := .type "list", data := .seq vs.toArray } (.lst (ns.map V.int))) := fun b u e => by
    by_cases h1 : b ∈ T
    · rw [hT b h1] at e; exact .inl ⟨h1, (Option.some.inj e).symm⟩
    · by_cases h2 : b = a
      · subst h2
        rcases hA with z | z
        · rw [z] at e; cases e
        · rw [z] at e; exact .inr ⟨rfl, (Option.some.inj e).symm⟩
      · rw [hN b h1 h2] at e; cases e
  have rv := vals_ints hi
  have hok : HOk P w H s₁.heap := fun b u e => by
    rcases form b u e with ⟨h, rfl⟩ | ⟨rfl, rfl⟩
    · exact (cell b h).1
    · exact ⟨ha, by rw [List.length_map]; exact hl, vs, _, rv, ha⟩
  have hS : SqL K H a (ns.map V.int) := by
    rcases hA with z | z
    · obtain ⟨o, hk⟩ := Option.ne_none_iff_exists'.mp (hK.mp z)
      have e := kx a o hk
      rw [ha] at e
      cases e
      exact .inr ⟨_, vs.toArray, _, hk, rfl, rfl, rfl, by rw [List.size_toArray, len]; exact hl, by simpa using rv⟩
    · exact .inl (.inr ⟨_, z⟩)
  -- what no table and no script is, stands in the ground
  have plain : ∀ {b : Addr} {o : PySem.Obj}, s₁.heap.get? b = some o → (∀ v n, o.data ≠ .seq v n) → o.data ≠ .fields #[] → (hidT s₁.heap H).get? b = some o := fun {b o} e d1 d2 => hidT_get e (by
    cases q : H b with
    | none => rfl
    | some u =>
      rcases form b u q with ⟨h, _⟩ | ⟨rfl, _⟩
      · rw [(cell b h).1] at e; cases e; exact absurd rfl d2
      · rw [ha] at e; cases e; exact absurd rfl (d1 _ _))
  have nsK : ∀ {b : Addr} {m : Str → Option Value}, s₁.heap.Ns b m → (hidT s₁.heap H).Ns b m := fun {b m} ⟨o, es, ep, e, d, r⟩ => ⟨o, es, ep, plain e (fun v n z => by rw [d] at z; cases z) (fun z => by rw [d] at z; cases z), d, r⟩
  have kH : K.In (hidT s₁.heap H) := fun b o e => hidT_get (kx b o e) (by
    cases q : H b with
    | none => rfl
    | some u =>
      rcases form b u q with ⟨h, _⟩ | ⟨rfl, _⟩
      · rw [(cell b h).2] at e; cases e
      · exact absurd (hK.mpr (by rw [e]; exact fun z => nomatch z)) (by rw [q]; exact fun z => nomatch z))
  have md : L2.Mod K mg (hidT s₁.heap H) := ⟨kH, nsK hns, ⟨mb, nsK hb, hbb⟩, let ⟨mc, h1, h2⟩ := hlim; ⟨mc, nsK h1, h2⟩⟩
  have tabs : ∀ p ∈ cs, TabB (hidT s₁.heap H) mg p.1 p.2 := fun p hp => by
    obtain ⟨t1, t2, o, us, file, tf, flags, tg, inF, text, tt, e1, r1, r2, r3, rest⟩ := tb p hp
    obtain ⟨bm, ob, b1, b2, b3, b4, b5, b6⟩ := hbm
    refine ⟨⟨o, us, file, tf, flags, tg, inF, text, tt, plain e1 (fun v n z => by rw [r2] at z; cases z) (fun z => ?_), r1, r2, r3, rest⟩, ⟨bm, ob, b1, b2, fun q => ?_, fun q => ?_, plain b3 (fun v n z => by rw [b6] at z; cases z) (fun z => by rw [b6] at z; cases z), b4, b5, b6⟩, fun q => ?_⟩
    · rw [r2] at z; cases z; simp at r3
    · obtain ⟨o', es, ep, e, hd, _⟩ := hns
      rw [q, e] at b3; cases b3; rw [hd] at b6; cases b6
    · rw [q, t1] at b3; cases b3; cases b6
    · obtain ⟨o', es, ep, e, hd, _⟩ := hns
      rw [q, t1] at e; cases e; cases hd
  have ground : Env0 P w K mg (hidT s₁.heap H) callerA [] s₁ H := ⟨rfl, md, fun b o e => of_hidT e, Nat.le_of_eq (hidT_size _ _), trivial, fun b h => (nomatch (show b ∈ ([] : List Addr) from h)), hok, .of_eq hg⟩
  refine codeAny_mono ((F _ kH (nsK hns) tabs).run [] s₁ H ⟨[.ref a], []⟩ [.ref a] [.ref a] _ _ ground (hbind s₁ (.ref a)) (.cons rfl .nil) (hsp H (fun p hp => hT _ (tI p hp)) hS)) fun r s' h => ?_
  match r, h with
  | .error e, h => exact (hCX H e s' h).elim
  | .ok .next, h => exact False.elim h
  | .ok .brk, h => exact False.elim h
  | .ok .cont, h => exact False.elim h
  | .ok (.ret u), h =>
    obtain ⟨v, H', os, bare, un, hok', r', q⟩ := h
    obtain rfl : v = .bl true := q
    obtain rfl : u = Value.bool true := r'
    have grown : ∀ p ∈ cs, ∃ more : Array Value, s'.heap.get? p.2 = some { cls := .none, data := .fields more } := fun p hp => by
      obtain ⟨more, z⟩ := un.tbls p.2 #[] (hT _ (tI p hp))
      exact ⟨_, hok' p.2 _ z⟩
    have stays : ∀ b o, b ∉ T → s₁.heap.get? b = some o → s'.heap.get? b = some o := fun b o nb e => by
      cases q : H b with
      | none => exact un.keep b o e q (fun z => (nomatch (show b ∈ ([] : List Addr) from z))) (fun z => (nomatch z))
      | some u =>
        rcases form b u q with ⟨h, _⟩ | ⟨rfl, rfl⟩
        · exact absurd h nb
        · have z := (hok' b _ (un.frzs b _ _ q)).1
          rw [ha] at e; cases e; exact z
    refine ⟨rfl, ⟨fun b o e => ?_, fun b o e => ?_⟩, os, bare⟩
    all_goals by_cases hb : b ∈ T
    · obtain ⟨p, hp, rfl⟩ := inT hb
      obtain ⟨more, hm⟩ := grown p hp
      obtain ⟨t1, _, c⟩ := tb p hp
      rw [t1] at e
      cases e
      exact .inr (.inl ⟨(c.tab t1).isCodeTable, rfl, #[], more, rfl, by rw [Array.empty_append]; exact hm⟩)
    · exact .inl (stays b o hb e)
    · obtain ⟨p, hp, rfl⟩ := inT hb
      obtain ⟨more, hm⟩ := grown p hp
      exact ⟨_, hm⟩
    · exact ⟨o, stays b o hb e⟩
/-- what is known of the law at the head's heap h, its promise at callerA -/
def LawAtA (l : PySem.W.OpenLaw) (w : World) (K : PySem.W.Frag) (CX : CXT) (n : Nat) (x : Str) (mg : Str → Option Value) (fa : Addr) (h : Heap) : Prop :=
  ∃ (fd : FuncData) (cs : List (Addr × Addr)) (sp : Sp), (∀ p ∈ cs, h.get? p.2 = some { cls := .none, data := .fields #[] } ∧ K.lookup p.2 = none ∧ PySem.W.CodeHd h p.1 p.2) ∧ (∀ (s : Shared) (u : Value), BindsTo s fd ⟨[u], []⟩ [(x, u)]) ∧
    (∀ (H : Hp) (a : Addr) (ns : List Int), ns.length ≤ n → (∀ p ∈ cs, H p.2 = some (.tbl #[])) → SqL K H a (ns.map V.int) → sp [.ref a] H (fun v _ => v = .bl true) fun _ _ _ => False) ∧ ∀ base : Heap, K.In base → base.Ns mainGlobals mg → (∀ p ∈ cs, TabB base mg p.1 p.2) → FnAt callerA l.prog w K mg base CX fa fd [x] sp
theorem walk_ofTA {l : PySem.W.OpenLaw} {n : Nat} {q : Program} {loose : List Str} {XP : (Str → Option Value) → Heap → Prop} {YP : World → Heap → Prop} {d : DefRec} {CX : World → CXT} {x : Str} (hn : l.most = some n) (hn2 : n ≤ sizeLine) (hdf : d.params.defaults = [])
    (F : ∀ (w : World) (mg : Str → Option Value) (fa : Addr) (h : Heap), YP w h → h.Ns mainGlobals mg → mg d.name = some (.ref fa) → ∃ K : PySem.W.Frag, K.In h ∧ LawAtA l w K (CX w) n x mg fa h) (hCX : ∀ (w : World) (H : Hp) (s : Shared) (e : Value) (s' : Shared), CX w [] H s (fun _ _ _ => False) e s' → False) :
    PySem.W.WalkO q loose XP YP l.row.toRowW d [] (fun f vs => PySem.call f vs) :=
  Att.attach_callB hn hdf fun w s₀ s₁ mg mb fa o pm cd doc a vs ns G Y ho hd hcd hmg hobj hints hlen hbits hg => by
    obtain ⟨K, kx, fd, cs, sp, tb, hb, hsp, hF⟩ := F w mg fa _ Y G.T.g hmg
    exact law_atT kx G.T.g G.T.b G.T.builtins G.T.nolimit hg tb G.T.bmain hobj hints (Nat.le_trans hlen hn2) hF hb (fun H hH hS => hsp H a ns hlen hH hS) fun H e s' => hCX w H s₁ e s'
end LX

/-! ### a lambda handed to a def that catches what it raises (errors of layer L2N) -/
namespace LX
open LamX PyProof.Rows
abbrev lamXe (X : Cx) (A : Around) (outer : List Env) (s : Shared) (H : Hp) (E : XK) (scope : Scope) (f c' : Addr) : Value → Shared → Prop := fun e s' =>
  wpAny (model X.prog X.w) (A.deeper (lamEnv X scope s.heap.objs.size f c')) (leaving (lamEnv X scope s.heap.objs.size f c') e) (fun _ s'' => L2N.CX X.prog X.w outer H s E e s'') (fun e' s'' => L2N.CX X.prog X.w outer H s E e' s'') s'
/-- the context of the lambda's body, its errors told by L2N -/
abbrev lamN (X : Cx) (A : Around) (outer : List Env) (s : Shared) (H : Hp) (E : XK) (scope : Scope) (f c' : Addr) : Cx := (lamCx X A outer s H E scope f c').tr [] (lamXe X A outer s H E scope f c')
theorem lamN_takes {X : Cx} {A : Around} {outer : List Env} {s : Shared} {H : Hp} {E : XK} {scope : Scope} {f c' : Addr} : L2N.Takes (lamN X A outer s H E scope f c') (fun cls d _ H' => E cls d H') := L2N.takes_of (X := lamN X A outer s H E scope f c') (E := E) rfl rfl rfl rfl
section
variable {X : Cx} {pins : List (Addr × Obj)} {σ : L2.St} {H : Hp} {s : Shared}
theorem pe_actN {CXg : CXT} {Eg : XK} {Ng : List Str} {qg : Str} {sg : Scope} {g f c' : Addr} {cdg pm ctv : Value} {params : Arguments} {body : Expr} {scope : Scope} {k i : Nat} {a : Str} {pn : List (Addr × Obj)} {xe : Value → Shared → Prop} {W : WX} {tb : XK → TE} {p1 p2 : Pos}
    (I : Inv X pins σ H s) (L : LamS X.env.scope scope) (hf : s.heap.get? f = some (PySem.W.kla_obj "<lambda>" (X.env.qual ++ "<lambda>") params body scope (cloFrom X.env.cells scope.names []) pm c' ctv)) (hfn : H f = none) (hfr : f ∉ frs X.stack)
    (hbind : bindArgs (PySem.W.kla_fn "<lambda>" (X.env.qual ++ "<lambda>") params body scope (cloFrom X.env.cells scope.names []) pm (.ref c') ctv) ⟨[], []⟩ = pure [])
    (tk : L2N.Takes ((cxOf CXg X.prog X.w X.K X.mg X.base Ng qg sg g cdg X.A X.stack s H Eg).tr pn xe) W) (hr : Room (k + 1) (X.A.deeper (envOfC qg sg s.heap.objs.size g cdg)))
    (hbody : ∀ (A : Around) (outer : List Env) (s : Shared) (H : Hp) (E : XK), Room k (A.deeper (lamEnv X scope s.heap.objs.size f c')) → PE (lamN X A outer s H E scope f c') body (tb E))
    (hN : Ng[i]? = some a) (hv : Vis sg a) (hd : (a == ("__debug__" : Str)) = false := by decide) (hcd : (a == ("__classdict__" : Str)) = false := by decide) :
    PE ((cxOf CXg X.prog X.w X.K X.mg X.base Ng qg sg g cdg X.A X.stack s H Eg).tr pn xe) (.Call (.Name a p1) [] [] p2)
      (fun σZ HZ Q => σZ[i]? = some (some (.ref f)) ∧ HZ c' = some (CodeO c' (X.env.qual ++ "<lambda>")) ∧ tb (WE W σZ) σ HZ Q) := by
  refine ⟨fun pinsZ sZ σZ HZ Q IZ h => ?_⟩
  obtain ⟨hs, hc, ht⟩ := h
  refine wpAny_Call_Name_kw (thn ((pe_var (pos := p1) (i := i) hN hv hd hcd).run pinsZ sZ σZ HZ (fun v H1 => v = .ref f ∧ H1 = HZ) IZ ⟨.ref f, hs, rfl, rfl⟩) fun u s1 ⟨v, H1, I1, r1, q1⟩ => ?_)
  obtain ⟨ev, eH⟩ := q1
  subst ev
  rw [eH] at I1
  obtain rfl : u = Value.ref f := r1
  have of1 := I1.base.keep f _ hf hfn hfr (fun z => nomatch (show f ∈ ([] : List Addr) from z))
  refine PySem.W.callWith_F0 ⟨_, _, _, _, of1⟩ ?_
  have un : Un (frs X.stack) [] H HZ s.heap s1.heap := I1.base
  obtain ⟨⟨oc, vs, t, hoc, hdc, hvc⟩, _, _⟩ := I1.hok c' _ hc
  have rc : codeAny (model X.prog X.w) (X.A.deeper (envOfC qg sg s.heap.objs.size g cdg)) (.call (.ref f) ⟨[], []⟩) (CR (L2N.CX X.prog X.w) (envOfC qg sg s.heap.objs.size g cdg :: X.stack) X.prog X.w HZ s1 Q (WE W σZ)) s1 := by
    refine PySem.W.kla_callFunE hr.depth of1 rfl L.co L.gen rfl ⟨c', oc, vs, t, rfl, hoc, hdc, hvc⟩ ?_
    rw [hbind]
    refine wpAny_pure (wpAny_newFunctionEnv (fun y hy => (L.own y hy).2) (fun y hy => absurd hy (by simp)) (fun h₁ hns hsb => ⟨I1.nolimit.fresh _ hsb, ?_⟩) L.kind)
    show codeAny _ _ (.expr body (lamEnv X scope s1.heap.objs.size f c')) _ _
    have kp : ∀ b o, s1.heap.get? b = some o → h₁.get? b = some o := fun b o e => hsb.extBut b o (Nat.ne_of_lt (Heap.lt_size e)) (Heap.get?_push_of_some _ e)
    have J0 : Inv (lamCx X (X.A.deeper (envOfC qg sg s.heap.objs.size g cdg)) (envOfC qg sg s.heap.objs.size g cdg :: X.stack) s1 HZ (WE W σZ) scope f c') [] σ HZ { s1 with heap := h₁, toks := s1.toks + ([] : List (Str × Value)).length } :=
      lam_start2 I L I1.env0 hr.hd un hns kp
    have J : Inv (lamN X (X.A.deeper (envOfC qg sg s.heap.objs.size g cdg)) (envOfC qg sg s.heap.objs.size g cdg :: X.stack) s1 HZ (WE W σZ) scope f c') [] σ HZ { s1 with heap := h₁, toks := s1.toks + ([] : List (Str × Value)).length } := J0.toTry _
    refine PySem.W.kla_codeExpr (wpAny_mono ((hbody _ _ s1 HZ (WE W σZ) (hr.deeper _)).run [] _ _ HZ Q J ht) (fun v s' hq => ?_) fun e s' hq => hq)
    obtain ⟨w', H', J', rv, q⟩ := hq
    exact ⟨w', H', J'.os, J'.bare, J'.base, J'.hok, rv, q⟩
  refine wpAny_call (codeAny_mono rc fun r s' hq => ?_)
  cases r with
  | error e => exact L2N.passAt tk σZ pinsZ HZ s1 e s' I1 hq
  | ok fl =>
    cases fl with
    | ret u => exact I1.after hq
    | next => exact False.elim hq
    | brk => exact False.elim hq
    | cont => exact False.elim hq
/-- the def that calls what it got -/
def GivesN (X : Cx) (Ng : List Str) (x : Str) (sg : Scope) (g : Addr) (cdg : Value) (bg : List Stmt) (a : Str) (q : Str) (TT : (XK → Hp → VK → Prop) → Hp → VK → Prop) : Prop :=
  ∀ (f c' : Addr) (s : Shared) (H : Hp) (Q : VK) (tl : XK → Hp → VK → Prop),
    (∀ (W : WX) (pn : List (Addr × Obj)) (xe : Value → Shared → Prop) (p1 p2 : Pos), L2N.Takes ((cxOf C8.CX0 X.prog X.w X.K X.mg X.base Ng x sg g cdg X.A X.stack s H C8.E0).tr pn xe) W →
      PE ((cxOf C8.CX0 X.prog X.w X.K X.mg X.base Ng x sg g cdg X.A X.stack s H C8.E0).tr pn xe) (.Call (.Name a p1) [] [] p2) (fun σZ HZ Q => σZ[0]? = some (some (.ref f)) ∧ HZ c' = some (CodeO c' q) ∧ tl (WE W σZ) HZ Q)) →
    H c' = some (CodeO c' q) → TT tl H Q →
    ∃ t, PSs (cxOf C8.CX0 X.prog X.w X.K X.mg X.base Ng x sg g cdg X.A X.stack s H C8.E0).nox bg t ∧ t { nx := fun _ H' => Q .non H', rt := Q } (L2.start Ng [.ref f]) H
/-- x(lambda: body) -/
theorem pe_lamN {T : List (Addr × Str)} {TT : (XK → Hp → VK → Prop) → Hp → VK → Prop} {x a : Str} {g c P : Addr} {k : Nat} {pg : Arguments} {bg : List Stmt} {sg : Scope} {dV kV doc pm cdv ct oc : Value} {an od : Option Addr} {osl : Array (Option Value)} {Ng : List Str}
    {params : Arguments} {body : Expr} {scope : Scope} {t : XK → TE} {p lpos pos : Pos} (hg : Gl X x) (hm : X.mg x = some (.ref g)) (hk : PySem.W.keepIn X.K (.ref g) = true)
    (lk : X.K.lookup g = some ⟨oc, od, .func (PySem.W.fnOf x x pg bg sg dV kV doc pm an cdv ct), osl⟩) (hcg : PySem.W.codeIn X.K cdv x = true) (hb : L2.Binds X.K (PySem.W.fnOf x x pg bg sg dV kV doc pm an cdv ct) [a] []) (Sg : FnScope Ng [a] sg) (hNg : Ng[0]? = some a) (hva : Vis sg a)
    (hG : GivesN X Ng x sg g cdv bg a (X.env.qual ++ "<lambda>") TT)
    (TB : TabB X.base X.mg c P) (hcode : X.env.code = .ref c) (hmT : (P, X.env.qual ++ "<lambda>") ∈ T) (hu : ∀ p ∈ T, p.1 = P → p.2 = X.env.qual ++ "<lambda>") (hr : Room (k + 2) X.A) (L : LamS X.env.scope scope) (hdef : defaultsOf params X.env = ([], []))
    (hbind : ∀ (q : Str) (cl : List (Str × Addr)) (pm cv ctv : Value), bindArgs (PySem.W.kla_fn "<lambda>" q params body scope cl pm cv ctv) ⟨[], []⟩ = pure [])
    (hbody : ∀ (A : Around) (outer : List Env) (s : Shared) (H : Hp) (E : XK) (f c' : Addr), Room k (A.deeper (lamEnv X scope s.heap.objs.size f c')) → PE (lamN X A outer s H E scope f c') body (t E))
    (hdb : (x == ("__debug__" : Str)) = false := by decide) (hd : (a == ("__debug__" : Str)) = false := by decide) (hcd : (a == ("__classdict__" : Str)) = false := by decide) :
    PE X (.Call (.Name x p) [.Lambda params body scope lpos] [] pos) (tLam T TT t) := by
  refine ⟨fun pins s σ H Q I h => ?_⟩
  obtain ⟨hT, h⟩ := h
  refine wpAny_Call_Name_kw (ld_glob I hg hm ?_ hdb)
  refine PySem.W.callWith_K (h₀ := X.base) I.ok.mod.kin hk ?_ (by rfl) (by rfl)
  show wpAny _ _ (spliced ((false, eval (.Lambda params body scope lpos) X.env) :: backTo pos (starEach [] X.env))) _ _ s
  refine Calls.spliced_cons (lam_make2 I TB hcode hmT hu hT hdef (L.has I.ok) fun f c' pm' ctv H1 s' I1 eN T1 hf hfn hfr hco => ?_)
  refine Calls.spliced_nil ⟨I1.kIn, ?_⟩
  have rc : codeAny (model X.prog X.w) X.A (.call (.ref g) ⟨[.ref f], []⟩) (CR C8.CX0 X.stack X.prog X.w H1 s' Q C8.E0) s' := by
    refine run_ofS (N := Ng) (ps := [a]) (us := [.ref f]) (vs := [.ref f]) lk hcg Sg hr I1.env0 (hb s' [.ref f] I1.kIn rfl) (.cons rfl .nil) rfl fun hr' => ?_
    obtain ⟨t', ht', hq'⟩ := hG f c' s' H1 Q (fun E H' Q' => t E σ H' Q') (fun W pn xe p1 p2 tk => pe_actN I1 L hf hfn hfr (hbind _ _ _ _ _) tk hr' (fun A outer s H E hr2 => hbody A outer s H E f c' hr2) hNg hva hd hcd) hco (h H1 eN T1)
    exact ⟨t', ht'.nox, hq'⟩
  refine wpAny_call (codeAny_mono rc fun r s2 hq => ?_)
  cases r with
  | error e => exact (show False from hq).elim
  | ok fl =>
    cases fl with
    | ret u => exact I1.after hq
    | next => exact False.elim hq
    | brk => exact False.elim hq
    | cont => exact False.elim hq
end
end LX

/-! ### e.f in a suite that takes several classes -/
def tXfG (K : PySem.W.Frag) (a : Addr) (cls : Value) (d : Option Addr) (f : Str) (te : TE) : TE := fun σ H Q => te σ H fun x H1 => x = .ref a ∧ ∃ (C dd : Addr) (fs : List (Str × V)) (v : V), cls = .ref C ∧ XfC K C ∧ PySem.W.findIn K (.ref C) f = some none ∧ d = some dd ∧ H1 dd = some (.xd fs) ∧ fs.lookup f = some v ∧ Q v H1
theorem pe_xfG {X : Cx} {a : Addr} {oe : Obj} {cls : Value} {d : Option Addr} {pn : List (Addr × Obj)} {e : Expr} {te : TE} {pos : Pos} {n : Str} (hz : L2N.Zn cls d oe) (hf : ∃ vs, oe.data = .fields vs) (he : PE (X.suite a ((a, oe) :: pn)) e te)
    (hb : attributeBase e n X.env (eval e X.env) = eval e X.env := by rfl) : PE (X.suite a ((a, oe) :: pn)) (.Attribute e n pos) (tXfG X.K a cls d n te) := by
  refine ⟨fun pins s σ H Q I h => attr_of hb (thn (he.run pins s σ H _ I h) fun u s1 ⟨x, H1, I1, rx, ex, C, dd, fs, v, ec, T, hno, ed, ea, l, q⟩ => ?_)⟩
  subst ex ec ed
  obtain rfl : u = Value.ref a := rx
  obtain ⟨vs, hd⟩ := hf
  obtain ⟨mA, hns, hr⟩ := (show ObjOk X.prog X.w H1 s1.heap dd (.xd fs) from I1.hok dd _ ea)
  obtain ⟨od, ho, hl⟩ := lookIn_ns hns
  obtain ⟨u, hu, ru⟩ := RelO.some_of (v := v) (o := mA n) (by rw [← l]; exact hr n)
  exact HandSPX.exc_get I1.kIn ⟨(I1.pin (a, oe) (List.mem_append_left _ List.mem_cons_self)).1, hz.1, by unfold PySem.W.notCls; rw [hd] <;> rfl, by rw [hz.2.1]; exact ho⟩ T.ga T.gg T.exC (PySem.W.findObj_own T.hdC hno rfl (by rw [hl, hu])) (handed_of ru) ⟨v, H1, I1.tok _, ru, q⟩
theorem HasX.mg {P : Program} {w : World} {K : PySem.W.Frag} {mg : Str → Option Value} {base : Heap} {k : Nat} {x : Str} {C : Addr} {f : Str} (h : HasX P w K mg base k x C f) : mg x = some (.ref C) := by
  obtain ⟨_, _, _, _, _, _, _, m, _⟩ := h.ex
  exact m

/-! ### k43: repr of a value, _law_heard, _law_value -/
theorem exm_one {K : PySem.W.Frag} {cls c : Value} {b : Bool} (h : PySem.W.exmOne K cls c = some b) : PySem.W.exmAny K cls [c] = some b := by
  unfold PySem.W.exmAny
  rw [h]
  cases b <;> rfl

theorem bb_repr : bootBuiltins "repr" = some (.builtin "repr") := by decide +kernel
/-- how a value is shown -/
inductive ShO (K : PySem.W.Frag) (H : Hp) : V → Str → Prop
  | dp {v : V} {d : PyData} (h : Dp K H v d) (sh : SeqAt.shaped d = true) (so : d.showable = true) (sz : d.shown.length ≤ 1000) : ShO K H v d.shown
  | dct {a : Addr} (e : H a = some (.dK [])) : ShO K H (.ref a) (PyData.dict []).shown
section
open PyProof.Rows
variable {X : Cx}
def rReprV (K : PySem.W.Frag) : List V → Hp → VK → Prop := fun xs H Q => ∃ v z, xs = [v] ∧ ShO K H v z ∧ Q (.str z) H
theorem call_reprV (hg : X.A.guards = some []) (hu : X.A.units + 100 < cLine) : CallR X (.builtin "repr") (rReprV X.K) := by
  intro pins s σ H xs us Q I r h
  obtain ⟨v, z, rfl, h, q⟩ := h
  obtain ⟨u, rfl, ru⟩ := vals1 r
  have big : 1000 ≤ sizeLine := by decide
  cases h with
  | @dp _ d h sh so sz =>
    have tk : ∀ t : Nat, EP X pins σ Q (.str d.shown t) { s with toks := s.toks + 1 } := fun t => ⟨.str d.shown, H, I.tok _, ⟨_, rfl⟩, q⟩
    cases v with
    | ref a =>
      obtain rfl : u = Value.ref a := ru
      obtain ⟨as, rd⟩ := Dp.reads I d _ _ h rfl
      have dp := SeqAt.depth_of_shaped sh
      have nd := PyData.hasDict_of_canLay d (SeqAt.canLay_of_shaped sh)
      refine repr_of_reads' rd so (PyData.noDict_hsm nd) hg (by omega) (fun _ _ e => e) (fun h' u tk k => ?_) (Nat.le_trans sz big)
      exact ⟨.str d.shown, H, I.kept (t' := tk) k, ⟨_, rfl⟩, q⟩
    | non =>
      cases h
      obtain rfl : u = Value.none := ru
      exact PySem.P.repr_of_none (tk _)
    | bl b =>
      cases h
      obtain rfl : u = Value.bool b := ru
      exact PySem.P.repr_of_bool (tk _)
    | int i =>
      cases h
      obtain ⟨t, rfl⟩ := ru
      exact PySem.P.repr_of_int (of_decide_eq_true so) (tk _)
    | str x =>
      cases h
      obtain ⟨t, rfl⟩ := ru
      exact PySem.P.repr_of_str (tk _) (Nat.le_trans sz big)
    | _ => cases h
  | @dct a e =>
    obtain rfl : u = Value.ref a := ru
    obtain ⟨_, hsys, vs, kv, o, es, ep, ho, ex, hd, _, hp, _⟩ := (show ObjOk X.prog X.w H s.heap a (.dK []) from I.hok a _ e)
    have ev : vs = [] := by cases kv; rfl
    subst ev
    have ee : es.toList = [] := List.eq_nil_of_length_eq_zero hp.length
    have rd : Reads s.heap (.ref a) (.dict []) (a :: [] ++ []) := .dict ho ex.1 hd (by rw [ee]; exact .nil) (by rw [ee]; exact .nil)
    refine repr_of_reads' rd rfl (fun _ hm => ?_) hg (by simp [PyData.depth, PyData.depthKv]; omega) (fun _ _ e => e) (fun h' u tk k => ?_) (by decide +kernel)
    · rcases List.mem_cons.mp hm with z | z
      · rw [← z] at hsys
        simp at hsys
      · simp at z
    · exact ⟨.str _, H, I.kept (t' := tk) k, ⟨_, rfl⟩, q⟩
end
abbrev sLHe : Stmt := topS 21
abbrev NLHe : List Str := ["_law_call", "_law_held", "e"]
abbrev PLHe : List Str := ["_law_call"]
theorem scLHe : FnScope NLHe PLHe (defScope sLHe) := ⟨rfl, rfl, rfl, by decide +kernel, rfl, by decide +kernel, by decide +kernel⟩
abbrev sLVa : Stmt := topS 22
abbrev NLVa : List Str := ["_law_call", "e"]
abbrev PLVa : List Str := ["_law_call"]
theorem scLVa : FnScope NLVa PLVa (defScope sLVa) := ⟨rfl, rfl, rfl, by decide +kernel, rfl, by decide +kernel, by decide +kernel⟩
structure Err43 (K : PySem.W.Frag) (mg : Str → Option Value) (CI CT CE : Addr) : Prop where
  ii : PySem.W.exmOne K (.ref CI) (.ref CI) = some true
  ie : PySem.W.exmOne K (.ref CI) (.ref CE) = some true
  ki : PySem.W.kitOne K (.ref CI) (.ref CI) = some true
  kt : PySem.W.kitOne K (.ref CI) (.ref CT) = some false
  xf : XfC K CI
  ex : ExcC K CI
  no : PySem.W.findIn K (.ref CI) "value" = some none
  mI : mg "InvalidRow" = some (.ref CI)
  mT : mg "InvalidTree" = some (.ref CT)
  mE : mg "ProgramError" = some (.ref CE)
  n_isinstance : mg "isinstance" = none
  n_repr : mg "repr" = none
theorem look_value (v : V) : ([(("value" : Str), v)] : List (Str × V)).lookup ("value" : Str) = some v := by simp [List.lookup]
/-- the lambda raises InvalidRow with v, which shows as z -/
def THeard (K : PySem.W.Frag) (CI : Addr) : (XK → Hp → VK → Prop) → Hp → VK → Prop := fun tl H Q =>
  ∃ (v : V) (z : Str), (∀ H', KeepI H H' → ShO K H' v z) ∧ ∀ (E' : XK) (Q' : VK), (∀ dd H', KeepI H H' → H' dd = some (.xd [("value", v)]) → (∀ L H2, Same H' H2 → H2 L = some (.lst [.str "row", .str z]) → Q (.ref L) H2) → E' (.ref CI) (some dd) H') → tl E' H Q'
theorem heard_gives {X : Cx} {g : Addr} {cdg : Value} {q : Str} {CI CT CE : Addr} {k : Nat} (M : Err43 X.K X.mg CI CT CE) (hgd : X.A.guards = some []) (hr : Room (k + 1) X.A) : LX.GivesN X NLHe "_law_heard" (defScope sLHe) g cdg (defBody sLHe) "_law_call" q (THeard X.K CI) := by
  intro f c' s H Q tl act hc h
  have hr2 := hr.deeper (PyProof.Rows.envOfC "_law_heard" (defScope sLHe) s.heap.objs.size g cdg)
  refine ⟨_, (pss_cons (ps_set (i := 1) scLHe.nd rfl (Or.inl rfl) pe_non)
  (pss_cons (ps_tryK (Wout := fun _ _ _ _ => False) rfl rfl rfl scLHe.nd (fun _ _ x => by obtain ⟨_, _, _, _, _, _, _, _, _, _, _, _, _, _, _, _, z⟩ := x; exact z) (fun W pn xe tk _ => pss_one (ps_expr (act W pn xe _ _ tk))) (.one ⟨rfl, by decide, .inl M.mE⟩) (i := 2) rfl rfl (fun a oe cls d pn hz hf => pss_one (ps_set (i := 1) scLHe.nd rfl (Or.inl rfl) (pv 2))))
  (pss_cons (ps_if (PW.pt (pw_and (pt_val (pe_callB (r := rIsE X.K) call_isE (by rfl) M.n_isinstance bb_isinstance (pa_cons (pv 1) (pa_cons (pe_glob (v := .ref CI) rfl M.mI rfl) pa_nil)))) (pw_and1 (pt_not (pt_val (pe_callB (r := rIsE X.K) call_isE (by rfl) M.n_isinstance bb_isinstance (pa_cons (pv 1) (pa_cons (pe_glob (v := .ref CT) rfl M.mT rfl) pa_nil))))))))
  (pss_one (ps_ret (pe_lst (pa_cons pe_str (pa_cons (pe_callB (call_reprV hgd (by have := hr2.un; show (X.A.deeper _).units + 100 < cLine; omega)) (by rfl) M.n_repr bb_repr (pa_cons (pe_errF (pv 1)) pa_nil)) pa_nil)))))
  pss_nil)
  (pss_one (ps_ret (pe_lst (pa_cons pe_str pa_nil))))))), ?_⟩
  obtain ⟨v, z, hs, h⟩ := h
  refine ⟨rfl, hc, h _ _ fun dd H' kp hd hq => ?_⟩
  refine ⟨true, exm_one M.ie, fun _ a na => ⟨_, rfl, ?_⟩, fun z => nomatch z⟩
  have s1 := same_new (o := ErrO a (.ref CI) (some dd)) na
  have eo : upd H' a (ErrO a (.ref CI) (some dd)) a = some (ErrO a (.ref CI) (some dd)) := upd_same
  have ed := s1 _ _ hd
  have sh := hs _ (kp.trans (KeepI.of s1))
  refine ⟨_, rfl, a, CI, dd, .ref CI, .ref CI, true, _, rfl, eo, M.ex, (fun u r => r), M.ki, ed, ?_⟩
  refine ⟨true, rfl, iteT ?_⟩
  refine ⟨_, rfl, a, CI, dd, .ref CT, .ref CT, false, _, rfl, eo, M.ex, (fun u r => r), M.kt, ed, ?_⟩
  refine ⟨false, rfl, iteT ?_⟩
  refine ⟨_, rfl, a, CI, dd, _, v, rfl, eo, M.xf, M.no, ed, look_value v, ?_⟩
  refine ⟨v, z, rfl, sh, (by show 2 ≤ sizeLine; decide), fun L hL => ?_⟩
  exact hq L _ (s1.trans (same_new hL)) upd_same
/-- the lambda raises InvalidRow with v -/
def TVal (CI : Addr) : (XK → Hp → VK → Prop) → Hp → VK → Prop := fun tl H Q =>
  ∃ v : V, (∀ H', Same H H' → Q v H') ∧ ∀ (E' : XK) (Q' : VK), (∀ dd H', Same H H' → H' dd = some (.xd [("value", v)]) → E' (.ref CI) (some dd) H') → tl E' H Q'
theorem val_gives {X : Cx} {g : Addr} {cdg : Value} {q : Str} {CI CT CE : Addr} (M : Err43 X.K X.mg CI CT CE) : LX.GivesN X NLVa "_law_value" (defScope sLVa) g cdg (defBody sLVa) "_law_call" q (TVal CI) := by
  intro f c' s H Q tl act hc h
  refine ⟨_, (pss_cons (ps_tryX (Wout := fun _ _ _ _ => False) rfl rfl scLVa.nd (fun _ _ x => by obtain ⟨_, _, _, _, _, _, _, _, _, _, _, _, _, _, _, _, z⟩ := x; exact z) (fun W pn xe tk _ => pss_one (ps_expr (act W pn xe _ _ tk))) (.named (i := 1) (.one ⟨rfl, by decide, .inl M.mI⟩) rfl rfl (fun a oe cls d pn hz hf => pss_one (ps_ret (pe_xfG hz hf (pv 1)))) .nil))
  (pss_one (ps_ret pe_non))), ?_⟩
  obtain ⟨v, hv, h⟩ := h
  refine ⟨rfl, hc, h _ _ fun dd H' sa hd => ?_⟩
  refine ⟨true, exm_one M.ii, fun _ a na => ?_, fun z => nomatch z⟩
  exact ⟨_, rfl, rfl, _, dd, _, v, rfl, M.xf, M.no, rfl, hd, look_value v, hv _ sa⟩

/-! ### k43: the law -/
abbrev sLaw : Stmt := topS 23
abbrev NLaw : List Str := ["_law_script", "_law_odds", "_law_k", "_law_pool_here", "_law_odd", "_law_last", "_law_rows", "_law_wide", "_law_space", "_law_far", "_law_other"]
abbrev PLaw : List Str := ["_law_script"]
theorem scLaw : FnScope NLaw PLaw (defScope sLaw) := ⟨rfl, rfl, rfl, by decide +kernel, rfl, by decide +kernel, by decide +kernel⟩
theorem cut_take {xs : List V} {k : Nat} : cutV xs none (some (k : Int)) = xs.take k := by
  unfold cutV
  rw [HT.sIx_none, HT.sIx_nat, List.drop_zero]
  rw [Nat.sub_zero, List.take_eq_take_iff]
  omega
abbrev qLw : Str := ("law" : Str) ++ ".<locals>." ++ "<lambda>"
def spLaw (K : PySem.W.Frag) (TS : List (Addr × Str)) : Sp := fun vs H Q _ => ∃ (a : Addr) (ns : List Int), vs = [.ref a] ∧ SqL K H a (ns.map V.int) ∧ ns.length ≤ 63 ∧ (∀ p ∈ TS, H p.1 = some (.tbl #[])) ∧ ∀ H', Q (.bl true) H'
/-- all but instances and tables stays -/
def KeepO (H H' : Hp) : Prop := ∀ b o, H b = some o → (∀ C dx fs, o ≠ .ins C dx fs) → (∀ ps, o ≠ .tbl ps) → H' b = some o
theorem KeepO.refl {H : Hp} : KeepO H H := fun _ _ e _ _ => e
theorem KeepO.trans {H H1 H2 : Hp} (a : KeepO H H1) (b : KeepO H1 H2) : KeepO H H2 := fun x o e n m => b x o (a x o e n m) n m
theorem KeepO.ofI {H H' : Hp} (s : KeepI H H') : KeepO H H' := fun b o e n _ => s b o e n
theorem KeepO.ofN {H H' : Hp} (s : LamX.ExtN H H') : KeepO H H' := fun b o e _ m => s b o e m
theorem KeepO.of {H H' : Hp} (s : Same H H') : KeepO H H' := fun b o e _ _ => s b o e
/-- a value that is no row of two numbers -/
structure Odd (K : PySem.W.Frag) (H : Hp) (v : V) (z : Str) : Prop where
  sh : ∀ H', KeepO H H' → ShO K H' v z
  no : ∀ H', KeepO H H' → NoRowM K H' 2 v
  ok : PyData.strOk z = true
theorem Odd.keep {K : PySem.W.Frag} {H H' : Hp} {v : V} {z : Str} (h : Odd K H v z) (k : KeepO H H') : Odd K H' v z := ⟨fun H2 s => h.sh H2 (k.trans s), fun H2 s => h.no H2 (k.trans s), h.ok⟩
section
variable {K : PySem.W.Frag} {H : Hp}
theorem odd_dp {v : V} {d : PyData} (hd : ∀ H', KeepO H H' → Dp K H' v d) (no : ∀ H', KeepO H H' → NoRowM K H' 2 v) (sh : SeqAt.shaped d = true) (so : d.showable = true) (sz : d.shown.length ≤ 1000) (ok : PyData.strOk d.shown = true) : Odd K H v d.shown :=
  ⟨fun H' k => .dp (hd H' k) sh so sz, no, ok⟩
theorem keep_l {H' : Hp} (k : KeepO H H') {a : Addr} {xs : List V} (e : H a = some (.lst xs)) : H' a = some (.lst xs) := k _ _ e (fun _ _ _ z => by cases z) (fun _ z => by cases z)
theorem keep_t {H' : Hp} (k : KeepO H H') {a : Addr} {xs : List V} (e : H a = some (.tup xs)) : H' a = some (.tup xs) := k _ _ e (fun _ _ _ z => by cases z) (fun _ z => by cases z)
theorem keep_d {H' : Hp} (k : KeepO H H') {a : Addr} {xs : List (Key × V)} (e : H a = some (.dK xs)) : H' a = some (.dK xs) := k _ _ e (fun _ _ _ z => by cases z) (fun _ z => by cases z)
theorem kT {a : String} (h : kitB a "tuple" = some false) : PySem.W.kitOne K (.type a) (.type "tuple") = some false := kit_ty h
theorem noInt_of {v : V} {t : String} (ty : TyX K H v (.type t)) (h : kitB t "int" = some false) : NoInt K H v := ⟨_, _, ty, kit_ty h, fun z => nomatch z⟩
theorem noInt_bl (b : Bool) : NoInt K H (.bl b) := ⟨_, true, .base (.bl b), kit_ty (r := true) (by decide +kernel), fun _ => kit_ty (r := true) (by decide +kernel)⟩
theorem same_keep {H H' : Hp} (s : Same H H') : KeepO H H' := KeepO.of s
theorem odds_ok {l t1 t2 t3 t4 t5 t6 e1 e2 d : Addr} (h1 : H l = some (.lst [.int 1, .int 2])) (h2 : H t1 = some (.tup [.int 1])) (h3 : H t2 = some (.tup [.int 1, .int 2, .int 3])) (h4 : H t3 = some (.tup [.int 1, .non])) (h5 : H t4 = some (.tup [.bl true, .int 0])) (h6 : H t5 = some (.tup [.str "a", .int 1])) (h7 : H t6 = some (.tup [.ref e1, .ref e2])) (h8 : H e1 = some (.tup [])) (h9 : H e2 = some (.tup [])) (h10 : H d = some (.dK [])) :
    ∀ v ∈ ([.non, .int 5, .ref l, .ref t1, .ref t2, .ref t3, .ref t4, .ref t5, .ref t6, .ref d] : List V), ∃ z, Odd K H v z := by
  have it : ∀ {p : Addr} {xs : List V}, H p = some (.tup xs) → xs.length = 2 → (∀ H', KeepO H H' → ∀ x ∈ xs, (∃ i : Int, x = .int i) ∨ NoInt K H' x) → (∃ x ∈ xs, ∀ i : Int, x ≠ .int i) → ∀ H', KeepO H H' → NoRowM K H' 2 (.ref p) := fun e hl k b H' kp => .item (keep_t kp e) hl (by decide) (fun H2 s2 => k H2 (kp.trans (KeepO.of s2))) b
  have tup : ∀ {H' : Hp} {a : Addr} {xs : List V} {ds : List PyData}, H' a = some (.tup xs) → DpAll K H' xs ds → Dp K H' (.ref a) (.tuple ds) := fun e h => .tup (SqT.of e) h
  intro v hv
  simp only [List.mem_cons, List.not_mem_nil, or_false] at hv
  rcases hv with rfl | rfl | rfl | rfl | rfl | rfl | rfl | rfl | rfl | rfl
  · exact ⟨_, odd_dp (fun _ _ => .non) (fun _ _ => .kind (.base .non) (kT (by decide +kernel))) rfl rfl (by decide +kernel) (by decide +kernel)⟩
  · exact ⟨_, odd_dp (fun _ _ => .int 5) (fun _ _ => .kind (.base (.int 5)) (kT (by decide +kernel))) rfl (by decide +kernel) (by decide +kernel) (by decide +kernel)⟩
  · exact ⟨_, odd_dp (d := .list [.int 1, .int 2]) (fun _ k => .lst (SqL.of (keep_l k h1)) (.cons (.int 1) (.cons (.int 2) .nil))) (fun _ k => .kind (.base (.lst (keep_l k h1))) (kT (by decide +kernel))) (by decide +kernel) (by decide +kernel) (by decide +kernel) (by decide +kernel)⟩
  · exact ⟨_, odd_dp (d := .tuple [.int 1]) (fun _ k => tup (keep_t k h2) (.cons (.int 1) .nil)) (fun _ k => .len (keep_t k h2) (by decide)) (by decide +kernel) (by decide +kernel) (by decide +kernel) (by decide +kernel)⟩
  · exact ⟨_, odd_dp (d := .tuple [.int 1, .int 2, .int 3]) (fun _ k => tup (keep_t k h3) (.cons (.int 1) (.cons (.int 2) (.cons (.int 3) .nil)))) (fun _ k => .len (keep_t k h3) (by decide)) (by decide +kernel) (by decide +kernel) (by decide +kernel) (by decide +kernel)⟩
  · refine ⟨_, odd_dp (d := .tuple [.int 1, .none]) (fun _ k => tup (keep_t k h4) (.cons (.int 1) (.cons .non .nil))) (it h4 rfl (fun H' k x hx => ?_) ⟨.non, by simp, fun i z => by cases z⟩) (by decide +kernel) (by decide +kernel) (by decide +kernel) (by decide +kernel)⟩
    simp only [List.mem_cons, List.not_mem_nil, or_false] at hx
    rcases hx with rfl | rfl
    · exact .inl ⟨_, rfl⟩
    · exact .inr (noInt_of (.base .non) (by decide +kernel))
  · refine ⟨_, odd_dp (d := .tuple [.bool true, .int 0]) (fun _ k => tup (keep_t k h5) (.cons (.bl true) (.cons (.int 0) .nil))) (it h5 rfl (fun H' k x hx => ?_) ⟨.bl true, by simp, fun i z => by cases z⟩) (by decide +kernel) (by decide +kernel) (by decide +kernel) (by decide +kernel)⟩
    simp only [List.mem_cons, List.not_mem_nil, or_false] at hx
    rcases hx with rfl | rfl
    · exact .inr (noInt_bl true)
    · exact .inl ⟨_, rfl⟩
  · refine ⟨_, odd_dp (d := .tuple [.str "a", .int 1]) (fun _ k => tup (keep_t k h6) (.cons (.str _) (.cons (.int 1) .nil))) (it h6 rfl (fun H' k x hx => ?_) ⟨.str "a", by simp, fun i z => by cases z⟩) (by decide +kernel) (by decide +kernel) (by decide +kernel) (by decide +kernel)⟩
    simp only [List.mem_cons, List.not_mem_nil, or_false] at hx
    rcases hx with rfl | rfl
    · exact .inr (noInt_of (.base (.str _)) (by decide +kernel))
    · exact .inl ⟨_, rfl⟩
  · refine ⟨_, odd_dp (d := .tuple [.tuple [], .tuple []]) (fun _ k => tup (keep_t k h7) (.cons (tup (keep_t k h8) .nil) (.cons (tup (keep_t k h9) .nil) .nil))) (it h7 rfl (fun H' k x hx => ?_) ⟨.ref e1, by simp, fun i z => by cases z⟩) (by decide +kernel) (by decide +kernel) (by decide +kernel) (by decide +kernel)⟩
    simp only [List.mem_cons, List.not_mem_nil, or_false] at hx
    rcases hx with rfl | rfl
    · exact .inr (noInt_of (.base (.tup (keep_t k h8))) (by decide +kernel))
    · exact .inr (noInt_of (.base (.tup (keep_t k h9))) (by decide +kernel))
  · exact ⟨_, fun _ k => .dct (keep_d k h10), fun _ k => .kind (.base (.dK (keep_d k h10))) (kT (by decide +kernel)), by decide +kernel⟩
end

theorem LX.passL {X : Cx} {A : PySem.Around} {outer : List Env} {s : Shared} {H : Hp} {E : XK} {scope : Scope} {f c' : Addr} : Passes (L2N.CX X.prog X.w) (LX.lamN X A outer s H E scope f c') E := fun pins σ H1 s1 e s' I c => L2N.passAt LX.lamN_takes σ pins H1 s1 e s' I c
theorem new_at {H : Hp} {p : Addr} {o : HO} (_ : H p = none) : upd H p o p = some o := upd_same
theorem sql_ext {K : PySem.W.Frag} {H H' : Hp} {a : Addr} {xs : List V} (x : LamX.ExtN H H') (h : SqL K H a xs) : SqL K H' a xs := by
  rcases h with (e | ⟨o, e⟩) | h
  · exact .inl (.inl (x _ _ e (fun _ z => by cases z)))
  · exact .inl (.inr ⟨o, x _ _ e (fun _ z => by cases z)⟩)
  · exact .inr h
theorem tabs_pool {H H' : Hp} {p : Addr} {T : List (Addr × Str)} (P : PoolB H p) (b : ∀ b o, H b = some o → b ≠ p → H' b = some o) (h : LamX.Tabs T H) : LamX.Tabs T H' := fun x hx => by
  obtain ⟨u, v, e, _⟩ := P
  obtain ⟨ps, h1, h2, h3⟩ := h x hx
  have keep : ∀ b' o, H b' = some o → (∀ xs, o ≠ .lst xs) → H' b' = some o := fun b' o e' no => b _ _ e' (ne_of e' e (fun z => no _ z))
  refine ⟨ps, keep _ _ h1 (fun _ z => by cases z), h2, fun pos cv hc => ?_⟩
  obtain ⟨c0, z1, z2⟩ := h3 pos cv hc
  exact ⟨c0, z1, keep _ _ z2 (fun _ z => by unfold LamX.CodeO at z; cases z)⟩
theorem od_at {od : List V} {r : Int} (l : od.length = 10) (r0 : 0 ≤ r) (r1 : r < 10) : ∃ v, atI od r = some v ∧ v ∈ od := by
  have h : r.toNat < od.length := by omega
  have e := atI_nat (List.getElem?_eq_getElem h)
  rw [show ((r.toNat : Nat) : Int) = r by omega] at e
  exact ⟨od[r.toNat], e, List.getElem_mem h⟩
/-- a value that is no width -/
structure WideOk (K : PySem.W.Frag) (H : Hp) (v : V) (z : Str) : Prop where
  sh : ∀ H', KeepO H H' → ShO K H' v z
  no : (∃ i : Int, v = .int i ∧ i < 1) ∨ ∀ H', KeepO H H' → NoInt K H' v
  ok : PyData.strOk z = true
theorem wides_ok {K : PySem.W.Frag} {H : Hp} {t : Addr} (ht : H t = some (.tup [.int 2])) : ∀ v ∈ ([.int 0, .int (-1), .non, .str "2", .bl true, .ref t] : List V), ∃ z, WideOk K H v z := by
  have mk : ∀ {v : V} {d : PyData}, (∀ H', KeepO H H' → Dp K H' v d) → SeqAt.shaped d = true → d.showable = true → d.shown.length ≤ 1000 → ((∃ i : Int, v = .int i ∧ i < 1) ∨ ∀ H', KeepO H H' → NoInt K H' v) → PyData.strOk d.shown = true → ∃ z, WideOk K H v z := fun hd a b c no ok => ⟨_, fun H' k => .dp (hd H' k) a b c, no, ok⟩
  intro v hv
  simp only [List.mem_cons, List.not_mem_nil, or_false] at hv
  rcases hv with rfl | rfl | rfl | rfl | rfl | rfl
  · exact mk (fun _ _ => .int 0) (by decide +kernel) (by decide +kernel) (by decide +kernel) (.inl ⟨_, rfl, by decide⟩) (by decide +kernel)
  · exact mk (fun _ _ => .int (-1)) (by decide +kernel) (by decide +kernel) (by decide +kernel) (.inl ⟨_, rfl, by decide⟩) (by decide +kernel)
  · exact mk (fun _ _ => .non) (by decide +kernel) (by decide +kernel) (by decide +kernel) (.inr fun _ _ => noInt_of (.base .non) (by decide +kernel)) (by decide +kernel)
  · exact mk (fun _ _ => .str "2") (by decide +kernel) (by decide +kernel) (by decide +kernel) (.inr fun _ _ => noInt_of (.base (.str _)) (by decide +kernel)) (by decide +kernel)
  · exact mk (fun _ _ => .bl true) (by decide +kernel) (by decide +kernel) (by decide +kernel) (.inr fun _ _ => noInt_bl true) (by decide +kernel)
  · exact mk (d := .tuple [.int 2]) (fun _ k => .tup (SqT.of (keep_t k ht)) (.cons (.int 2) .nil)) (by decide +kernel) (by decide +kernel) (by decide +kernel) (.inr fun _ k => noInt_of (.base (.tup (keep_t k ht))) (by decide +kernel)) (by decide +kernel)
theorem space_ext {C : Addr} {H H' : Hp} {S L : Addr} {n : Nat} {out : List Row} (x : LamX.ExtN H H') (h : SpaceAt C H S L n out) : SpaceAt C H' S L n out := let ⟨dx, ys, e1, e2, e3⟩ := h; ⟨dx, ys, x _ _ e1 (fun _ z => by cases z), x _ _ e2 (fun _ z => by cases z), e3.same fun b zs e => x _ _ e (fun _ z => by cases z)⟩
/-- a value that is no space -/
structure OthOk (K : PySem.W.Frag) (H : Hp) (v : V) (z : Str) : Prop where
  sh : ∀ H', KeepO H H' → ShO K H' v z
  ty : ∀ H', KeepO H H' → ∃ t, TyX K H' v (.type t) ∧ (t = "NoneType" ∨ t = "int" ∨ t = "tuple" ∨ t = "list")
  ok : PyData.strOk z = true
theorem others_ok {K : PySem.W.Frag} {H : Hp} {t u l : Addr} (ht : H t = some (.tup [.int 1, .int 2])) (hu : H u = some (.tup [.int 1, .int 2])) (hl : H l = some (.lst [.ref u])) : ∀ v ∈ ([.non, .int 5, .ref t, .ref l] : List V), ∃ z, OthOk K H v z := by
  have mk : ∀ {v : V} {d : PyData}, (∀ H', KeepO H H' → Dp K H' v d) → SeqAt.shaped d = true → d.showable = true → d.shown.length ≤ 1000 → (∀ H', KeepO H H' → ∃ t, TyX K H' v (.type t) ∧ (t = "NoneType" ∨ t = "int" ∨ t = "tuple" ∨ t = "list")) → PyData.strOk d.shown = true → ∃ z, OthOk K H v z := fun hd a b c no ok => ⟨_, fun H' k => .dp (hd H' k) a b c, no, ok⟩
  intro v hv
  simp only [List.mem_cons, List.not_mem_nil, or_false] at hv
  rcases hv with rfl | rfl | rfl | rfl
  · exact mk (fun _ _ => .non) (by decide +kernel) (by decide +kernel) (by decide +kernel) (fun _ _ => ⟨_, .base .non, .inl rfl⟩) (by decide +kernel)
  · exact mk (fun _ _ => .int 5) (by decide +kernel) (by decide +kernel) (by decide +kernel) (fun _ _ => ⟨_, .base (.int 5), .inr (.inl rfl)⟩) (by decide +kernel)
  · exact mk (d := .tuple [.int 1, .int 2]) (fun _ k => .tup (SqT.of (keep_t k ht)) (.cons (.int 1) (.cons (.int 2) .nil))) (by decide +kernel) (by decide +kernel) (by decide +kernel) (fun _ k => ⟨_, .base (.tup (keep_t k ht)), .inr (.inr (.inl rfl))⟩) (by decide +kernel)
  · exact mk (d := .list [.tuple [.int 1, .int 2]]) (fun _ k => .lst (SqL.of (keep_l k hl)) (.cons (.tup (SqT.of (keep_t k hu)) (.cons (.int 1) (.cons (.int 2) .nil))) .nil)) (by decide +kernel) (by decide +kernel) (by decide +kernel) (fun _ k => ⟨_, .base (.lst (keep_l k hl)), .inr (.inr (.inr rfl))⟩) (by decide +kernel)
/-- Space: what the law asks of it -/
structure SpOk (P : Program) (w : World) (K : PySem.W.Frag) (mg : Str → Option Value) (base : Heap) (C CI : Addr) : Prop where
  TS : TxS K C
  OC : OrC K C
  HC : HasC P w K mg base CX0 8 "Space" C PSpIni (spSpIni C)
  HX : HasC P w K mg base (L2N.CX P w) 8 "Space" C PSpIni (spSpIniX K C CI)
  MO : HasM P w K mg base (L2N.CX P w) 4 C "__or__" PSpOr (spChkX K C CI)
  MW : HasM P w K mg base (L2N.CX P w) 4 C "is_within" PSpWith (spChkX K C CI)
  ME : HasM P w K mg base CX0 1 C "__eq__" PSpEq (spEqSp K C)
  nos : ∀ t, t = "NoneType" ∨ t = "int" ∨ t = "tuple" ∨ t = "list" → PySem.W.kitOne K (.type t) (.ref C) = some false
structure TxL43 (mg : Str → Option Value) : Prop where
  n_len : mg "len" = none
  n_max : mg "max" = none
  n_min : mg "min" = none
  n_range : mg "range" = none
  n_repr : mg "repr" = none
section
variable {P : Program} {w : World} {K : PySem.W.Frag} {mg : Str → Option Value} {base : Heap} {C CI CT CE Pt c : Addr} {TS : List (Addr × Str)}
theorem ok_Law {f : Addr} {fd : FuncData} (F : Fun K "law" "law" sLaw f fd) (hcode : fd.code = .ref c) (TB : LamX.TabB base mg c Pt) (hT : (Pt, qLw) ∈ TS) (hu : ∀ p ∈ TS, p.1 = Pt → p.2 = qLw) (T : TxL43 mg) (M : Err43 K mg CI CT CE) (SO : SpOk P w K mg base C CI)
    (fH : ∃ (g : Addr) (fd : FuncData), Fun K "_law_heard" "_law_heard" sLHe g fd ∧ mg "_law_heard" = some (.ref g) ∧ L2.Binds K fd PLHe []) (fV : ∃ (g : Addr) (fd : FuncData), Fun K "_law_value" "_law_value" sLVa g fd ∧ mg "_law_value" = some (.ref g) ∧ L2.Binds K fd PLVa [])
    (GP : Has P w K mg base CX0 1 "_law_pool" PPool (spPoolB K)) (GT : Has P w K mg base CX0 1 "_law_take" PTake spTake) (GR : Has P w K mg base (L2N.CX P w) 6 "reduced" PRed (spRedX K CI)) (GK : Has P w K mg base (L2N.CX P w) 7 "kernel" PKer (spKerX K CI)) : FnAt callerA P w K mg base CX0 f fd PLaw (spLaw K TS) := by
  obtain ⟨oc, od, kV, doc, pm, an, cdv, ct, osl, rfl, lk, hcd⟩ := F.ex
  have hc : cdv = .ref c := hcode
  subst hc
  obtain ⟨gH, fdH, FH, mH, bH⟩ := fH
  obtain ⟨ocH, odH, kVH, docH, pmH, anH, cdvH, ctH, oslH, rfl, lkH, hcdH⟩ := FH.ex
  obtain ⟨gV, fdV, FV, mV, bV⟩ := fV
  obtain ⟨ocV, odV, kVV, docV, pmV, anV, cdvV, ctV, oslV, rfl, lkV, hcdV⟩ := FV.ex
  refine fnAt_lk (k := 20) ⟨rfl, by decide, by decide⟩ lk hcd scLaw (fun vs H Q E h => ?_) (fun outer s H vs Q E hr h => ?_)
  · obtain ⟨a, ns, rfl, _⟩ := h
    rfl
  · obtain ⟨sc, ns0, rfl, hS, hl, hTS, k⟩ := h
    have hr1 := hr.mono (j := 1) (by decide)
    have hr2 := hr.mono (j := 2) (by decide)
    have hr9 := hr.mono (j := 9) (by decide)
    have hr13 := hr.mono (j := 13) (by decide)
    refine ⟨_, PSs.nox (pss_cons (ps_set (i := 1) scLaw.nd rfl (Or.inl rfl) (pe_lst (pa_cons pe_non (pa_cons pe_int (pa_cons (pe_lst (pa_cons pe_int (pa_cons pe_int pa_nil))) (pa_cons (pe_tup (pa_cons pe_int pa_nil)) (pa_cons (pe_tup (pa_cons pe_int (pa_cons pe_int (pa_cons pe_int pa_nil)))) (pa_cons (pe_tup (pa_cons pe_int (pa_cons pe_non pa_nil))) (pa_cons (pe_tup (pa_cons pe_bl (pa_cons pe_int pa_nil))) (pa_cons (pe_tup (pa_cons pe_str (pa_cons pe_int pa_nil))) (pa_cons (pe_tup (pa_cons (pe_tup pa_nil) (pa_cons (pe_tup pa_nil) pa_nil))) (pa_cons pe_dnewK pa_nil))))))))))))
  (pss_cons (ps_for PassesOwn.never rfl (pi_range1 (by rfl) T.n_range (pa_cons (pe_callB (call_max2 rfl) (by rfl) T.n_max bb_max (pa_cons pe_int (pa_cons (pe_callB (call_min2 rfl) (by rfl) T.n_min bb_min (pa_cons (pe_callB call_len_seq (by rfl) T.n_len bb_len (pa_cons (pv 0) pa_nil)) (pa_cons pe_int pa_nil))) pa_nil))) pa_nil)) (pg_name (i := 2) scLaw.nd rfl (Or.inl rfl))
  (pss_cons (ps_set (i := 3) scLaw.nd rfl (Or.inl rfl) (pe_callH GP hr1 rfl pass0 (pa_cons (pv 0) (pa_cons (pv 2) pa_nil))))
  (pss_cons (ps_par (i := 4) (j := 5) (by rfl) scLaw.nd rfl rfl (by decide) rfl rfl (pa_cons (pe_ix (r := rIxL K) ix_list (pv 1) (pe_callH GT hr1 rfl pass0 (pa_cons (pv 3) (pa_cons pe_int pa_nil))) (fun _ _ => rfl)) (pa_cons (pe_ix (r := rIxL K) ix_list (pv 1) (pe_callH GT hr1 rfl pass0 (pa_cons (pv 3) (pa_cons pe_int pa_nil))) (fun _ _ => rfl)) pa_nil)) (by rfl))
  (pss_cons (ps_set (i := 6) scLaw.nd rfl (Or.inr rfl) (pe_op op_cat (pe_op op_cat (pe_slice sl_list (pe_lst (pa_cons (pe_tup (pa_cons pe_int (pa_cons pe_int pa_nil))) (pa_cons (pe_tup (pa_cons pe_int (pa_cons pe_int pa_nil))) pa_nil))) po_none (po_some (pe_callH GT hr1 rfl pass0 (pa_cons (pv 3) (pa_cons pe_int pa_nil))))) (pe_lst (pa_cons (pv 4) pa_nil))) (pe_slice sl_list (pe_lst (pa_cons (pe_tup (pa_cons pe_int (pa_cons pe_int pa_nil))) (pa_cons (pv 5) pa_nil))) po_none (po_some (pe_callH GT hr1 rfl pass0 (pa_cons (pv 3) (pa_cons pe_int pa_nil)))))))
  (pss_cons (ps_if (pt_cmpR (op_neD hr.units) (LX.pe_lamN (T := TS) (k := 11) rfl mH FH.kp lkH hcdH bH scLHe rfl (Or.inl rfl) (heard_gives (k := 5) M rfl (hr.mono (by decide))) TB rfl hT hu hr13 (LamX.lamS_by (by rfl)) rfl (fun _ _ _ _ _ => rfl) (fun A outer s H E f c' hrL => (pe_callH GR (hrL.mono (by decide)) rfl LX.passL (pa_cons (pv 6) (pa_cons pe_int pa_nil))))) (pe_lst (pa_cons pe_str (pa_cons (pe_callB (call_reprV rfl (by have := hr.un; show (callerA.deeper _).units + 100 < cLine; omega)) (by rfl) T.n_repr bb_repr (pa_cons (pv 4) pa_nil)) pa_nil))) (nomark _))
  (pss_one (ps_ret pe_bl))
  pss_nil)
  (pss_cons (ps_if (pt_cmpR (op_neD hr.units) (LX.pe_lamN (T := TS) (k := 11) rfl mH FH.kp lkH hcdH bH scLHe rfl (Or.inl rfl) (heard_gives (k := 5) M rfl (hr.mono (by decide))) TB rfl hT hu hr13 (LamX.lamS_by (by rfl)) rfl (fun _ _ _ _ _ => rfl) (fun A outer s H E f c' hrL => (pe_callH GK (hrL.mono (by decide)) rfl LX.passL (pa_cons (pv 6) (pa_cons pe_int pa_nil))))) (pe_lst (pa_cons pe_str (pa_cons (pe_callB (call_reprV rfl (by have := hr.un; show (callerA.deeper _).units + 100 < cLine; omega)) (by rfl) T.n_repr bb_repr (pa_cons (pv 4) pa_nil)) pa_nil))) (nomark _))
  (pss_one (ps_ret pe_bl))
  pss_nil)
  (pss_cons (ps_if (pt_cmpR (op_neD hr.units) (LX.pe_lamN (T := TS) (k := 11) rfl mH FH.kp lkH hcdH bH scLHe rfl (Or.inl rfl) (heard_gives (k := 5) M rfl (hr.mono (by decide))) TB rfl hT hu hr13 (LamX.lamS_by (by rfl)) rfl (fun _ _ _ _ _ => rfl) (fun A outer s H E f c' hrL => (pe_makeH SO.HX (hrL.mono (by decide)) rfl LX.passL (pa_cons pe_int (pa_cons (pv 6) pa_nil))))) (pe_lst (pa_cons pe_str (pa_cons (pe_callB (call_reprV rfl (by have := hr.un; show (callerA.deeper _).units + 100 < cLine; omega)) (by rfl) T.n_repr bb_repr (pa_cons (pv 4) pa_nil)) pa_nil))) (nomark _))
  (pss_one (ps_ret pe_bl))
  pss_nil)
  (pss_cons (ps_for PassesOwn.never rfl (pi_list (pe_lst (pa_cons pe_int (pa_cons (pe_un un_neg pe_int) (pa_cons pe_non (pa_cons pe_str (pa_cons pe_bl (pa_cons (pe_tup (pa_cons pe_int pa_nil)) pa_nil)))))))) (pg_name (i := 7) scLaw.nd rfl (Or.inr rfl))
  (pss_one (ps_if (pt_cmpR (op_neD hr.units) (LX.pe_lamN (T := TS) (k := 11) rfl mH FH.kp lkH hcdH bH scLHe rfl (Or.inl rfl) (heard_gives (k := 5) M rfl (hr.mono (by decide))) TB rfl hT hu hr13 (LamX.lamS_by (by rfl)) rfl (fun _ _ _ _ _ => rfl) (fun A outer s H E f c' hrL => (pe_makeH SO.HX (hrL.mono (by decide)) rfl LX.passL (pa_cons (pv 7) (pa_cons (pv 6) pa_nil))))) (pe_lst (pa_cons pe_str (pa_cons (pe_callB (call_reprV rfl (by have := hr.un; show (callerA.deeper _).units + 100 < cLine; omega)) (by rfl) T.n_repr bb_repr (pa_cons (pv 7) pa_nil)) pa_nil))) (nomark _))
  (pss_one (ps_ret pe_bl))
  pss_nil)))
  (pss_cons (ps_set (i := 8) scLaw.nd rfl (Or.inr rfl) (pe_makeH SO.HC hr9 rfl pass0 (pa_cons pe_int (pa_cons (pe_lst (pa_cons (pe_tup (pa_cons pe_int (pa_cons pe_int pa_nil))) pa_nil)) pa_nil))))
  (pss_cons (ps_set (i := 9) scLaw.nd rfl (Or.inr rfl) (pe_makeH SO.HC hr9 rfl pass0 (pa_cons pe_int (pa_cons (pe_lst pa_nil) pa_nil))))
  (pss_cons (ps_if (pt_cmpR (op_neO SO.ME SO.TS.ne SO.TS.mo hr2) (LX.pe_lamN (T := TS) (k := 11) rfl mV FV.kp lkV hcdV bV scLVa rfl (Or.inl rfl) (val_gives M) TB rfl hT hu hr13 (LamX.lamS_by (by rfl)) rfl (fun _ _ _ _ _ => rfl) (fun A outer s H E f c' hrL => (pe_op (r := rOrX K C (spChkX K C CI) E) (op_orX SO.MO SO.TS.sf SO.OC.r (hrL.mono (by decide)) (fun σ pins H s e s' I c => L2N.passAt LX.lamN_takes σ pins H s e s' I c)) (pv 8) (pv 9)))) (pv 9) (nomark _))
  (pss_one (ps_ret pe_bl))
  pss_nil)
  (pss_cons (ps_if (pt_cmpR (op_neO SO.ME SO.TS.ne SO.TS.mo hr2) (LX.pe_lamN (T := TS) (k := 11) rfl mV FV.kp lkV hcdV bV scLVa rfl (Or.inl rfl) (val_gives M) TB rfl hT hu hr13 (LamX.lamS_by (by rfl)) rfl (fun _ _ _ _ _ => rfl) (fun A outer s H E f c' hrL => (pe_methH (pv 8) SO.TS.cl SO.MW (hrL.mono (by decide)) LX.passL (pa_cons (pv 9) pa_nil)))) (pv 9) (nomark _))
  (pss_one (ps_ret pe_bl))
  pss_nil)
  (pss_one (ps_for PassesOwn.never rfl (pi_list (pe_lst (pa_cons pe_non (pa_cons pe_int (pa_cons (pe_tup (pa_cons pe_int (pa_cons pe_int pa_nil))) (pa_cons (pe_lst (pa_cons (pe_tup (pa_cons pe_int (pa_cons pe_int pa_nil))) pa_nil)) pa_nil)))))) (pg_name (i := 10) scLaw.nd rfl (Or.inr rfl))
  (pss_cons (ps_if (pt_cmpR (op_neD hr.units) (LX.pe_lamN (T := TS) (k := 11) rfl mH FH.kp lkH hcdH bH scLHe rfl (Or.inl rfl) (heard_gives (k := 5) M rfl (hr.mono (by decide))) TB rfl hT hu hr13 (LamX.lamS_by (by rfl)) rfl (fun _ _ _ _ _ => rfl) (fun A outer s H E f c' hrL => (pe_op (r := rOrX K C (spChkX K C CI) E) (op_orX SO.MO SO.TS.sf SO.OC.r (hrL.mono (by decide)) (fun σ pins H s e s' I c => L2N.passAt LX.lamN_takes σ pins H s e s' I c)) (pv 8) (pv 10)))) (pe_lst (pa_cons pe_str (pa_cons (pe_callB (call_reprV rfl (by have := hr.un; show (callerA.deeper _).units + 100 < cLine; omega)) (by rfl) T.n_repr bb_repr (pa_cons (pv 10) pa_nil)) pa_nil))) (nomark _))
  (pss_one (ps_ret pe_bl))
  pss_nil)
  (pss_one (ps_if (pt_cmpR (op_neD hr.units) (LX.pe_lamN (T := TS) (k := 11) rfl mH FH.kp lkH hcdH bH scLHe rfl (Or.inl rfl) (heard_gives (k := 5) M rfl (hr.mono (by decide))) TB rfl hT hu hr13 (LamX.lamS_by (by rfl)) rfl (fun _ _ _ _ _ => rfl) (fun A outer s H E f c' hrL => (pe_methH (pv 8) SO.TS.cl SO.MW (hrL.mono (by decide)) LX.passL (pa_cons (pv 10) pa_nil)))) (pe_lst (pa_cons pe_str (pa_cons (pe_callB (call_reprV rfl (by have := hr.un; show (callerA.deeper _).units + 100 < cLine; omega)) (by rfl) T.n_repr bb_repr (pa_cons (pv 10) pa_nil)) pa_nil))) (nomark _))
  (pss_one (ps_ret pe_bl))
  pss_nil)))))))))))))))))
  (pss_one (ps_ret pe_bl)))), ?_⟩
    refine ⟨(by show 2 ≤ sizeLine; decide), fun l xl => ⟨(by show 1 ≤ sizeLine; decide), fun t1 x1 => ⟨(by show 3 ≤ sizeLine; decide), fun t2 x2 => ⟨(by show 2 ≤ sizeLine; decide), fun t3 x3 => ⟨(by show 2 ≤ sizeLine; decide), fun t4 x4 => ⟨(by show 2 ≤ sizeLine; decide), fun t5 x5 => ⟨(by show 0 ≤ sizeLine; decide), fun e1 y1 => ⟨(by show 0 ≤ sizeLine; decide), fun e2 y2 => ⟨(by show 2 ≤ sizeLine; decide), fun t6 x6 => fun d xd => ⟨(by show 10 ≤ sizeLine; decide), fun L0 xL => ?_⟩⟩⟩⟩⟩⟩⟩⟩⟩⟩
    have c9 := same_new (o := .lst [.non, .int 5, .ref l, .ref t1, .ref t2, .ref t3, .ref t4, .ref t5, .ref t6, .ref d]) xL
    have c8 := (same_new (o := .dK []) xd).trans c9
    have c7 := (same_new (o := .tup [.ref e1, .ref e2]) x6).trans c8
    have c6 := (same_new (o := .tup []) y2).trans c7
    have c5 := (same_new (o := .tup []) y1).trans c6
    have c4 := (same_new (o := .tup [.str "a", .int 1]) x5).trans c5
    have c3 := (same_new (o := .tup [.bl true, .int 0]) x4).trans c4
    have c2 := (same_new (o := .tup [.int 1, .non]) x3).trans c3
    have c1 := (same_new (o := .tup [.int 1, .int 2, .int 3]) x2).trans c2
    have c0 := (same_new (o := .tup [.int 1]) x1).trans c1
    have sH := (same_new (o := .lst [.int 1, .int 2]) xl).trans c0
    have odds := odds_ok (K := K) (c0 l _ upd_same) (c1 t1 _ upd_same) (c2 t2 _ upd_same) (c3 t3 _ upd_same) (c4 t4 _ upd_same) (c5 t5 _ upd_same) (c8 t6 _ upd_same) (c6 e1 _ upd_same) (c7 e2 _ upd_same) (c9 d _ upd_same)
    have eL0 := new_at (o := .lst [.non, .int 5, .ref l, .ref t1, .ref t2, .ref t3, .ref t4, .ref t5, .ref t6, .ref d]) xL
    have T0 := LamX.Tabs.ext (T := TS) (fun x hx => LamX.TabS.nil (hTS x hx)) sH
    have hS0 := sH.seq hS
    clear c0 c1 c2 c3 c4 c5 c6 c7 c8 c9
    generalize upd _ L0 _ = H0 at *
    obtain ⟨od, eod⟩ : ∃ od : List V, od = [.non, .int 5, .ref l, .ref t1, .ref t2, .ref t3, .ref t4, .ref t5, .ref t6, .ref d] := ⟨_, rfl⟩
    have lod : od.length = 10 := by rw [eod]; rfl
    rw [← eod] at odds eL0
    refine ⟨_, rfl, sc, _, rfl, .inl hS0, _, _, rfl, _, _, rfl, _, rfl, ?_, ?_, ?_⟩
    · split <;> split <;> omega
    · split <;> split <;> omega
    refine for_range (lo := 0) (fun i σ H' => LamX.ExtN H0 H' ∧ LamX.Tabs TS H' ∧ i ≤ 8 ∧ ∃ x2 x3 x4 x5 x6 x7 x8 x9 x10 : Option V, σ = [some (.ref sc), some (.ref L0), x2, x3, x4, x5, x6, x7, x8, x9, x10]) ⟨LamX.ExtN.refl _, T0, by decide, _, _, _, _, _, _, _, _, _, rfl⟩ ?_ ?_
    · rintro i σ Hi hi ⟨n0, Ti, hi8, x2, x3, x4, x5, x6, x7, x8, x9, x10, rfl⟩
      have hi9 : i < 8 := by
        split at hi <;> split at hi <;> omega
      rw [Int.zero_add]
      have hSi := sql_ext n0 hS0
      refine ⟨_, rfl, _, rfl, sc, ns0, i, rfl, hSi, by omega, fun p H1 s1 hp0 P1 => ?_⟩
      have n1 : LamX.ExtN H0 H1 := n0.trans (LamX.ExtN.of s1)
      have T1 := LamX.Tabs.ext Ti s1
      have np : ∀ b o, H0 b = some o → (∀ ps, o ≠ .tbl ps) → b ≠ p := fun b o e m z => by rw [z] at e; have q := n0 _ _ e m; rw [hp0] at q; cases q
      refine ⟨_, rfl, _, rfl, p, 10, rfl, P1, by decide, by decide, fun r0 H2 a0 a1 P2 k2 => ?_⟩
      have n2 : LamX.ExtN H0 H2 := fun b o e m => k2 _ _ (n1 _ _ e m) (np _ _ e m)
      have T2 := tabs_pool P1 k2 T1
      obtain ⟨ov, hov, mov⟩ := od_at lod a0 a1
      refine ⟨L0, od, _, ov, rfl, rfl, SqL.of (n2 _ _ eL0 (fun _ z => by cases z)), hov, ?_⟩
      refine ⟨_, rfl, _, rfl, p, 10, rfl, P2, by decide, by decide, fun r1 H3 b0 b1 P3 k3 => ?_⟩
      have n3 : LamX.ExtN H0 H3 := fun b o e m => k3 _ _ (n2 _ _ e m) (np _ _ e m)
      have T3 := tabs_pool P2 k3 T2
      obtain ⟨lv, hlv, mlv⟩ := od_at lod b0 b1
      refine ⟨L0, od, _, lv, rfl, rfl, SqL.of (n3 _ _ eL0 (fun _ z => by cases z)), hlv, ?_⟩
      refine ⟨_, _, rfl, ?_⟩
      refine ⟨(by show 2 ≤ sizeLine; decide), fun g1 y1 => ⟨(by show 2 ≤ sizeLine; decide), fun g2 y2 => ⟨(by show 2 ≤ sizeLine; decide), fun gl y3 => ?_⟩⟩⟩
      have s4c := same_new (o := .lst [.ref g1, .ref g2]) y3
      have s4b := (same_new (o := .tup [.int 3, .int 4]) y2).trans s4c
      have s4 := (same_new (o := .tup [.int 1, .int 2]) y1).trans s4b
      have eg1 := s4b g1 _ (new_at (o := .tup [.int 1, .int 2]) y1)
      have eg2 := s4c g2 _ (new_at (o := .tup [.int 3, .int 4]) y2)
      have egl := new_at (o := .lst [.ref g1, .ref g2]) y3
      clear s4b s4c
      generalize upd _ gl _ = H4 at *
      have n4 : LamX.ExtN H0 H4 := n3.trans (LamX.ExtN.of s4)
      have T4 := LamX.Tabs.ext T3 s4
      have P4 : PoolB H4 p := by obtain ⟨u, v, e, r⟩ := P3; exact ⟨u, v, s4 _ _ e, r⟩
      have pN : ∀ {q : Addr}, H3 q = none → q ≠ p := fun h z => by obtain ⟨u, v, e, _⟩ := P3; rw [z, e] at h; cases h
      have pg1 : g1 ≠ p := pN y1
      have pg2 : g2 ≠ p := pN ((same_new (o := .tup [.int 1, .int 2]) y1).free y2)
      have pgl : gl ≠ p := pN (((same_new (o := .tup [.int 1, .int 2]) y1).trans (same_new (o := .tup [.int 3, .int 4]) y2)).free y3)
      have y0 : H3 gl = none := ((same_new (o := .tup [.int 1, .int 2]) y1).trans (same_new (o := .tup [.int 3, .int 4]) y2)).free y3
      refine ⟨_, rfl, p, 3, rfl, P4, by decide, by decide, fun r2 H5 d0 d1 P5 k5 => ?_⟩
      have n5 : LamX.ExtN H0 H5 := fun b o e m => k5 _ _ (n4 _ _ e m) (np _ _ e m)
      have T5 := tabs_pool P4 k5 T4
      have eg1 := k5 _ _ eg1 pg1
      have eg2 := k5 _ _ eg2 pg2
      have egl := k5 _ _ egl pgl
      refine ⟨_, rfl, gl, _, rfl, SqL.of egl, fun q1 z1 => ?_⟩
      obtain ⟨m2, rfl⟩ : ∃ m2 : Nat, r2 = (m2 : Int) := ⟨r2.toNat, by omega⟩
      rw [cut_take] at *
      refine ⟨_, rfl, (by show 1 ≤ sizeLine; decide), fun q2 z2 => ?_⟩
      have s6a := same_new (o := .lst (([.ref g1, .ref g2] : List V).take m2)) z1
      have s6b := same_new (o := .lst [ov]) z2
      have eq1 := s6b q1 _ (new_at (o := .lst (([.ref g1, .ref g2] : List V).take m2)) z1)
      have eq2 := new_at (o := .lst [ov]) z2
      have s6 := s6a.trans s6b
      clear s6a s6b
      have f2 : H5 q2 = none := (same_new (o := .lst (([.ref g1, .ref g2] : List V).take m2)) z1).free z2
      generalize upd _ q2 _ = H6 at *
      refine ⟨q1, q2, _, _, rfl, rfl, eq1, eq2, Nat.le_of_lt (small1000 (by simp; omega)), fun G1 x7 => ?_⟩
      have s7 := same_new (o := .lst (([.ref g1, .ref g2] : List V).take m2 ++ [ov])) x7
      have eG1 := new_at (o := .lst (([.ref g1, .ref g2] : List V).take m2 ++ [ov])) x7
      generalize upd _ G1 _ = H7 at *
      refine ⟨(by show 2 ≤ sizeLine; decide), fun j1 w1 => ⟨_, rfl, (by show 2 ≤ sizeLine; decide), fun jl w2 => ?_⟩⟩
      have s8b := same_new (o := .lst [.ref j1, lv]) w2
      have s8 := (same_new (o := .tup [.int 0, .int 1]) w1).trans s8b
      have ejl := new_at (o := .lst [.ref j1, lv]) w2
      have fj : H7 jl = none := (same_new (o := .tup [.int 0, .int 1]) w1).free w2
      clear s8b
      generalize upd _ jl _ = H8 at *
      have s58 := (s6.trans s7).trans s8
      have n8 : LamX.ExtN H0 H8 := n5.trans (LamX.ExtN.of s58)
      have T8 := LamX.Tabs.ext T5 s58
      have P8 : PoolB H8 p := by obtain ⟨u, v, e, r⟩ := P5; exact ⟨u, v, s58 _ _ e, r⟩
      have pN5 : ∀ {q : Addr}, H5 q = none → q ≠ p := fun h z => by obtain ⟨u, v, e, _⟩ := P5; rw [z, e] at h; cases h
      have pG1 : G1 ≠ p := pN5 (s6.free x7)
      have pjl : jl ≠ p := pN5 ((s6.trans s7).free fj)
      refine ⟨_, rfl, p, 3, rfl, P8, by decide, by decide, fun r3 H9 d2 d3 P9 k9 => ?_⟩
      have n9 : LamX.ExtN H0 H9 := fun b o e m => k9 _ _ (n8 _ _ e m) (np _ _ e m)
      have T9 := tabs_pool P8 k9 T8
      have eg1 := k9 _ _ (s58 _ _ eg1) pg1
      have eg2 := k9 _ _ (s58 _ _ eg2) pg2
      have eG1 := k9 _ _ (s8 _ _ eG1) pG1
      have ejl := k9 _ _ ejl pjl
      obtain ⟨m3, rfl⟩ : ∃ m3 : Nat, r3 = (m3 : Int) := ⟨r3.toNat, by omega⟩
      refine ⟨_, rfl, jl, _, rfl, SqL.of ejl, fun q3 w3 => ?_⟩
      rw [cut_take] at *
      have sa := same_new (o := .lst (([.ref j1, lv] : List V).take m3)) w3
      have eq3 := new_at (o := .lst (([.ref j1, lv] : List V).take m3)) w3
      generalize upd _ q3 _ = Ha at *
      refine ⟨G1, q3, _, _, rfl, rfl, sa _ _ eG1, eq3, Nat.le_of_lt (small1000 (by simp; omega)), fun R xR => ?_⟩
      have sb := same_new (o := .lst (([.ref g1, .ref g2] : List V).take m2 ++ [ov] ++ ([.ref j1, lv] : List V).take m3)) xR
      have eR := new_at (o := .lst (([.ref g1, .ref g2] : List V).take m2 ++ [ov] ++ ([.ref j1, lv] : List V).take m3)) xR
      generalize upd _ R _ = Hb at *
      have sab := sa.trans sb
      have nb : LamX.ExtN H0 Hb := n9.trans (LamX.ExtN.of sab)
      have Tb := LamX.Tabs.ext T9 sab
      obtain ⟨z, od1⟩ := odds ov mov
      have od2 : Odd K Hb ov z := od1.keep (KeepO.ofN nb)
      have bad : ∀ {Hc : Hp}, KeepO Hb Hc → BadRows K Hc R 2 ov := fun {Hc} kc => by
        refine ⟨⟨([.ref g1, .ref g2] : List V).take m2, ([.ref j1, lv] : List V).take m3, ([[1, 2], [3, 4]] : List Row).take m2, by rw [keep_l kc eR, List.append_assoc]; rfl, ?_, fun r hr => ?_, by simp; omega⟩, fun H' kp => od2.no H' (kc.trans (KeepO.ofI kp)), by decide⟩
        · have r1 : (∃ q, V.ref g1 = .ref q ∧ TupAt Hc q [1, 2]) := ⟨g1, rfl, keep_t kc (sab _ _ eg1)⟩
          have r2 : (∃ q, V.ref g2 = .ref q ∧ TupAt Hc q [3, 4]) := ⟨g2, rfl, keep_t kc (sab _ _ eg2)⟩
          match m2 with
          | 0 => exact .nil
          | 1 => exact .cons r1 .nil
          | m + 2 => exact .cons r1 (.cons r2 (by rw [List.take_nil, List.take_nil]; exact .nil))
        · have := List.mem_of_mem_take hr
          simp only [List.mem_cons, List.not_mem_nil, or_false] at this
          rcases this with rfl | rfl
          · exact ⟨rfl, by unfold Small; decide⟩
          · exact ⟨rfl, by unfold Small; decide⟩
      -- what the law says of the rows stays
      have eqr : PyData.eqv (.list [.str "row", .str z]) (.list [.str "row", .str z]) = true := SeqAt.eqv_refl _ (by simp [PyData.canLay0, PyData.canLayAll0, od2.ok]; decide +kernel)
      have shp : SeqAt.shaped (.list [.str "row", .str z]) = true := by
        unfold SeqAt.shaped
        simp [PyData.canLay0, PyData.canLayAll0, PyData.depth, PyData.depthAll, od2.ok]
        decide +kernel
      have dpr : ∀ {Hc : Hp} {L : Addr} {z : Str}, Hc L = some (.lst [.str "row", .str z]) → Dp K Hc (.ref L) (.list [.str "row", .str z]) := fun e => .lst (SqL.of e) (.cons (.str _) (.cons (.str _) .nil))
      have mkS : ∀ {Hc : Hp} {N dN : Addr}, Hc N = none → Hc dN = none → Same Hc (upd (upd Hc dN (.own N)) N (.ins C dN [])) := fun hN hd b o e => by rw [upd_ne (ne_of_none e hN), upd_ne (ne_of_none e hd)]; exact e
      -- reduced
      refine ⟨Tb, fun H1 e1 T1 => ⟨ov, z, fun H' kp => od2.sh H' ((KeepO.ofN e1).trans (KeepO.ofI kp)), fun E' Q' hE => ?_⟩⟩
      refine ⟨_, rfl, R, 2, ov, rfl, bad (KeepO.ofN e1), fun d H2 s2 hd => hE d _ (KeepI.of (s2.trans (same_new hd))) upd_same fun L H3 s3 eL => ?_⟩
      have s13 := (s2.trans (same_new hd)).trans s3
      have nc : LamX.ExtN Hb H3 := e1.trans (LamX.ExtN.of s13)
      have Tc := LamX.Tabs.ext T1 s13
      refine ⟨_, rfl, ov, z, rfl, od2.sh _ (KeepO.ofN nc), (by show 2 ≤ sizeLine; decide), fun L2 xL2 => ⟨_, _, dpr ((same_new xL2) _ _ eL), dpr upd_same, shp, shp, _, rfl, iteE (by rw [eqr]; rfl) ?_⟩⟩
      have nc := nc.trans (LamX.ExtN.of (same_new (o := .lst [.str "row", .str z]) xL2))
      have Tc := LamX.Tabs.ext Tc (same_new (o := .lst [.str "row", .str z]) xL2)
      generalize upd _ L2 _ = Hc at *
      clear s13 s3 eL hE e1 T1 s2 hd
      -- kernel
      refine ⟨Tc, fun H1 e1 T1 => ⟨ov, z, fun H' kp => od2.sh H' ((KeepO.ofN (nc.trans e1)).trans (KeepO.ofI kp)), fun E' Q' hE => ?_⟩⟩
      refine ⟨_, rfl, R, 2, ov, rfl, bad (KeepO.ofN (nc.trans e1)), fun d H2 s2 hd => hE d _ (KeepI.of (s2.trans (same_new hd))) upd_same fun L H3 s3 eL => ?_⟩
      have s13 := (s2.trans (same_new hd)).trans s3
      have nc : LamX.ExtN Hb H3 := (nc.trans e1).trans (LamX.ExtN.of s13)
      have Tc := LamX.Tabs.ext T1 s13
      refine ⟨_, rfl, ov, z, rfl, od2.sh _ (KeepO.ofN nc), (by show 2 ≤ sizeLine; decide), fun L2 xL2 => ⟨_, _, dpr ((same_new xL2) _ _ eL), dpr upd_same, shp, shp, _, rfl, iteE (by rw [eqr]; rfl) ?_⟩⟩
      have nc := nc.trans (LamX.ExtN.of (same_new (o := .lst [.str "row", .str z]) xL2))
      have Tc := LamX.Tabs.ext Tc (same_new (o := .lst [.str "row", .str z]) xL2)
      generalize upd _ L2 _ = Hd at *
      clear s13 s3 eL hE e1 T1 s2 hd
      -- Space
      refine ⟨Tc, fun H1 e1 T1 => ⟨ov, z, fun H' kp => od2.sh H' ((KeepO.ofN (nc.trans e1)).trans (KeepO.ofI kp)), fun E' Q' hE => ?_⟩⟩
      refine ⟨_, rfl, fun N dN hN hdN nd => ⟨N, R, dN, .int (2 : Nat), ov, rfl, upd_same, .inl ⟨2, by decide, rfl, bad ((KeepO.ofN (nc.trans e1)).trans (KeepO.of (mkS hN hdN)))⟩, fun d H2 s2 hd => hE d _ (KeepI.of (Same.trans (fun b o e => s2 b o (mkS hN hdN b o e) (ne_of_none e hN)) (same_new hd))) upd_same fun L H3 s3 eL => ?_⟩⟩
      have s13 := (Same.trans (fun b o e => s2 b o (mkS hN hdN b o e) (ne_of_none e hN)) (same_new hd)).trans s3
      have nc : LamX.ExtN Hb H3 := (nc.trans e1).trans (LamX.ExtN.of s13)
      have Tc := LamX.Tabs.ext T1 s13
      refine ⟨_, rfl, ov, z, rfl, od2.sh _ (KeepO.ofN nc), (by show 2 ≤ sizeLine; decide), fun L2 xL2 => ⟨_, _, dpr ((same_new xL2) _ _ eL), dpr upd_same, shp, shp, _, rfl, iteE (by rw [eqr]; rfl) ?_⟩⟩
      have nc := nc.trans (LamX.ExtN.of (same_new (o := .lst [.str "row", .str z]) xL2))
      have Tc := LamX.Tabs.ext Tc (same_new (o := .lst [.str "row", .str z]) xL2)
      generalize upd _ L2 _ = He at *
      clear s13 s3 eL hE e1 T1 s2 hd hN hdN nd
      have shz : ∀ {z : Str}, PyData.strOk z = true → SeqAt.shaped (.list [.str "row", .str z]) = true := fun h => by
        unfold SeqAt.shaped
        simp [PyData.canLay0, PyData.canLayAll0, PyData.depth, PyData.depthAll, h]
        decide +kernel
      have eqz : ∀ {z : Str}, PyData.strOk z = true → PyData.eqv (.list [.str "row", .str z]) (.list [.str "row", .str z]) = true := fun h => SeqAt.eqv_refl _ (by simp [PyData.canLay0, PyData.canLayAll0, h]; decide +kernel)
      -- the widths
      refine ⟨_, rfl, (by show 1 ≤ sizeLine; decide), fun t xt => ⟨(by show 6 ≤ sizeLine; decide), fun W xW => ⟨W, rfl, ⟨_, SqL.of (new_at xW)⟩, ?_⟩⟩⟩
      have sw2 := same_new (o := .lst [.int 0, .int (-1), .non, .str "2", .bl true, .ref t]) xW
      have wok := wides_ok (K := K) (sw2 _ _ (new_at (o := .tup [.int 2]) xt))
      have eW := new_at (o := .lst [.int 0, .int (-1), .non, .str "2", .bl true, .ref t]) xW
      have sw := (same_new (o := .tup [.int 2]) xt).trans sw2
      have nw : LamX.ExtN Hb _ := nc.trans (LamX.ExtN.of sw)
      have Tw := LamX.Tabs.ext Tc sw
      clear sw2
      generalize upd _ W _ = Hw at *
      refine for_list (K := K) (a := W) (xs := [.int 0, .int (-1), .non, .str "2", .bl true, .ref t]) (fun j σ H' => LamX.ExtN Hw H' ∧ LamX.Tabs TS H' ∧ ∃ x7, σ = [some (.ref sc), some (.ref L0), some (.int i), some (.ref p), some ov, some lv, some (.ref R), x7, x8, x9, x10]) ⟨LamX.ExtN.refl _, Tw, _, rfl⟩ (fun j σ H' _ h' => SqL.of (h'.1 _ _ eW (fun _ z => by cases z))) ?_ ?_
      · rintro j x σ Hj hx ⟨nj, Tj, x7', rfl⟩
        obtain ⟨zw, wk⟩ := wok x (List.mem_of_getElem? hx)
        refine ⟨Tj, fun H1 e1 T1 => ⟨x, zw, fun H' kp => wk.sh H' ((KeepO.ofN (nj.trans e1)).trans (KeepO.ofI kp)), fun E' Q' hE => ?_⟩⟩
        refine ⟨_, rfl, _, rfl, fun N dN hN hdN nd => ⟨N, R, dN, x, x, rfl, upd_same, .inr ⟨wk.no.imp id fun f H' k => f H' (((KeepO.ofN (nj.trans e1)).trans (KeepO.of (mkS hN hdN))).trans (KeepO.ofI k)), rfl⟩, fun d H2 s2 hd => hE d _ (KeepI.of (Same.trans (fun b o e => s2 b o (mkS hN hdN b o e) (ne_of_none e hN)) (same_new hd))) upd_same fun L H3 s3 eL => ?_⟩⟩
        have s13 := (Same.trans (fun b o e => s2 b o (mkS hN hdN b o e) (ne_of_none e hN)) (same_new hd)).trans s3
        have n3 : LamX.ExtN Hw H3 := (nj.trans e1).trans (LamX.ExtN.of s13)
        have T3 := LamX.Tabs.ext T1 s13
        refine ⟨_, rfl, x, zw, rfl, wk.sh _ (KeepO.ofN n3), (by show 2 ≤ sizeLine; decide), fun L2 xL2 => ⟨_, _, dpr ((same_new xL2) _ _ eL), dpr upd_same, shz wk.ok, shz wk.ok, _, rfl, iteE (by rw [eqz wk.ok]; rfl) ?_⟩⟩
        exact ⟨n3.trans (LamX.ExtN.of (same_new xL2)), LamX.Tabs.ext T3 (same_new xL2), _, rfl⟩
      · rintro σ Hf ⟨nf, Tf, x7', rfl⟩
        have nf : LamX.ExtN Hb Hf := nw.trans nf
        -- Space(2, [(1, 2)])
        refine ⟨(by show 2 ≤ sizeLine; decide), fun a xa => ⟨(by show 1 ≤ sizeLine; decide), fun B xB => fun N dN hN hdN nd => ?_⟩⟩
        have sB := same_new (o := .lst [.ref a]) xB
        have ea := sB _ _ (new_at (o := .tup [.int 1, .int 2]) xa)
        have eB := new_at (o := .lst [.ref a]) xB
        have sfB := (same_new (o := .tup [.int 1, .int 2]) xa).trans sB
        have Tg := LamX.Tabs.ext Tf sfB
        clear sB
        generalize upd _ B _ = Hg at *
        have ng : LamX.ExtN Hb Hg := nf.trans (LamX.ExtN.of sfB)
        refine ⟨N, B, dN, 2, [.ref a], [[1, 2]], 3, rfl, upd_same, by decide, mkS hN hdN _ _ eB, .cons ⟨a, rfl, mkS hN hdN _ _ ea⟩ .nil, fun r hr => ?_, by decide, by decide, by decide, by decide, by decide, fun L1 out1 Hh oth fr sa1 hRd => ⟨rfl, ?_⟩⟩
        · rw [List.mem_singleton.mp hr]
          exact ⟨rfl, by unfold Small; decide⟩
        have sgh : Same Hg Hh := fun b o e => oth b o (mkS hN hdN b o e) (ne_of_none e hN)
        have Th := LamX.Tabs.ext Tg sgh
        have nh := ng.trans (LamX.ExtN.of sgh)
        clear oth
        -- Space(3, [])
        refine ⟨(by show 0 ≤ sizeLine; decide), fun B2 xB2 => fun N2 dN2 hN2 hdN2 nd2 => ?_⟩
        have sB2 := same_new (o := .lst []) xB2
        have eB2 := new_at (o := .lst []) xB2
        have Ti2 := LamX.Tabs.ext Th sB2
        generalize upd _ B2 _ = Hi2 at *
        refine ⟨N2, B2, dN2, 3, [], [], 3, rfl, upd_same, by decide, mkS hN2 hdN2 _ _ eB2, .nil, (fun r hr => nomatch hr), by decide, by decide, by decide, by decide, by decide, fun L2 out2 Hj oth2 fr2 sa2 hRd2 => ⟨rfl, ?_⟩⟩
        have s2 : Same Hi2 Hj := fun b o e => oth2 b o (mkS hN2 hdN2 b o e) (ne_of_none e hN2)
        have s3 := sB2.trans s2
        have Tj := LamX.Tabs.ext Th s3
        have nj := nh.trans (LamX.ExtN.of s3)
        have sa1 := sa1.same s3
        have neF : ∀ {Hc : Hp} {Q : VK}, SpaceAt C Hc N2 L2 3 out2 → Q (.bl false) Hc → rNeO C (spEqSp K C) (.ref N2) (.ref N2) Hc Q := fun {Hc Q} sp q => by
          obtain ⟨dx, ys, e1, e2, e3⟩ := id sp
          exact ⟨N2, N2, dx, dx, _, _, rfl, rfl, e1, e1, N2, L2, _, 3, out2, rfl, sp, .inl ⟨N2, L2, 3, out2, rfl, sp, true, by rw [decide_eq_true ⟨rfl, rfl⟩], q⟩⟩
        have noS : ∀ {Hc : Hp}, SpaceAt C Hc N2 L2 3 out2 → NoSpace K C Hc 2 (.ref N2) := fun sp => .inr ⟨N2, L2, 3, out2, rfl, sp, by decide⟩
        -- _law_space | _law_far
        refine ⟨Tj, fun H1 e1 T1 => ⟨.ref N2, fun H' s' => ⟨_, rfl, neF ((space_ext e1 sa2).same s') ⟨_, rfl, iteE rfl ?_⟩⟩, fun E' Q' hE => ?_⟩⟩
        rotate_left
        · have p1 := space_ext e1 sa1
          have p2 := space_ext e1 sa2
          obtain ⟨dx, ys, f1, f2, f3⟩ := id p1
          obtain ⟨dy, zs, g1, g2, g3⟩ := id p2
          exact ⟨_, rfl, _, rfl, N, dx, _, rfl, f1, .inl ⟨N2, dy, _, rfl, g1⟩, N, L1, 2, out1, .ref N2, rfl, p1, noS p2, fun d H2 s2 hd => hE d _ (s2.trans (same_new hd)) upd_same⟩
        have sa1 := (space_ext e1 sa1).same s'
        have sa2 := (space_ext e1 sa2).same s'
        have Tj := LamX.Tabs.ext T1 s'
        have nj := (nj.trans e1).trans (LamX.ExtN.of s')
        clear s' e1 T1
        -- _law_space.is_within(_law_far)
        refine ⟨Tj, fun H1 e1 T1 => ⟨.ref N2, fun H' s' => ⟨_, rfl, neF ((space_ext e1 sa2).same s') ⟨_, rfl, iteE rfl ?_⟩⟩, fun E' Q' hE => ?_⟩⟩
        rotate_left
        · have p1 := space_ext e1 sa1
          obtain ⟨dx, ys, f1, f2, f3⟩ := id p1
          exact ⟨_, rfl, N, dx, _, rfl, f1, rfl, _, rfl, N, L1, 2, out1, .ref N2, rfl, p1, noS (space_ext e1 sa2), fun d H2 s2 hd => hE d _ (s2.trans (same_new hd)) upd_same⟩
        have sa1 := (space_ext e1 sa1).same s'
        have sa2 := (space_ext e1 sa2).same s'
        have Tj := LamX.Tabs.ext T1 s'
        have nj := (nj.trans e1).trans (LamX.ExtN.of s')
        clear s' e1 T1
        -- the others
        refine ⟨(by show 2 ≤ sizeLine; decide), fun t1 v1 => ⟨(by show 2 ≤ sizeLine; decide), fun t2 v2 => ⟨(by show 1 ≤ sizeLine; decide), fun t3 v3 => ⟨(by show 4 ≤ sizeLine; decide), fun W2 v4 => ⟨W2, rfl, ⟨_, SqL.of (new_at v4)⟩, ?_⟩⟩⟩⟩⟩
        have k4 := same_new (o := .lst [.non, .int 5, .ref t1, .ref t3]) v4
        have k3 := (same_new (o := .lst [.ref t2]) v3).trans k4
        have k2 := (same_new (o := .tup [.int 1, .int 2]) v2).trans k3
        have k1 := (same_new (o := .tup [.int 1, .int 2]) v1).trans k2
        have oth := others_ok (K := K) (k2 _ _ (new_at (o := .tup [.int 1, .int 2]) v1)) (k3 _ _ (new_at (o := .tup [.int 1, .int 2]) v2)) (k4 _ _ (new_at (o := .lst [.ref t2]) v3))
        have eW2 := new_at (o := .lst [.non, .int 5, .ref t1, .ref t3]) v4
        have Tk := LamX.Tabs.ext Tj k1
        have sa1 := sa1.same k1
        have nk := nj.trans (LamX.ExtN.of k1)
        clear k1 k2 k3 k4 eW
        generalize upd _ W2 _ = Hk at *
        refine for_list (K := K) (a := W2) (xs := [.non, .int 5, .ref t1, .ref t3]) (fun j σ H' => LamX.ExtN Hk H' ∧ LamX.Tabs TS H' ∧ ∃ x10, σ = [some (.ref sc), some (.ref L0), some (.int i), some (.ref p), some ov, some lv, some (.ref R), x7', some (.ref N), some (.ref N2), x10]) ⟨LamX.ExtN.refl _, Tk, _, rfl⟩ (fun j σ H' _ h' => SqL.of (h'.1 _ _ eW2 (fun _ z => by cases z))) ?_ ?_
        · rintro j x σ Hm hx ⟨nm, Tm, x10', rfl⟩
          obtain ⟨zo, ok⟩ := oth x (List.mem_of_getElem? hx)
          have noX : ∀ {Hc : Hp}, KeepO Hk Hc → NoSpace K C Hc 2 x := fun kc => let ⟨t, ty, h⟩ := ok.ty _ kc; .inl ⟨_, ty, SO.nos t h⟩
          have orT : ∀ {Hc : Hp}, KeepO Hk Hc → ∃ T, TyX K Hc x (.type T) ∧ OrT K C T := fun kc => by
            obtain ⟨t, ty, h⟩ := ok.ty _ kc
            refine ⟨t, ty, ?_⟩
            rcases h with rfl | rfl | rfl | rfl
            · exact SO.OC.n
            · exact SO.OC.i
            · exact SO.OC.t
            · exact SO.OC.l
          refine ⟨Tm, fun H1 e1 T1 => ⟨x, zo, fun H' kp => ok.sh H' ((KeepO.ofN (nm.trans e1)).trans (KeepO.ofI kp)), fun E' Q' hE => ?_⟩⟩
          have p1 := space_ext (nm.trans e1) sa1
          obtain ⟨dx, ys, f1, f2, f3⟩ := id p1
          refine ⟨_, rfl, _, rfl, N, dx, _, rfl, f1, .inr (orT (KeepO.ofN (nm.trans e1))), N, L1, 2, out1, x, rfl, p1, noX (KeepO.ofN (nm.trans e1)), fun d H2 s2 hd => hE d _ (KeepI.of (s2.trans (same_new hd))) upd_same fun L H3 s3 eL => ?_⟩
          have s13 := (s2.trans (same_new hd)).trans s3
          have n3 : LamX.ExtN Hk H3 := (nm.trans e1).trans (LamX.ExtN.of s13)
          have T3 := LamX.Tabs.ext T1 s13
          refine ⟨_, rfl, x, zo, rfl, ok.sh _ (KeepO.ofN n3), (by show 2 ≤ sizeLine; decide), fun L2' xL2 => ⟨_, _, dpr ((same_new xL2) _ _ eL), dpr upd_same, shz ok.ok, shz ok.ok, _, rfl, iteE (by rw [eqz ok.ok]; rfl) ?_⟩⟩
          have n4 := n3.trans (LamX.ExtN.of (same_new (o := .lst [.str "row", .str zo]) xL2))
          have T4 := LamX.Tabs.ext T3 (same_new (o := .lst [.str "row", .str zo]) xL2)
          generalize upd _ L2' _ = H4 at *
          clear s13 s3 eL hE e1 T1 s2 hd p1 f1 f2 f3 n3 T3
          refine ⟨T4, fun H1 e1 T1 => ⟨x, zo, fun H' kp => ok.sh H' ((KeepO.ofN (n4.trans e1)).trans (KeepO.ofI kp)), fun E' Q' hE => ?_⟩⟩
          have p1 := space_ext (n4.trans e1) sa1
          obtain ⟨dx, ys, f1, f2, f3⟩ := id p1
          refine ⟨_, rfl, N, dx, _, rfl, f1, rfl, _, rfl, N, L1, 2, out1, x, rfl, p1, noX (KeepO.ofN (n4.trans e1)), fun d H2 s2 hd => hE d _ (KeepI.of (s2.trans (same_new hd))) upd_same fun L H3 s3 eL => ?_⟩
          have s13 := (s2.trans (same_new hd)).trans s3
          have n3 : LamX.ExtN Hk H3 := (n4.trans e1).trans (LamX.ExtN.of s13)
          have T3 := LamX.Tabs.ext T1 s13
          refine ⟨_, rfl, x, zo, rfl, ok.sh _ (KeepO.ofN n3), (by show 2 ≤ sizeLine; decide), fun L2' xL2 => ⟨_, _, dpr ((same_new xL2) _ _ eL), dpr upd_same, shz ok.ok, shz ok.ok, _, rfl, iteE (by rw [eqz ok.ok]; rfl) ?_⟩⟩
          exact ⟨n3.trans (LamX.ExtN.of (same_new xL2)), LamX.Tabs.ext T3 (same_new xL2), _, rfl⟩
        · rintro σ He ⟨ne, Te, x10', rfl⟩
          exact ⟨(nb.trans nk).trans ne, Te, by omega, _, _, _, _, _, _, _, _, _, rfl⟩
    · rintro σ H1 ⟨_, _, _, x2, x3, x4, x5, x6, x7, x8, x9, x10, rfl⟩
      exact k _
end

/-! ### the head by kernel runs: the top is run once for each look at what it leaves; no state is written out -/
section
open PySem.W
theorem split3 {S A B : Type} {o : Option S} {f : S → Bool} {g : S → A} {h : S → B} {a : A} {b : B} (h1 : o.map f = some true) (h2 : o.map g = some a) (h3 : o.map h = some b) : o.map (fun s => (f s, g s, h s)) = some (true, a, b) := by
  cases o with
  | none => cases h1
  | some s =>
    have e1 : f s = true := Option.some.inj h1
    have e2 : g s = a := Option.some.inj h2
    have e3 : h s = b := Option.some.inj h3
    show some (f s, g s, h s) = _
    rw [e1, e2, e3]
theorem split2 {S A B : Type} {o : Option S} {g : S → A} {h : S → B} {a : A} {b : B} (h2 : o.map g = some a) (h3 : o.map h = some b) : o.map (fun s => (g s, h s)) = some (a, b) := by
  cases o with
  | none => cases h2
  | some s =>
    have e2 : g s = a := Option.some.inj h2
    have e3 : h s = b := Option.some.inj h3
    show some (g s, h s) = _
    rw [e2, e3]
/-- the addresses that the module's names reach: functions, classes, their codes and methods -/
def refA : Value → List Addr
  | .ref a => [a]
  | _ => []
def refsA : Option Obj → List Addr
  | some ⟨_, _, .dict es _, _⟩ => es.toList.flatMap fun e => refA e.val
  | some ⟨_, _, .func fd, _⟩ => refA fd.code ++ refA fd.defaults
  | some ⟨_, _, .cls cd, _⟩ => [cd.ns]
  | _ => []
def nextA (g : Addr → Option Obj) (as : List Addr) : List Addr := as.flatMap fun a => refsA (g a)
def forceA {α : Type} : List Addr → (List Addr → α) → α
  | [], k => k []
  | a :: r, k => HandSHeadRun.frNat a fun a => forceA r fun r => k (a :: r)
theorem forceA_eq {α : Type} : ∀ (l : List Addr) (k : List Addr → α), forceA l k = k l
  | [], k => rfl
  | a :: r, k => by
    show HandSHeadRun.frNat a (fun a => forceA r fun r => k (a :: r)) = _
    rw [HandSHeadRun.frNat_eq, forceA_eq r]
def withA {α : Type} (g : Addr → Option Obj) (k : Frag → α) : α :=
  forceA (nextA g [mainGlobals]) fun f1 => forceA (nextA g f1) fun f2 => forceA (nextA g f2) fun f3 => forceA (nextA g f3) fun f4 => k (He.frG g (mainGlobals :: (f1 ++ (f2 ++ (f3 ++ f4)))))
theorem withA_eq {α : Type} (g : Addr → Option Obj) (k : Frag → α) : ∃ as, withA g k = k (He.frG g as) := by
  unfold withA
  simp only [forceA_eq]
  exact ⟨_, rfl⟩
abbrev AlA : Type := Bool × He.Al × List He.FnW
def obsA (fx : List (Frag → Bool)) (fa : List He.Fa) (fn : List He.FnD) (fw : List He.DefD) (K : Frag) : AlA := ((fx.all fun f => f K) && fw.all fun d => d.ok K, He.obsE fa fn K, fw.map fun d => He.fnW K d.at_)
def valA (fn : List He.FnD) (fw : List He.DefD) : AlA := (true, He.valE fn, fw.map He.DefD.val)
def SaysA (fx : List (Frag → Bool)) (fa : List He.Fa) (fn : List He.FnD) (fw : List He.DefD) (K : Frag) : Prop := obsA fx fa fn fw K = valA fn fw
def obsAG (fx : List (Frag → Bool)) (fa : List He.Fa) (fn : List He.FnD) (fw : List He.DefD) (g : Addr → Option Obj) : AlA := withA g (obsA fx fa fn fw)
def hookA (fx : List (Frag → Bool)) (fa : List He.Fa) (fn : List He.FnD) (fw : List He.DefD) : Hook where
  α := AlA
  obs := fun s => obsAG fx fa fn fw s.heap.get?
  val := fun _ => valA fn fw
  says := fun _ h => ∃ K : Frag, K.In h ∧ SaysA fx fa fn fw K
  of := fun _ s e => by
    obtain ⟨as, q⟩ := withA_eq s.heap.get? (obsA fx fa fn fw)
    exact ⟨_, He.frG_in, q.symm.trans e⟩
  keeps := fun _ _ _ ⟨K, hK, c⟩ k => ⟨K, Frag.In.keeps hK k, c⟩
theorem obsAG_eq {fx : List (Frag → Bool)} {fa : List He.Fa} {fn : List He.FnD} {fw : List He.DefD} {g : Addr → Option Obj} {s : Shared} (h : ∀ a, g a = s.heap.get? a) : obsAG fx fa fn fw g = (hookA fx fa fn fw).obs s := by
  have e : g = s.heap.get? := funext h
  rw [e] <;> rfl
/-- a def as a datum -/
def khDef (at_ : Str × Option Str) (name qual : Str) (st : Stmt) : He.FnD := ⟨at_, name, qual, defArgs st, defBody st, defScope st⟩
section
variable {fx : List (Frag → Bool)} {fa : List He.Fa} {fn : List He.FnD} {fw : List He.DefD} {K : Frag}
theorem SaysA.x (c : SaysA fx fa fn fw K) (i : Nat) {f : Frag → Bool} (h : fx[i]? = some f) : f K = true :=
  List.all_eq_true.mp (He.ba (show ((fx.all fun f => f K) && fw.all fun d => d.ok K) = true from congrArg (fun z : AlA => z.1) c)).1 f (List.mem_of_getElem? h)
theorem SaysA.says (c : SaysA fx fa fn fw K) : He.SaysE fa fn K := congrArg (fun z : AlA => z.2.1) c
theorem SaysA.dfl_ (c : SaysA fx fa fn fw K) (i : Nat) {d : He.DefD} (h : fw[i]? = some d) : ∃ fd, FunD K d.name d.qual d.params d.body d.scope (d.dvs K) (d.kws K) (He.fAd K d.at_) fd := by
  have c2 := (He.ba (show ((fx.all fun f => f K) && fw.all fun d => d.ok K) = true from congrArg (fun z : AlA => z.1) c)).2
  have e : fw.map (fun d => He.fnW K d.at_) = fw.map He.DefD.val := congrArg (fun z : AlA => z.2.2) c
  have e2 : (fw.map fun d => He.fnW K d.at_)[i]? = (fw.map He.DefD.val)[i]? := by rw [e]
  rw [List.getElem?_map, List.getElem?_map, h] at e2
  exact He.DefD.funD (Option.some.inj e2) (List.all_eq_true.mp c2 d (List.mem_of_getElem? h))
theorem SaysA.fact (c : SaysA fx fa fn fw K) (i : Nat) {f : He.Fa} (h : fa[i]? = some f) : f.ok K = true := c.says.fact i h
theorem SaysA.def_ (c : SaysA fx fa fn fw K) (i : Nat) {a : Str × Option Str} {x q : Str} {st : Stmt} (h : fn[i]? = some (khDef a x q st)) : ∃ fd, Fun K x q st (He.fAd K a) fd := by
  obtain ⟨oc, od, osl, kV, doc, pm, an, cdv, ct, l, cd⟩ := c.says.def_ i h
  exact ⟨_, fun_mk (st := st) l cd (by
    show (match K.lookup (He.fAd K a) with
      | some ⟨_, _, .func _, _⟩ => true
      | some ⟨_, _, .cls _, _⟩ => PySem.W.specialIn K (.ref (He.fAd K a)) "__call__" == some (some (.builtin "type.__call__"))
      | _ => false) = true
    rw [show K.lookup (He.fAd K a) = _ from l])⟩
end
end

/-! ### the head with tables of code objects: defs that hold a lambda -/
section
open PySem.W
def vRef : Value → Option Addr
  | .ref a => some a
  | _ => none
def dFun : Data → Option FuncData
  | .func fd => some fd
  | _ => none
def dFld : Data → Option (Array Value)
  | .fields vs => some vs
  | _ => none
def isNon : Value → Bool
  | .none => true
  | _ => false
def isTy : Value → String → Bool
  | .type t, s => t == s
  | _, _ => false
def isStr : Value → Bool
  | .str _ _ => true
  | _ => false
def isInt : Value → Bool
  | .int _ _ => true
  | _ => false
def isBl : Value → Bool
  | .bool _ => true
  | _ => false
theorem vRef_ok {v : Value} {a : Addr} (h : vRef v = some a) : v = .ref a := by
  cases v with
  | ref b => exact congrArg Value.ref (Option.some.inj h)
  | _ => cases h
theorem dFun_ok {d : Data} {f : FuncData} (h : dFun d = some f) : d = .func f := by
  cases d with
  | func b => exact congrArg Data.func (Option.some.inj h)
  | _ => cases h
theorem dFld_ok {d : Data} {f : Array Value} (h : dFld d = some f) : d = .fields f := by
  cases d with
  | fields b => exact congrArg Data.fields (Option.some.inj h)
  | _ => cases h
theorem isNon_ok {v : Value} (h : isNon v = true) : v = .none := by
  cases v with
  | none => rfl
  | _ => cases h
theorem isTy_ok {v : Value} {s : String} (h : isTy v s = true) : v = .type s := by
  cases v with
  | type t => exact congrArg Value.type (beq_iff_eq.mp h)
  | _ => cases h
theorem isStr_ok {v : Value} (h : isStr v = true) : ∃ a b, v = .str a b := by
  cases v with
  | str a b => exact ⟨a, b, rfl⟩
  | _ => cases h
theorem isInt_ok {v : Value} (h : isInt v = true) : ∃ a b, v = .int a b := by
  cases v with
  | int a b => exact ⟨a, b, rfl⟩
  | _ => cases h
theorem isBl_ok {v : Value} (h : isBl v = true) : ∃ a, v = .bool a := by
  cases v with
  | bool a => exact ⟨a, rfl⟩
  | _ => cases h
/-- the code object of the def x, and its table -/
def codeOf (K : Frag) (a : Addr) : Option Addr := (K.lookup a).bind fun o => (dFun o.data).bind fun fd => vRef fd.code
def tabOf (K : Frag) (c : Addr) : Option Addr := (K.lookup c).bind fun o => (dFld o.data).bind fun vs => (vs[11]? : Option Value).bind vRef
def tabAt (K : Frag) (x : Str) : Option (Addr × Addr) := (codeOf K (He.fAd K (x, none))).bind fun c => (tabOf K c).bind fun P => some (c, P)
def codeB (o : Obj) : Bool := isTy o.cls "code" && (match dFld o.data with
  | some vs => isStr (vs.getD 18 .none) && isInt (vs.getD 7 .none) && isBl (vs.getD 9 .none) && isInt (vs.getD 10 .none)
  | none => false)
def emptyB (o : Obj) : Bool := isNon o.cls && o.dict.isNone && (match dFld o.data with | some vs => vs.size == 0 | none => false) && o.slots.size == 0
def tabB (g : Addr → Option Obj) (K : Frag) (x : Str) : Bool := match tabAt K x with
  | some (c, P) => (K.lookup P).isNone && (match g P with | some o => emptyB o | none => false) && (match K.lookup c with | some o => codeB o | none => false) && !(c == P)
  | none => false
structure TabOk (K : Frag) (h : Heap) (c P : Addr) : Prop where
  em : h.get? P = some { cls := .none, data := .fields #[] }
  no : K.lookup P = none
  cd : CodeHd h c P
theorem emptyB_ok {o : Obj} (h : emptyB o = true) : o = { cls := .none, data := .fields #[] } := by
  obtain ⟨cls, dict, data, slots⟩ := o
  have h : (isNon cls && dict.isNone && (match dFld data with | some vs => vs.size == 0 | none => false) && slots.size == 0) = true := h
  simp only [Bool.and_eq_true, beq_iff_eq] at h
  obtain ⟨⟨⟨h1, h2⟩, h3⟩, h4⟩ := h
  have e1 := isNon_ok h1
  have e2 : dict = none := by simpa using h2
  have e4 := Array.eq_empty_of_size_eq_zero h4
  cases q : dFld data with
  | none => rw [q] at h3; cases h3
  | some vs =>
    rw [q] at h3
    have e3 := Array.eq_empty_of_size_eq_zero (show vs.size = 0 from beq_iff_eq.mp h3)
    have e5 := dFld_ok q
    rw [e1, e2, e4, e5, e3]
theorem tabB_ok {K : Frag} {h : Heap} {x : Str} (kh : K.In h) (e : tabB h.get? K x = true) : ∃ c P, tabAt K x = some (c, P) ∧ TabOk K h c P := by
  unfold tabB at e
  cases q : tabAt K x with
  | none => rw [q] at e; cases e
  | some cp =>
    obtain ⟨c, P⟩ := cp
    rw [q] at e
    have e : ((K.lookup P).isNone && (match h.get? P with | some o => emptyB o | none => false) && (match K.lookup c with | some o => codeB o | none => false) && !(c == P)) = true := e
    simp only [Bool.and_eq_true] at e
    obtain ⟨⟨⟨e1, e2⟩, e3⟩, e4⟩ := e
    have em : h.get? P = some { cls := .none, data := .fields #[] } := by
      cases qP : h.get? P with
      | none => rw [qP] at e2; cases e2
      | some o => rw [qP] at e2; exact congrArg some (emptyB_ok e2)
    refine ⟨c, P, rfl, em, by simpa using e1, ?_⟩
    cases qc : K.lookup c with
    | none => rw [qc] at e3; cases e3
    | some o =>
      rw [qc] at e3
      have e3 : codeB o = true := e3
      unfold codeB at e3
      rw [Bool.and_eq_true] at e3
      obtain ⟨f1, f2⟩ := e3
      -- the table's place
      have hq : ((codeOf K (He.fAd K (x, none))).bind fun c => (tabOf K c).bind fun P => some (c, P)) = some (c, P) := q
      obtain ⟨c1, _, hq⟩ := Option.bind_eq_some_iff.mp hq
      obtain ⟨P1, hP, hq⟩ := Option.bind_eq_some_iff.mp hq
      injection hq with hq
      injection hq with hc1 hP1
      subst hc1 hP1
      unfold tabOf at hP
      rw [qc] at hP
      have hP : ((dFld o.data).bind fun vs => (vs[11]? : Option Value).bind vRef) = some P1 := hP
      obtain ⟨vs, hd, hP⟩ := Option.bind_eq_some_iff.mp hP
      obtain ⟨v, hv, hP⟩ := Option.bind_eq_some_iff.mp hP
      rw [vRef_ok hP] at hv
      rw [hd] at f2
      have f2 : (isStr (vs.getD 18 .none) && isInt (vs.getD 7 .none) && isBl (vs.getD 9 .none) && isInt (vs.getD 10 .none)) = true := f2
      simp only [Bool.and_eq_true] at f2
      obtain ⟨⟨⟨g1, g2⟩, g3⟩, g4⟩ := f2
      obtain ⟨file, tf, g1⟩ := isStr_ok g1
      obtain ⟨flags, tg, g2⟩ := isInt_ok g2
      obtain ⟨inF, g3⟩ := isBl_ok g3
      obtain ⟨text, tt, g4⟩ := isInt_ok g4
      have g11 : vs.getD 11 .none = .ref P1 := by
        rw [Array.getD_eq_getD_getElem?, hv]
        rfl
      exact ⟨o, vs, file, tf, flags, tg, inF, text, tt, kh _ _ qc, isTy_ok f1, dFld_ok hd, hv, g11, g1, g2, g3, g4, by simpa using e4⟩
theorem TabOk.keeps {K : Frag} {h h' : Heap} {c P : Addr} (t : TabOk K h c P) (k : ∀ b o, h.get? b = some o → h'.get? b = some o) : TabOk K h' c P := ⟨k _ _ t.em, t.no, t.cd.keeps k⟩
theorem tab_code {K : Frag} {x q : Str} {st : Stmt} {fd : FuncData} {c P : Addr} (F : Fun K x q st (He.fAd K (x, none)) fd) (e : tabAt K x = some (c, P)) : fd.code = .ref c := by
  obtain ⟨oc, od, kV, doc, pm, an, cdv, ct, osl, rfl, lk, hcd⟩ := F.ex
  have e : ((codeOf K (He.fAd K (x, none))).bind fun c => (tabOf K c).bind fun P => some (c, P)) = some (c, P) := e
  obtain ⟨c1, hc, e⟩ := Option.bind_eq_some_iff.mp e
  obtain ⟨P1, hP, e⟩ := Option.bind_eq_some_iff.mp e
  injection e with e
  injection e with e1 e2
  subst e1
  unfold codeOf at hc
  rw [lk] at hc
  exact vRef_ok hc
abbrev AlT : Type := AlA × Bool
def SaysT (fx : List (Frag → Bool)) (fa : List He.Fa) (fn : List He.FnD) (fw : List He.DefD) (tb : List Str) (K : Frag) (h : Heap) : Prop := SaysA fx fa fn fw K ∧ ∀ x ∈ tb, ∃ c P, tabAt K x = some (c, P) ∧ TabOk K h c P
def obsT (fx : List (Frag → Bool)) (fa : List He.Fa) (fn : List He.FnD) (fw : List He.DefD) (tb : List Str) (g : Addr → Option Obj) : AlT := withA g fun K => (obsA fx fa fn fw K, tb.all fun x => tabB g K x)
def hookT (fx : List (Frag → Bool)) (fa : List He.Fa) (fn : List He.FnD) (fw : List He.DefD) (tb : List Str) : Hook where
  α := AlT
  obs := fun s => obsT fx fa fn fw tb s.heap.get?
  val := fun _ => (valA fn fw, true)
  says := fun _ h => ∃ K : Frag, K.In h ∧ SaysT fx fa fn fw tb K h
  of := fun _ s e => by
    obtain ⟨as, q⟩ := withA_eq s.heap.get? fun K => (obsA fx fa fn fw K, tb.all fun x => tabB s.heap.get? K x)
    have e2 := q.symm.trans e
    exact ⟨_, He.frG_in, congrArg Prod.fst e2, fun x hx => tabB_ok He.frG_in (List.all_eq_true.mp (congrArg Prod.snd e2) x hx)⟩
  keeps := fun _ _ _ ⟨K, hK, c, t⟩ k => ⟨K, Frag.In.keeps hK k, c, fun x hx => let ⟨c, P, e, t⟩ := t x hx; ⟨c, P, e, t.keeps k⟩⟩
theorem obsT_eq {fx : List (Frag → Bool)} {fa : List He.Fa} {fn : List He.FnD} {fw : List He.DefD} {tb : List Str} {g : Addr → Option Obj} {s : Shared} (h : ∀ a, g a = s.heap.get? a) : obsT fx fa fn fw tb g = (hookT fx fa fn fw tb).obs s := by
  have e : g = s.heap.get? := funext h
  rw [e] <;> rfl
end

/-- an own error's class, looked at -/
def xcB (K : PySem.W.Frag) (x : Str) (bm : List Value) (newId : String) (f : Str) : Bool := (match K.lookup (He.ga K x) with
    | some ⟨cl, _, .cls cd, sl⟩ => decide (cl = .type "type") && (decide (cd.mro = .ref (He.ga K x) :: bm) && (cd.hasDict && (!cd.hasDel && (match sl.toList with
      | [_, _, _, _, some n, _] => decide (n = .builtin newId)
      | _ => false))))
    | _ => false) && (He.eqO (PySem.W.findIn K (.ref (He.ga K x)) "__setattr__") (some (some (.builtin "object.__setattr__"))) && (PySem.W.keepIn K (.ref (He.ga K x)) && (He.eqO (PySem.W.findIn K (.ref (He.ga K x)) f) (some none) &&
    (He.eqO (PySem.W.findIn K (.ref (He.ga K x)) "__getattribute__") (some (some (.builtin "BaseException.__getattribute__"))) && (He.eqO (PySem.W.findIn K (.ref (He.ga K x)) "__getattr__") (some none) && He.eqO (PySem.W.findIn K (.ref (He.ga K x)) "__class__") (some (some (.builtin "object.__class__"))))))))

/-! ### what the written part says of the classes -/
structure XcK (K : PySem.W.Frag) (C : Addr) (bm : List Value) (newId : String) (f : Str) : Prop where
  lk : ∃ nm q N bs sn sub ab col dd k0 k1 k2 k3 k5, K.lookup C = some (excClassObj nm q C N bs bm true sn sub ab col dd k0 k1 k2 k3 k5 newId)
  sa : PySem.W.findIn K (.ref C) "__setattr__" = some (some (.builtin "object.__setattr__"))
  kc : PySem.W.keepIn K (.ref C) = true
  no : PySem.W.findIn K (.ref C) f = some none
  ga : PySem.W.findIn K (.ref C) "__getattribute__" = some (some (.builtin "BaseException.__getattribute__"))
  gg : PySem.W.findIn K (.ref C) "__getattr__" = some none
  ca : PySem.W.findIn K (.ref C) "__class__" = some (some (.builtin "object.__class__"))
section
variable {K : PySem.W.Frag} {C : Addr} {bm bmB : List Value} {newId : String} {f : Str}
theorem lk_cls {nm q N bs sn sub ab col dd k0 k1 k2 k3 k5} (h : K.lookup C = some (excClassObj nm q C N bs bm true sn sub ab col dd k0 k1 k2 k3 k5 newId)) : ∃ cd, PySem.W.clsIn K C = some cd ∧ cd.mro = .ref C :: bm ∧ cd.hasDict = true :=
  ⟨_, by unfold PySem.W.clsIn; rw [h], rfl, rfl⟩
theorem XcK.cls (T : XcK K C bm newId f) : ∃ cd, PySem.W.clsIn K C = some cd ∧ cd.mro = .ref C :: bm ∧ cd.hasDict = true := by
  obtain ⟨_, _, _, _, _, _, _, _, _, _, _, _, _, _, h⟩ := T.lk
  exact lk_cls h
theorem sub_cls (h : ∃ cd, PySem.W.clsIn K C = some cd ∧ cd.mro = .ref C :: bm ∧ cd.hasDict = true) (x : Value) : PySem.W.subIn K (.ref C) x = some ((Value.ref C :: bm).contains x) := by
  obtain ⟨cd, e, m, _⟩ := h
  show PySem.W.mroIn K C x = _
  unfold PySem.W.mroIn
  rw [e, Option.bind_some, m]
  rfl
theorem XcK.ty (T : XcK K C bm newId f) : PySem.W.typeIn K (.ref C) = some (.type "type") := by
  obtain ⟨_, _, _, _, _, _, _, _, _, _, _, _, _, _, h⟩ := T.lk
  show (K.lookup C).map (·.cls) = _
  rw [h]; rfl
theorem XcK.hd (T : XcK K C bm newId f) : PySem.W.hasDictIn K C = true := by
  obtain ⟨cd, e, _, d⟩ := T.cls
  unfold PySem.W.hasDictIn
  rw [e]; exact d
theorem tail_has (ht : PySem.W.excTail bmB bm = true) (X : String) (h : bmB.contains (.type X) = true) : (Value.ref C :: bm).contains (.type X) = true := by
  rw [List.contains_cons, PySem.W.excTail_contains _ _ ht, h, Bool.or_true]
theorem XcK.oex (T : XcK K C bm newId f) (B : XC.Bas bmB newId) (ht : PySem.W.excTail bmB bm = true) (hb : bmB.contains (.type "BaseException") = true) : OexG K C := by
  refine ⟨⟨bmB, newId, B, ?_, ?_⟩, T.hd, T.sa, (sub_cls T.cls _).trans (by rw [tail_has ht _ hb]), T.ty, T.kc⟩
  · obtain ⟨_, _, _, _, _, _, _, _, _, _, _, _, _, _, h⟩ := T.lk
    unfold PySem.W.excInitIn
    rw [h]
    simp [ht]
  · obtain ⟨cd, e, m, _⟩ := T.cls
    unfold PySem.W.excOver
    rw [e]
    show (match cd.mro with | .ref C' :: bm => C' == C && PySem.W.excTail bmB bm | _ => false) = true
    rw [m]
    simp [ht]
theorem XcK.xf (T : XcK K C bm newId f) (ht : PySem.W.excTail bmB bm = true) (hb : bmB.contains (.type "BaseException") = true) : XfC K C := ⟨T.ga, T.gg, (sub_cls T.cls _).trans (by rw [tail_has ht _ hb]), T.hd⟩
theorem XcK.ex (T : XcK K C bm newId f) (ht : PySem.W.excTail bmB bm = true) (hb : bmB.contains (.type "BaseException") = true) (ho : bmB.contains (.type "object") = true)
    (sp : PySem.W.specialIn K (.builtin "object.__class__") "__get__" = some (some (.builtin "getset_descriptor.__get__"))) (tk : PySem.W.takesIn K (.builtin "object.__class__") = some true) : ExcC K C :=
  ⟨T.ga, T.gg, (sub_cls T.cls _).trans (by rw [tail_has ht _ hb]), T.hd, T.ca, sp, tk, (sub_cls T.cls (.type "object")).trans (by rw [tail_has ht _ ho])⟩
end
theorem oexV {K : PySem.W.Frag} {C CP : Addr} {f : Str} (h : XcK K C (.ref CP :: XC.tlV) "ValueError.__new__" f) : OexG K C := h.oex XC.basV (by show PySem.W.excTail XC.tlV XC.tlV = true; decide +kernel) (by decide +kernel)
theorem oexK {K : PySem.W.Frag} {C : Addr} {f : Str} (h : XcK K C XC.tlK "LookupError.__new__" f) : OexG K C := h.oex XC.basK (by decide +kernel) (by decide +kernel)
theorem oexR {K : PySem.W.Frag} {C : Addr} {f : Str} (h : XcK K C XC.tlR "RuntimeError.__new__" f) : OexG K C := h.oex XC.basR (by decide +kernel) (by decide +kernel)

theorem xcB_ok {K : PySem.W.Frag} {x : Str} {bm : List Value} {newId : String} {f : Str} (h : xcB K x bm newId f = true) : XcK K (He.ga K x) bm newId f := by
  obtain ⟨h1, h⟩ := He.ba h
  obtain ⟨h2, h⟩ := He.ba h
  obtain ⟨h3, h⟩ := He.ba h
  obtain ⟨h4, h⟩ := He.ba h
  obtain ⟨h5, h⟩ := He.ba h
  obtain ⟨h6, h7⟩ := He.ba h
  refine ⟨?_, He.eqO_ok h2, h3, He.eqO_ok h4, He.eqO_ok h5, He.eqO_ok h6, He.eqO_ok h7⟩
  cases e : K.lookup (He.ga K x) with
  | none =>
    rw [e] at h1
    cases h1
  | some o =>
    rw [e] at h1
    obtain ⟨cl, dd, dt, sl⟩ := o
    cases dt with
    | cls cd =>
      obtain ⟨nm, bs, mro, N, q, hd, sn, sub, ab, col, del⟩ := cd
      obtain ⟨a1, b1⟩ := He.ba (show (decide (cl = .type "type") && (decide (mro = .ref (He.ga K x) :: bm) && (hd && (!del && (match sl.toList with
        | [_, _, _, _, some n, _] => decide (n = .builtin newId)
        | _ => false))))) = true from h1)
      obtain ⟨a2, b2⟩ := He.ba b1
      obtain ⟨a3, b3⟩ := He.ba b2
      obtain ⟨a4, b4⟩ := He.ba b3
      split at b4
      · rename_i k0 k1 k2 k3 n k5 hs
        obtain ⟨sl⟩ := sl
        have hs2 : sl = [k0, k1, k2, k3, some n, k5] := hs
        cases hs2
        cases of_decide_eq_true b4
        cases of_decide_eq_true a1
        cases of_decide_eq_true a2
        cases a3
        cases del with
        | true => cases a4
        | false => exact ⟨_, _, _, _, _, _, _, _, _, _, _, _, _, _, rfl⟩
      · cases b4
    | _ => cases h1

/-! ### the end -/
abbrev khR : PySem.W.OpenRow := PySem.W.OpenLaw.row PySem.Challenge.rw_allornothing_k43_errors_of_rows
abbrev khQ : Program := PySem.W.view khR.prog [23]
def khN0 : List PySem.Str := ["__name__", "ProgramError", "InvalidTree", "InvalidRow", "is_integer", "is_row", "common_factor", "primitive", "lead", "without", "reduced_by", "added", "reduced", "kernel", "iter_rows", "Space", "_law_pool", "_law_take", "_law_heard", "_law_value"]
def khN : List PySem.Str := khN0
def khX0 : List (PySem.W.Frag → Bool) := [fun K => xcB K "InvalidTree" (.ref (He.ga K "ProgramError") :: XC.tlV) "ValueError.__new__" "value",
    fun K => xcB K "InvalidRow" (.ref (He.ga K "ProgramError") :: XC.tlV) "ValueError.__new__" "value",
    fun K => decide (PySem.W.exmOne K (.ref (He.ga K "InvalidRow")) (.ref (He.ga K "InvalidRow")) = some true),
    fun K => decide (PySem.W.exmOne K (.ref (He.ga K "InvalidRow")) (.ref (He.ga K "ProgramError")) = some true),
    fun K => decide (PySem.W.kitOne K (.ref (He.ga K "InvalidRow")) (.ref (He.ga K "InvalidTree")) = some false),
    fun K => He.eqO (PySem.W.findIn K (.ref (He.ga K "Space")) "__class__") (some (some (.builtin "object.__class__"))),
    fun K => He.eqO (PySem.W.specialIn K (.builtin "object.__class__") "__get__") (some (some (.builtin "getset_descriptor.__get__"))),
    fun K => decide (PySem.W.takesIn K (.builtin "object.__class__") = some true),
    fun K => decide (PySem.W.mroIn K (He.ga K "Space") (.type "object") = some true),
    fun K => He.eqO (PySem.W.findIn K (.ref (He.ga K "Space")) "__ne__") (some (some (.builtin "object.__ne__"))),
    fun K => PySem.W.selfFirst K (He.ga K "Space"),
    fun K => He.eqO (PySem.W.findIn K (.ref (He.ga K "Space")) "__ror__") (some none),
    fun K => (PySem.W.findIn K (.type "NoneType") "__or__").isSome,
    fun K => (PySem.W.findIn K (.type "int") "__or__").isSome,
    fun K => (PySem.W.findIn K (.type "tuple") "__or__").isSome,
    fun K => (PySem.W.findIn K (.type "list") "__or__").isSome,
    fun K => (PySem.W.findIn K (.type "NoneType") "__ror__").isSome,
    fun K => (PySem.W.findIn K (.type "int") "__ror__").isSome,
    fun K => (PySem.W.findIn K (.type "tuple") "__ror__").isSome,
    fun K => (PySem.W.findIn K (.type "list") "__ror__").isSome,
    fun K => decide (PySem.W.subIn K (.type "NoneType") (.ref (He.ga K "Space")) = some false),
    fun K => decide (PySem.W.subIn K (.type "int") (.ref (He.ga K "Space")) = some false),
    fun K => decide (PySem.W.subIn K (.type "tuple") (.ref (He.ga K "Space")) = some false),
    fun K => decide (PySem.W.subIn K (.type "list") (.ref (He.ga K "Space")) = some false),
    fun K => decide (PySem.W.kitOne K (.type "NoneType") (.ref (He.ga K "Space")) = some false)]
def khX1 : List (PySem.W.Frag → Bool) := [fun K => decide (PySem.W.kitOne K (.type "int") (.ref (He.ga K "Space")) = some false),
    fun K => decide (PySem.W.kitOne K (.type "tuple") (.ref (He.ga K "Space")) = some false),
    fun K => decide (PySem.W.kitOne K (.type "list") (.ref (He.ga K "Space")) = some false)]
def khX : List (PySem.W.Frag → Bool) := khX0 ++ khX1
def khF0 : List He.Fa := [.glo "is_integer",
    .glo "is_row",
    .glo "common_factor",
    .glo "primitive",
    .glo "lead",
    .glo "without",
    .glo "reduced_by",
    .glo "added",
    .glo "reduced",
    .glo "_law_pool",
    .glo "_law_take",
    .glo "kernel",
    .glo "iter_rows",
    .glo "_law_heard",
    .glo "_law_value",
    .glo "law",
    .glo "Space",
    .cls "Space",
    .mkr "Space",
    .noat "Space" "length",
    .noat "Space" "basis",
    .meth "Space" "__init__",
    .meth "Space" "__eq__",
    .meth "Space" "check",
    .meth "Space" "__or__"]
def khF1 : List He.Fa := [.meth "Space" "is_within",
    .glo "ProgramError",
    .glo "InvalidTree",
    .meth "InvalidTree" "__init__",
    .glo "InvalidRow",
    .meth "InvalidRow" "__init__",
    .free "int",
    .free "bool",
    .free "isinstance",
    .free "len",
    .free "tuple",
    .free "list",
    .free "all",
    .free "abs",
    .free "sorted",
    .free "zip",
    .free "enumerate",
    .free "range",
    .free "max",
    .free "min",
    .free "repr",
    .free "sum"]
def khF : List He.Fa := khF0 ++ khF1
def khD0 : List He.FnD := [khDef ("is_integer", none) "is_integer" "is_integer" sIsInt,
    khDef ("is_row", none) "is_row" "is_row" sIsRow,
    khDef ("common_factor", none) "common_factor" "common_factor" sCF,
    khDef ("primitive", none) "primitive" "primitive" sPrim,
    khDef ("lead", none) "lead" "lead" sLead,
    khDef ("without", none) "without" "without" sWo,
    khDef ("reduced_by", none) "reduced_by" "reduced_by" sRB,
    khDef ("added", none) "added" "added" sAdded,
    khDef ("reduced", none) "reduced" "reduced" sRed,
    khDef ("_law_pool", none) "_law_pool" "_law_pool" sPool,
    khDef ("_law_take", none) "_law_take" "_law_take" sTake,
    khDef ("kernel", none) "kernel" "kernel" sKer,
    khDef ("iter_rows", none) "iter_rows" "iter_rows" sIterR,
    khDef ("_law_heard", none) "_law_heard" "_law_heard" sLHe,
    khDef ("_law_value", none) "_law_value" "_law_value" sLVa,
    khDef ("law", none) "law" "law" sLaw,
    khDef ("Space", some "__init__") "__init__" "Space.__init__" sSpIni,
    khDef ("Space", some "__eq__") "__eq__" "Space.__eq__" sSpEq,
    khDef ("Space", some "check") "check" "Space.check" sSpChk,
    khDef ("Space", some "__or__") "__or__" "Space.__or__" sSpOr,
    khDef ("Space", some "is_within") "is_within" "Space.is_within" sSpWith,
    khDef ("InvalidTree", some "__init__") "__init__" "InvalidTree.__init__" sXI0,
    khDef ("InvalidRow", some "__init__") "__init__" "InvalidRow.__init__" sXI1]
def khD : List He.FnD := khD0
def khW : List He.DefD := []
def khT : List PySem.Str := ["law"]
abbrev khH : PySem.W.Hook := hookT khX khF khD khW khT
def khO (s : PySem.W.SharedT) : AlT := obsT khX khF khD khW khT (HandSHeadRun.getT s)
theorem khO_eq (s : PySem.W.SharedT) : khO s = khH.obs s.abs := obsT_eq (HandSHeadRun.getT_eq s)
section
open PySem.W PySem.Calls PyProof.Rows HandSHeadRun
theorem khRun1 (w : World) (os : OsState) : (endF (stepQ (denQ tabQ) khR.prog w) 60000 khR.prog w os).map (fun s => looksF khR.prog (boot_heap w.params) s.abs) = some true := by kernel_rfl
theorem khRun2 (w : World) (os : OsState) : (endF (stepQ (denQ tabQ) khR.prog w) 60000 khR.prog w os).map (fun s => seenQ khQ khN (importedModules khR.prog.main.body) (fun s => xlAt khQ [] s && recOk khR.toRowW.records s) s.abs) = some (openGood khQ khN) := by kernel_rfl
theorem khRun3 (w : World) (os : OsState) : (endF (stepQ (denQ tabQ) khR.prog w) 60000 khR.prog w os).map khO = some (valA khD khW, true) := by kernel_rfl
theorem khRun (w : World) : RunEq khR khQ khH khO 60000 khN w := fun os => split3 (khRun1 w os) (khRun2 w os) (khRun3 w os)
end
theorem khFacts {l : PySem.W.OpenLaw} {w : World} {K : PySem.W.Frag} {h : Heap} {mg : Str → Option Value} {fa : Addr} (X : K.In h) (G : h.Ns mainGlobals mg) (hfa : mg "law" = some (.ref fa)) (c : SaysA khX khF khD khW K) (tt : ∀ x ∈ khT, ∃ c P, tabAt K x = some (c, P) ∧ TabOk K h c P) :
    LX.LawAtA l w K CX0 63 "_law_script" mg fa h := by
  have gIsInt := He.glo_ok X G (x := "is_integer") (c.fact 0 (by kernel_rfl))
  obtain ⟨fdIsInt, FIsInt⟩ := c.def_ 0 (a := ("is_integer", none)) (x := "is_integer") (q := "is_integer") (st := sIsInt) (by kernel_rfl)
  have bIsInt := FIsInt.binds (ps := PIsInt) fun _ _ _ _ _ _ us hl => match us, hl with | [_], _ => rfl
  have kIsInt := FIsInt.kp
  have gIsRow := He.glo_ok X G (x := "is_row") (c.fact 1 (by kernel_rfl))
  obtain ⟨fdIsRow, FIsRow⟩ := c.def_ 1 (a := ("is_row", none)) (x := "is_row") (q := "is_row") (st := sIsRow) (by kernel_rfl)
  have bIsRow := FIsRow.binds (ps := PIsRow) fun _ _ _ _ _ _ us hl => match us, hl with | [_, _], _ => rfl
  have kIsRow := FIsRow.kp
  have gCF := He.glo_ok X G (x := "common_factor") (c.fact 2 (by kernel_rfl))
  obtain ⟨fdCF, FCF⟩ := c.def_ 2 (a := ("common_factor", none)) (x := "common_factor") (q := "common_factor") (st := sCF) (by kernel_rfl)
  have bCF := FCF.binds (ps := PCF) fun _ _ _ _ _ _ us hl => match us, hl with | [_, _], _ => rfl
  have kCF := FCF.kp
  have gPrim := He.glo_ok X G (x := "primitive") (c.fact 3 (by kernel_rfl))
  obtain ⟨fdPrim, FPrim⟩ := c.def_ 3 (a := ("primitive", none)) (x := "primitive") (q := "primitive") (st := sPrim) (by kernel_rfl)
  have bPrim := FPrim.binds (ps := PPrim) fun _ _ _ _ _ _ us hl => match us, hl with | [_], _ => rfl
  have kPrim := FPrim.kp
  have gLead := He.glo_ok X G (x := "lead") (c.fact 4 (by kernel_rfl))
  obtain ⟨fdLead, FLead⟩ := c.def_ 4 (a := ("lead", none)) (x := "lead") (q := "lead") (st := sLead) (by kernel_rfl)
  have bLead := FLead.binds (ps := PLead) fun _ _ _ _ _ _ us hl => match us, hl with | [_], _ => rfl
  have kLead := FLead.kp
  have gWo := He.glo_ok X G (x := "without") (c.fact 5 (by kernel_rfl))
  obtain ⟨fdWo, FWo⟩ := c.def_ 5 (a := ("without", none)) (x := "without") (q := "without") (st := sWo) (by kernel_rfl)
  have bWo := FWo.binds (ps := PWo) fun _ _ _ _ _ _ us hl => match us, hl with | [_, _], _ => rfl
  have kWo := FWo.kp
  have gRB := He.glo_ok X G (x := "reduced_by") (c.fact 6 (by kernel_rfl))
  obtain ⟨fdRB, FRB⟩ := c.def_ 6 (a := ("reduced_by", none)) (x := "reduced_by") (q := "reduced_by") (st := sRB) (by kernel_rfl)
  have bRB := FRB.binds (ps := PRB) fun _ _ _ _ _ _ us hl => match us, hl with | [_, _], _ => rfl
  have kRB := FRB.kp
  have gAdded := He.glo_ok X G (x := "added") (c.fact 7 (by kernel_rfl))
  obtain ⟨fdAdded, FAdded⟩ := c.def_ 7 (a := ("added", none)) (x := "added") (q := "added") (st := sAdded) (by kernel_rfl)
  have bAdded := FAdded.binds (ps := PAdded) fun _ _ _ _ _ _ us hl => match us, hl with | [_, _], _ => rfl
  have kAdded := FAdded.kp
  have gRed := He.glo_ok X G (x := "reduced") (c.fact 8 (by kernel_rfl))
  obtain ⟨fdRed, FRed⟩ := c.def_ 8 (a := ("reduced", none)) (x := "reduced") (q := "reduced") (st := sRed) (by kernel_rfl)
  have bRed := FRed.binds (ps := PRed) fun _ _ _ _ _ _ us hl => match us, hl with | [_, _], _ => rfl
  have kRed := FRed.kp
  have gPool := He.glo_ok X G (x := "_law_pool") (c.fact 9 (by kernel_rfl))
  obtain ⟨fdPool, FPool⟩ := c.def_ 9 (a := ("_law_pool", none)) (x := "_law_pool") (q := "_law_pool") (st := sPool) (by kernel_rfl)
  have bPool := FPool.binds (ps := PPool) fun _ _ _ _ _ _ us hl => match us, hl with | [_, _], _ => rfl
  have kPool := FPool.kp
  have gTake := He.glo_ok X G (x := "_law_take") (c.fact 10 (by kernel_rfl))
  obtain ⟨fdTake, FTake⟩ := c.def_ 10 (a := ("_law_take", none)) (x := "_law_take") (q := "_law_take") (st := sTake) (by kernel_rfl)
  have bTake := FTake.binds (ps := PTake) fun _ _ _ _ _ _ us hl => match us, hl with | [_, _], _ => rfl
  have kTake := FTake.kp
  have gKer := He.glo_ok X G (x := "kernel") (c.fact 11 (by kernel_rfl))
  obtain ⟨fdKer, FKer⟩ := c.def_ 11 (a := ("kernel", none)) (x := "kernel") (q := "kernel") (st := sKer) (by kernel_rfl)
  have bKer := FKer.binds (ps := PKer) fun _ _ _ _ _ _ us hl => match us, hl with | [_, _], _ => rfl
  have kKer := FKer.kp
  have gIterR := He.glo_ok X G (x := "iter_rows") (c.fact 12 (by kernel_rfl))
  obtain ⟨fdIterR, FIterR⟩ := c.def_ 12 (a := ("iter_rows", none)) (x := "iter_rows") (q := "iter_rows") (st := sIterR) (by kernel_rfl)
  have bIterR := FIterR.binds (ps := PIterR) fun _ _ _ _ _ _ us hl => match us, hl with | [_, _], _ => rfl
  have kIterR := FIterR.kp
  have gLHe := He.glo_ok X G (x := "_law_heard") (c.fact 13 (by kernel_rfl))
  obtain ⟨fdLHe, FLHe⟩ := c.def_ 13 (a := ("_law_heard", none)) (x := "_law_heard") (q := "_law_heard") (st := sLHe) (by kernel_rfl)
  have bLHe := FLHe.binds (ps := PLHe) fun _ _ _ _ _ _ us hl => match us, hl with | [_], _ => rfl
  have kLHe := FLHe.kp
  have gLVa := He.glo_ok X G (x := "_law_value") (c.fact 14 (by kernel_rfl))
  obtain ⟨fdLVa, FLVa⟩ := c.def_ 14 (a := ("_law_value", none)) (x := "_law_value") (q := "_law_value") (st := sLVa) (by kernel_rfl)
  have bLVa := FLVa.binds (ps := PLVa) fun _ _ _ _ _ _ us hl => match us, hl with | [_], _ => rfl
  have kLVa := FLVa.kp
  have gLaw := He.glo_ok X G (x := "law") (c.fact 15 (by kernel_rfl))
  obtain ⟨fdLaw, FLaw⟩ := c.def_ 15 (a := ("law", none)) (x := "law") (q := "law") (st := sLaw) (by kernel_rfl)
  have bLaw := FLaw.binds (ps := PLaw) fun _ _ _ _ _ _ us hl => match us, hl with | [_], _ => rfl
  have kLaw := FLaw.kp
  have gSpace := He.glo_ok X G (x := "Space") (c.fact 16 (by kernel_rfl))
  have clSpace := He.cls_ok (x := "Space") (c.fact 17 (by kernel_rfl))
  have mkSpace := He.mkr_ok (x := "Space") (c.fact 18 (by kernel_rfl))
  have noSpace_length := He.noat_ok (x := "Space") (f := "length") (c.fact 19 (by kernel_rfl))
  have noSpace_basis := He.noat_ok (x := "Space") (f := "basis") (c.fact 20 (by kernel_rfl))
  have meSpIni := He.meth_ok (x := "Space") (m := "__init__") (c.fact 21 (by kernel_rfl))
  obtain ⟨fdSpIni, FSpIni⟩ := c.def_ 16 (a := ("Space", some "__init__")) (x := "__init__") (q := "Space.__init__") (st := sSpIni) (by kernel_rfl)
  have bSpIni := FSpIni.binds (ps := PSpIni) fun _ _ _ _ _ _ us hl => match us, hl with | [_, _, _], _ => rfl
  have kSpIni := FSpIni.kp
  have meSpEq := He.meth_ok (x := "Space") (m := "__eq__") (c.fact 22 (by kernel_rfl))
  obtain ⟨fdSpEq, FSpEq⟩ := c.def_ 17 (a := ("Space", some "__eq__")) (x := "__eq__") (q := "Space.__eq__") (st := sSpEq) (by kernel_rfl)
  have bSpEq := FSpEq.binds (ps := PSpEq) fun _ _ _ _ _ _ us hl => match us, hl with | [_, _], _ => rfl
  have kSpEq := FSpEq.kp
  have meSpChk := He.meth_ok (x := "Space") (m := "check") (c.fact 23 (by kernel_rfl))
  obtain ⟨fdSpChk, FSpChk⟩ := c.def_ 18 (a := ("Space", some "check")) (x := "check") (q := "Space.check") (st := sSpChk) (by kernel_rfl)
  have bSpChk := FSpChk.binds (ps := PSpChk) fun _ _ _ _ _ _ us hl => match us, hl with | [_, _], _ => rfl
  have kSpChk := FSpChk.kp
  have meSpOr := He.meth_ok (x := "Space") (m := "__or__") (c.fact 24 (by kernel_rfl))
  obtain ⟨fdSpOr, FSpOr⟩ := c.def_ 19 (a := ("Space", some "__or__")) (x := "__or__") (q := "Space.__or__") (st := sSpOr) (by kernel_rfl)
  have bSpOr := FSpOr.binds (ps := PSpOr) fun _ _ _ _ _ _ us hl => match us, hl with | [_, _], _ => rfl
  have kSpOr := FSpOr.kp
  have meSpWith := He.meth_ok (x := "Space") (m := "is_within") (c.fact 25 (by kernel_rfl))
  obtain ⟨fdSpWith, FSpWith⟩ := c.def_ 20 (a := ("Space", some "is_within")) (x := "is_within") (q := "Space.is_within") (st := sSpWith) (by kernel_rfl)
  have bSpWith := FSpWith.binds (ps := PSpWith) fun _ _ _ _ _ _ us hl => match us, hl with | [_, _], _ => rfl
  have kSpWith := FSpWith.kp
  have gProgramError := He.glo_ok X G (x := "ProgramError") (c.fact 26 (by kernel_rfl))
  have x_0 : XcK K (He.ga K "InvalidTree") (.ref (He.ga K "ProgramError") :: XC.tlV) "ValueError.__new__" "value" := xcB_ok (c.x 0 (f := fun K => xcB K "InvalidTree" (.ref (He.ga K "ProgramError") :: XC.tlV) "ValueError.__new__" "value") (by kernel_rfl))
  have gInvalidTree := He.glo_ok X G (x := "InvalidTree") (c.fact 27 (by kernel_rfl))
  have meXI0 := He.meth_ok (x := "InvalidTree") (m := "__init__") (c.fact 28 (by kernel_rfl))
  obtain ⟨fdXI0, FXI0⟩ := c.def_ 21 (a := ("InvalidTree", some "__init__")) (x := "__init__") (q := "InvalidTree.__init__") (st := sXI0) (by kernel_rfl)
  have bXI0 := FXI0.binds (ps := PXI0) fun _ _ _ _ _ _ us hl => match us, hl with | [_, _], _ => rfl
  have kXI0 := FXI0.kp
  have x_1 : XcK K (He.ga K "InvalidRow") (.ref (He.ga K "ProgramError") :: XC.tlV) "ValueError.__new__" "value" := xcB_ok (c.x 1 (f := fun K => xcB K "InvalidRow" (.ref (He.ga K "ProgramError") :: XC.tlV) "ValueError.__new__" "value") (by kernel_rfl))
  have gInvalidRow := He.glo_ok X G (x := "InvalidRow") (c.fact 29 (by kernel_rfl))
  have meXI1 := He.meth_ok (x := "InvalidRow") (m := "__init__") (c.fact 30 (by kernel_rfl))
  obtain ⟨fdXI1, FXI1⟩ := c.def_ 22 (a := ("InvalidRow", some "__init__")) (x := "__init__") (q := "InvalidRow.__init__") (st := sXI1) (by kernel_rfl)
  have bXI1 := FXI1.binds (ps := PXI1) fun _ _ _ _ _ _ us hl => match us, hl with | [_, _], _ => rfl
  have kXI1 := FXI1.kp
  have m_int := He.free_ok X G (x := "int") (c.fact 31 (by kernel_rfl))
  have m_bool := He.free_ok X G (x := "bool") (c.fact 32 (by kernel_rfl))
  have m_isinstance := He.free_ok X G (x := "isinstance") (c.fact 33 (by kernel_rfl))
  have m_len := He.free_ok X G (x := "len") (c.fact 34 (by kernel_rfl))
  have m_tuple := He.free_ok X G (x := "tuple") (c.fact 35 (by kernel_rfl))
  have m_list := He.free_ok X G (x := "list") (c.fact 36 (by kernel_rfl))
  have m_all := He.free_ok X G (x := "all") (c.fact 37 (by kernel_rfl))
  have m_abs := He.free_ok X G (x := "abs") (c.fact 38 (by kernel_rfl))
  have m_sorted := He.free_ok X G (x := "sorted") (c.fact 39 (by kernel_rfl))
  have m_zip := He.free_ok X G (x := "zip") (c.fact 40 (by kernel_rfl))
  have m_enumerate := He.free_ok X G (x := "enumerate") (c.fact 41 (by kernel_rfl))
  have m_range := He.free_ok X G (x := "range") (c.fact 42 (by kernel_rfl))
  have m_max := He.free_ok X G (x := "max") (c.fact 43 (by kernel_rfl))
  have m_min := He.free_ok X G (x := "min") (c.fact 44 (by kernel_rfl))
  have m_repr := He.free_ok X G (x := "repr") (c.fact 45 (by kernel_rfl))
  have m_sum := He.free_ok X G (x := "sum") (c.fact 46 (by kernel_rfl))
  have c_ii := c.x 2 (f := fun K => decide (PySem.W.exmOne K (.ref (He.ga K "InvalidRow")) (.ref (He.ga K "InvalidRow")) = some true)) (by kernel_rfl)
  have c_ie := c.x 3 (f := fun K => decide (PySem.W.exmOne K (.ref (He.ga K "InvalidRow")) (.ref (He.ga K "ProgramError")) = some true)) (by kernel_rfl)
  have c_kt := c.x 4 (f := fun K => decide (PySem.W.kitOne K (.ref (He.ga K "InvalidRow")) (.ref (He.ga K "InvalidTree")) = some false)) (by kernel_rfl)
  have c_ca := c.x 5 (f := fun K => He.eqO (PySem.W.findIn K (.ref (He.ga K "Space")) "__class__") (some (some (.builtin "object.__class__")))) (by kernel_rfl)
  have c_cg := c.x 6 (f := fun K => He.eqO (PySem.W.specialIn K (.builtin "object.__class__") "__get__") (some (some (.builtin "getset_descriptor.__get__")))) (by kernel_rfl)
  have c_ct := c.x 7 (f := fun K => decide (PySem.W.takesIn K (.builtin "object.__class__") = some true)) (by kernel_rfl)
  have c_mo := c.x 8 (f := fun K => decide (PySem.W.mroIn K (He.ga K "Space") (.type "object") = some true)) (by kernel_rfl)
  have c_ne := c.x 9 (f := fun K => He.eqO (PySem.W.findIn K (.ref (He.ga K "Space")) "__ne__") (some (some (.builtin "object.__ne__")))) (by kernel_rfl)
  have c_sf := c.x 10 (f := fun K => PySem.W.selfFirst K (He.ga K "Space")) (by kernel_rfl)
  have c_rr := c.x 11 (f := fun K => He.eqO (PySem.W.findIn K (.ref (He.ga K "Space")) "__ror__") (some none)) (by kernel_rfl)
  have c_o0 := c.x 12 (f := fun K => (PySem.W.findIn K (.type "NoneType") "__or__").isSome) (by kernel_rfl)
  have c_o1 := c.x 13 (f := fun K => (PySem.W.findIn K (.type "int") "__or__").isSome) (by kernel_rfl)
  have c_o2 := c.x 14 (f := fun K => (PySem.W.findIn K (.type "tuple") "__or__").isSome) (by kernel_rfl)
  have c_o3 := c.x 15 (f := fun K => (PySem.W.findIn K (.type "list") "__or__").isSome) (by kernel_rfl)
  have c_r0 := c.x 16 (f := fun K => (PySem.W.findIn K (.type "NoneType") "__ror__").isSome) (by kernel_rfl)
  have c_r1 := c.x 17 (f := fun K => (PySem.W.findIn K (.type "int") "__ror__").isSome) (by kernel_rfl)
  have c_r2 := c.x 18 (f := fun K => (PySem.W.findIn K (.type "tuple") "__ror__").isSome) (by kernel_rfl)
  have c_r3 := c.x 19 (f := fun K => (PySem.W.findIn K (.type "list") "__ror__").isSome) (by kernel_rfl)
  have c_s0 := c.x 20 (f := fun K => decide (PySem.W.subIn K (.type "NoneType") (.ref (He.ga K "Space")) = some false)) (by kernel_rfl)
  have c_s1 := c.x 21 (f := fun K => decide (PySem.W.subIn K (.type "int") (.ref (He.ga K "Space")) = some false)) (by kernel_rfl)
  have c_s2 := c.x 22 (f := fun K => decide (PySem.W.subIn K (.type "tuple") (.ref (He.ga K "Space")) = some false)) (by kernel_rfl)
  have c_s3 := c.x 23 (f := fun K => decide (PySem.W.subIn K (.type "list") (.ref (He.ga K "Space")) = some false)) (by kernel_rfl)
  have c_k0 := c.x 24 (f := fun K => decide (PySem.W.kitOne K (.type "NoneType") (.ref (He.ga K "Space")) = some false)) (by kernel_rfl)
  have c_k1 := c.x 25 (f := fun K => decide (PySem.W.kitOne K (.type "int") (.ref (He.ga K "Space")) = some false)) (by kernel_rfl)
  have c_k2 := c.x 26 (f := fun K => decide (PySem.W.kitOne K (.type "tuple") (.ref (He.ga K "Space")) = some false)) (by kernel_rfl)
  have c_k3 := c.x 27 (f := fun K => decide (PySem.W.kitOne K (.type "list") (.ref (He.ga K "Space")) = some false)) (by kernel_rfl)
  obtain ⟨tc_Law, tp_Law, te_Law, tk_Law⟩ := tt "law" (by decide +kernel)
  have tcode_Law := tab_code FLaw te_Law
  have hE := hfa.symm.trans gLaw
  cases hE
  have TI : TxInt mg := ⟨m_int, m_bool, m_isinstance⟩
  have TR : TxRow mg := { toTxInt := TI, n_len := m_len, n_tuple := m_tuple, n_list := m_list, n_all := m_all, n_abs := m_abs, n_sorted := m_sorted, n_zip := m_zip, n_enumerate := m_enumerate }
  have TK : TxKer mg := { toTxRow := TR, n_range := m_range, n_sum := m_sum }
  have TS : TxS K (He.ga K "Space") := { cl := clSpace, ca := He.eqO_ok c_ca, cg := He.eqO_ok c_cg, ct := of_decide_eq_true c_ct, mo := of_decide_eq_true c_mo, mc := kit_self _ _, nL := noSpace_length, nB := noSpace_basis, ne := He.eqO_ok c_ne, sf := c_sf }
  have isS : ∀ {o : Option (Option Value)}, o.isSome = true → ∃ x, o = some x := fun h => Option.isSome_iff_exists.mp h
  have OC : OrC K (He.ga K "Space") := ⟨He.eqO_ok c_rr, ⟨isS c_o0, isS c_r0, of_decide_eq_true c_s0⟩, ⟨isS c_o1, isS c_r1, of_decide_eq_true c_s1⟩, ⟨isS c_o2, isS c_r2, of_decide_eq_true c_s2⟩, ⟨isS c_o3, isS c_r3, of_decide_eq_true c_s3⟩⟩
  have TL : TxL43 mg := ⟨m_len, m_max, m_min, m_range, m_repr⟩
  have eV : PySem.W.excTail XC.tlV (.ref (He.ga K "ProgramError") :: XC.tlV) = true := by
    show PySem.W.excTail XC.tlV XC.tlV = true
    decide +kernel
  have M : Err43 K mg (He.ga K "InvalidRow") (He.ga K "InvalidTree") (He.ga K "ProgramError") := ⟨of_decide_eq_true c_ii, of_decide_eq_true c_ie, kit_self _ _, of_decide_eq_true c_kt, x_1.xf eV (by decide +kernel), x_1.ex eV (by decide +kernel) (by decide +kernel) (He.eqO_ok c_cg) (of_decide_eq_true c_ct), x_1.no, gInvalidRow, gInvalidTree, gProgramError, m_isinstance, m_repr⟩
  refine ⟨fdLaw, [(tc_Law, tp_Law)], (spLaw K [(tp_Law, qLw)]), fun p hp => ?_, ?_, fun H a ns hl hT hS => ⟨a, ns, rfl, hS, hl, fun p hp => (by rw [List.mem_singleton.mp hp]; exact hT (tc_Law, tp_Law) (by simp)), fun _ => rfl⟩, fun base kB gB tB => ?_⟩
  · rw [List.mem_singleton.mp hp]
    exact ⟨tk_Law.em, tk_Law.no, tk_Law.cd⟩
  · obtain ⟨_, _, _, _, _, _, _, _, _, rfl, _, _⟩ := FLaw.ex
    exact fun s v => .of_eq rfl
  have X : ErrH l.prog w K mg base (fun i => ([(He.ga K "InvalidTree"), (He.ga K "InvalidRow")] : List Addr).getD i 0) :=
    ⟨⟨_, _, _, oexV x_0, meXI0.at_, eq_of_beq meXI0.fn, ok_XI0 FXI0 (oexV x_0) x_0.no, gInvalidTree, bXI0⟩, ⟨_, _, _, oexV x_1, meXI1.at_, eq_of_beq meXI1.fn, ok_XI1 FXI1 (oexV x_1) x_1.no, gInvalidRow, bXI1⟩⟩
  have GI : Has l.prog w K mg base CX0 1 "is_integer" PIsInt (spIsInt K) := ⟨_, _, ok_IsInt FIsInt TI, gIsInt, kIsInt, bIsInt⟩
  have GRw : Has l.prog w K mg base CX0 2 "is_row" PIsRow (spRowG K) := ⟨_, _, ok_IsRowG FIsRow TR GI, gIsRow, kIsRow, bIsRow⟩
  have GRm : Has l.prog w K mg base CX0 2 "is_row" PIsRow (spRowM K) := ⟨_, _, ok_IsRowM FIsRow TR GI, gIsRow, kIsRow, bIsRow⟩
  have GC : Has l.prog w K mg base CX0 1 "common_factor" PCF spCF := ⟨_, _, ok_CF FCF TR, gCF, kCF, bCF⟩
  have GPr : Has l.prog w K mg base CX0 2 "primitive" PPrim spPrim := ⟨_, _, ok_Prim FPrim TR GC, gPrim, kPrim, bPrim⟩
  have GLe : Has l.prog w K mg base CX0 1 "lead" PLead spLead := ⟨_, _, ok_Lead FLead TR, gLead, kLead, bLead⟩
  have GW : Has l.prog w K mg base CX0 3 "without" PWo spWo := ⟨_, _, ok_Wo FWo TR GLe GPr, gWo, kWo, bWo⟩
  have GB : Has l.prog w K mg base CX0 4 "reduced_by" PRB (spRB K) := ⟨_, _, ok_RB FRB TR GW GPr, gRB, kRB, bRB⟩
  have GA : Has l.prog w K mg base CX0 5 "added" PAdded (spAdded K) := ⟨_, _, ok_Added FAdded TR GW GPr GB GLe, gAdded, kAdded, bAdded⟩
  have GRd : Has l.prog w K mg base CX0 6 "reduced" PRed spRed := ⟨_, _, ok_Red FRed TR GRw GA, gRed, kRed, bRed⟩
  have GRx : Has l.prog w K mg base (L2N.CX l.prog w) 6 "reduced" PRed (spRedX K (He.ga K "InvalidRow")) := ⟨_, _, ok_RedX FRed TR X GRm GA, gRed, kRed, bRed⟩
  have GKx : Has l.prog w K mg base (L2N.CX l.prog w) 7 "kernel" PKer (spKerX K (He.ga K "InvalidRow")) := ⟨_, _, ok_KerX FKer GRx, gKer, kKer, bKer⟩
  have GIt : Has l.prog w K mg base CX0 7 "iter_rows" PIterR spIterR := ⟨_, _, ok_IterR FIterR TR GI GRd, gIterR, kIterR, bIterR⟩
  have GIx : Has l.prog w K mg base (L2N.CX l.prog w) 7 "iter_rows" PIterR (spIterX K (He.ga K "InvalidRow")) := ⟨_, _, ok_IterX FIterR X GI GRx, gIterR, kIterR, bIterR⟩
  have HC : HasC l.prog w K mg base CX0 8 "Space" (He.ga K "Space") PSpIni (spSpIni (He.ga K "Space")) := ⟨_, _, mkSpace, ok_SpIni FSpIni TS GIt, gSpace, bSpIni⟩
  have HX : HasC l.prog w K mg base (L2N.CX l.prog w) 8 "Space" (He.ga K "Space") PSpIni (spSpIniX K (He.ga K "Space") (He.ga K "InvalidRow")) := ⟨_, _, mkSpace, ok_SpIniX FSpIni TS GIx, gSpace, bSpIni⟩
  have MC : HasM l.prog w K mg base (L2N.CX l.prog w) 3 (He.ga K "Space") "check" PSpChk (spChkX K (He.ga K "Space") (He.ga K "InvalidRow")) := ⟨_, _, meSpChk, ok_ChkX FSpChk TR X TS gSpace, bSpChk⟩
  have MO : HasM l.prog w K mg base (L2N.CX l.prog w) 4 (He.ga K "Space") "__or__" PSpOr (spChkX K (He.ga K "Space") (He.ga K "InvalidRow")) := ⟨_, _, meSpOr, ok_OrX FSpOr TS MC, bSpOr⟩
  have MW : HasM l.prog w K mg base (L2N.CX l.prog w) 4 (He.ga K "Space") "is_within" PSpWith (spChkX K (He.ga K "Space") (He.ga K "InvalidRow")) := ⟨_, _, meSpWith, ok_WithX FSpWith TS MC, bSpWith⟩
  have ME : HasM l.prog w K mg base CX0 1 (He.ga K "Space") "__eq__" PSpEq (spEqSp K (He.ga K "Space")) := ⟨_, _, meSpEq, ok_SpEq FSpEq TR TS gSpace, bSpEq⟩
  have SO : SpOk l.prog w K mg base (He.ga K "Space") (He.ga K "InvalidRow") := ⟨TS, OC, HC, HX, MO, MW, ME, fun t ht => by
    rcases ht with rfl | rfl | rfl | rfl
    · exact of_decide_eq_true c_k0
    · exact of_decide_eq_true c_k1
    · exact of_decide_eq_true c_k2
    · exact of_decide_eq_true c_k3⟩
  have GPo : Has l.prog w K mg base CX0 1 "_law_pool" PPool (spPoolB K) := ⟨_, _, ok_PoolB FPool TK, gPool, kPool, bPool⟩
  have GTa : Has l.prog w K mg base CX0 1 "_law_take" PTake spTake := ⟨_, _, ok_Take FTake TK, gTake, kTake, bTake⟩
  exact ok_Law FLaw tcode_Law (tB (tc_Law, tp_Law) (by simp)) (by simp) (fun p hp _ => by rw [List.mem_singleton.mp hp]) TL M SO ⟨_, _, FLHe, gLHe, bLHe⟩ ⟨_, _, FLVa, gLVa, bLVa⟩ GPo GTa GRx GKx
end Aon
open PySem PySem.W PySem.Calls PyProof.Rows
set_option maxRecDepth 100000 in
set_option maxHeartbeats 0 in
theorem PySem.Challenge.cw_allornothing_k43_errors_of_rows_holds : PySem.Challenge.rw_allornothing_k43_errors_of_rows.Holds := by
  w_on; o_law
  refine HandSHeadRun.head_any (r := PySem.W.OpenLaw.row PySem.Challenge.rw_allornothing_k43_errors_of_rows) (q := Aon.khQ) (H := Aon.khH) (ob := Aon.khO) (M := 60000) (loose := Aon.khN) (d := HandSHeadRun.topDef (PySem.W.OpenLaw.row PySem.Challenge.rw_allornothing_k43_errors_of_rows).prog 23) (kwd := []) Aon.khO_eq
    (by kernel_rfl) (fun s => by kernel_rfl) Aon.khRun (by kernel_rfl) (by kernel_rfl) (by kernel_rfl) (by rfl) (by first | assumption | decide +kernel) (by decide +kernel) ⟨rfl, rfl, rfl, rfl, rfl, by decide +kernel⟩ ?hw ?hc
  case hw => w_witness2
  case hc =>
    refine Aon.LX.walk_ofTA (l := PySem.Challenge.rw_allornothing_k43_errors_of_rows) (n := 63) (x := "_law_script") (CX := fun _ => L2.CX0) rfl (by decide) (by kernel_rfl) ?F (fun _ _ _ _ _ z => z)
    intro w mg fa h Y G hmg0
    obtain ⟨K, KX, c, tt⟩ := Y
    have hmg : mg ("law" : PySem.Str) = some (.ref fa) := by
      have e : (HandSHeadRun.topDef (PySem.W.OpenLaw.row PySem.Challenge.rw_allornothing_k43_errors_of_rows).prog 23).name = ("law" : PySem.Str) := by kernel_rfl
      rw [← e]
      exact hmg0
    exact ⟨K, KX, Aon.khFacts (l := PySem.Challenge.rw_allornothing_k43_errors_of_rows) (w := w) KX G hmg c tt⟩
#print axioms PySem.Challenge.cw_allornothing_k43_errors_of_rows_holds

