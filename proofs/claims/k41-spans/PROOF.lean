import PyProof.Rows.All
import Wide.All
import OpenK.AllK
import Wide.FinOn
import HandS.ForMost
import HandS.Wide
import HandS.IsInst
import HandS.Walk
import HandS.Flow
import HandS.Property
import HandS.Star
import HandS.DictComp
import HandS.Conv
import HandS.Zip
import HandS.SortKw
import HandS.MapSum
import HandS.TupMul
import HandS.Records
import PyProof.InstEq
import PyProof.FactsAll.enumerate_1
import KE.GoesEnumKw
import KE.KTurns
import KE.GoesMore
import PySem.Challenge.RW_allornothing_k41_spans_of_rows
set_option Elab.async false
set_option linter.all false
set_option maxRecDepth 100000
set_option maxHeartbeats 4000000
namespace Aon
open PySem L2
def topS (i : Nat) : Stmt := PySem.Challenge.pw_allornothing_k41_spans_of_rows.main.body.getD i (.Pass ⟨0, 0, 0, 0⟩)
/-! ### words of this text, over HandS -/
theorem bb_int : bootBuiltins "int" = some (.type "int") := by decide +kernel
theorem bb_str : bootBuiltins "str" = some (.type "str") := by decide +kernel
theorem bb_bool : bootBuiltins "bool" = some (.type "bool") := by decide +kernel
theorem bb_list : bootBuiltins "list" = some (.type "list") := by decide +kernel
theorem bb_tuple : bootBuiltins "tuple" = some (.type "tuple") := by decide +kernel
theorem bb_len : bootBuiltins "len" = some (.builtin "len") := by decide +kernel
theorem bb_all : bootBuiltins "all" = some (.builtin "all") := by decide +kernel
theorem bb_isinstance : bootBuiltins "isinstance" = some (.builtin "isinstance") := by decide +kernel
/-- a def that stands under its name: its promise, and how it is called -/
structure Has (P : Program) (w : World) (K : PySem.W.Frag) (mg : Str → Option Value) (base : Heap) (CX : CXT) (k : Nat) (x : Str) (ps : List Str) (sp : Sp) : Prop where
  ex : ∃ (f : Addr) (fd : FuncData), FnOk P w K mg base CX k f fd ps sp ∧ mg x = some (.ref f) ∧ PySem.W.keepIn K (.ref f) = true ∧ Binds K fd ps []
section
variable {X : Cx}
theorem pe_callH {CX : CXT} {k : Nat} {x : Str} {ps : List Str} {sp : Sp} {E : XK} {e : Expr} {es : List Expr} {t : TA} {p pos : Pos} (F : Has X.prog X.w X.K X.mg X.base CX k x ps sp) (hr : Room k X.A) (hg : Gl X x) (hx : Passes CX X E) (ha : PA X (e :: es) t)
    (hd : (x == ("__debug__" : Str)) = false := by decide) (he : starEach (e :: es) X.env = (false, eval e X.env) :: starEach es X.env := by rfl) (hpl : (backTo pos (starEach es X.env)).any (·.1) = false := by rfl) :
    PE X (.Call (.Name x p) (e :: es) [] pos) (tCall sp [] E t) := by
  obtain ⟨f, fd, F, m, kp, b⟩ := F.ex
  exact pe_call F hr hg m kp b .nil hx ha hd he hpl
theorem pe_callH0 {CX : CXT} {k : Nat} {x : Str} {ps : List Str} {sp : Sp} {E : XK} {p pos : Pos} (F : Has X.prog X.w X.K X.mg X.base CX k x ps sp) (hr : Room k X.A) (hg : Gl X x) (hx : Passes CX X E) (hd : (x == ("__debug__" : Str)) = false := by decide) :
    PE X (.Call (.Name x p) [] [] pos) (tCall sp [] E tNil) := by
  obtain ⟨f, fd, F, m, kp, b⟩ := F.ex
  exact pe_call0 F hr hg m kp b .nil hx hd
theorem pe_globE {x : Str} {v : V} {pos : Pos} (hg : Gl X x) (hm : ∃ u, X.mg x = some u ∧ RelV v u) (hd : (x == ("__debug__" : Str)) = false := by decide) : PE X (.Name x pos) (tC v) := by
  obtain ⟨u, m, r⟩ := hm
  exact pe_glob hg m r hd
end
/-- a method of the class at C; a class under its name -/
structure HasM (P : Program) (w : World) (K : PySem.W.Frag) (mg : Str → Option Value) (base : Heap) (CX : CXT) (k : Nat) (C : Addr) (m : Str) (ps : List Str) (sp : Sp) : Prop where
  ex : ∃ (f : Addr) (fd : FuncData), Meth K C m f ∧ FnOk P w K mg base CX k f fd ps sp ∧ Binds K fd ps []
structure HasC (P : Program) (w : World) (K : PySem.W.Frag) (mg : Str → Option Value) (base : Heap) (CX : CXT) (k : Nat) (x : Str) (C : Addr) (ps : List Str) (sp : Sp) : Prop where
  ex : ∃ (f : Addr) (fd : FuncData), Mk K C f ∧ FnOk P w K mg base CX k f fd ps sp ∧ mg x = some (.ref C) ∧ Binds K fd ps []
section
variable {X : Cx}
theorem pe_methH {CX : CXT} {k : Nat} {C : Addr} {m : Str} {ps : List Str} {sp : Sp} {E : XK} {o e : Expr} {es : List Expr} {ta : TE} {t : TA} {apos pos : Pos} {pl : Sem Bool} (he : PE X o ta) (c : Cls X.K C) (M : HasM X.prog X.w X.K X.mg X.base CX k C m ps sp) (hr : Room k X.A) (hx : Passes CX X E)
    (ha : PA X (e :: es) t) (hst : starEach (e :: es) X.env = (false, eval e X.env) :: starEach es X.env := by rfl) (hpl : (backTo pos (starEach es X.env)).any (·.1) = false := by rfl)
    (ht : eval (.Call (.Attribute o m apos) (e :: es) [] pos) X.env = (do
      let v ← eval o X.env
      standAt apos.atName
      let (g, r) ← holding [v] (getMethod v m pl)
      callWith pos g r (backTo pos (starEach (e :: es) X.env)) (backToKw pos (keywordEach [] X.env))) := by rfl) : PE X (.Call (.Attribute o m apos) (e :: es) [] pos) (tMeth C m sp [] E ta t) := by
  obtain ⟨f, fd, hm, F, b⟩ := M.ex
  exact pe_meth (pl := pl) he c hm F hr b .nil hx ha hst hpl ht
theorem pe_methH0 {CX : CXT} {k : Nat} {C : Addr} {m : Str} {ps : List Str} {sp : Sp} {E : XK} {o : Expr} {ta : TE} {apos pos : Pos} {pl : Sem Bool} (he : PE X o ta) (c : Cls X.K C) (M : HasM X.prog X.w X.K X.mg X.base CX k C m ps sp) (hr : Room k X.A) (hx : Passes CX X E)
    (ht : eval (.Call (.Attribute o m apos) [] [] pos) X.env = (do
      let v ← eval o X.env
      standAt apos.atName
      let (g, r) ← holding [v] (getMethod v m pl)
      callWith pos g r (backTo pos (starEach [] X.env)) (backToKw pos (keywordEach [] X.env))) := by rfl) : PE X (.Call (.Attribute o m apos) [] [] pos) (tMeth C m sp [] E ta tNil) := by
  obtain ⟨f, fd, hm, F, b⟩ := M.ex
  exact pe_meth0 (pl := pl) he c hm F hr b .nil hx ht
theorem pe_makeH {CX : CXT} {k : Nat} {x : Str} {C : Addr} {ps : List Str} {sp : Sp} {E : XK} {e : Expr} {es : List Expr} {t : TA} {p pos : Pos} (M : HasC X.prog X.w X.K X.mg X.base CX k x C ps sp) (hr : Room (k + 1) X.A) (hg : Gl X x) (hx : Passes CX X E) (ha : PA X (e :: es) t)
    (hd : (x == ("__debug__" : Str)) = false := by decide) (he : starEach (e :: es) X.env = (false, eval e X.env) :: starEach es X.env := by rfl) (hpl : (backTo pos (starEach es X.env)).any (·.1) = false := by rfl) :
    PE X (.Call (.Name x p) (e :: es) [] pos) (tMake C sp [] E t) := by
  obtain ⟨f, fd, mk, F, m, b⟩ := M.ex
  exact pe_make mk F hr hg m b .nil hx ha hd he hpl
theorem pe_propH {CX : CXT} {k : Nat} {C p : Addr} {f : Str} {ps : List Str} {sp : Sp} {E : XK} {e : Expr} {ta : TE} {pos : Pos} (he : PE X e ta) (c : Cls X.K C) (M : ∃ (g : Addr) (fd : FuncData), PropOf X.K C f p g ∧ FnOk X.prog X.w X.K X.mg X.base CX k g fd ps sp ∧ Binds X.K fd ps []) (hr : Room (k + 1) X.A) (hx : Passes CX X.nox E)
    (hab : attributeBase e f X.env (eval e X.env) = eval e X.env := by rfl) : PE X (.Attribute e f pos) (tProp C sp [] E ta) := by
  obtain ⟨g, fd, hp, F, b⟩ := M
  exact pe_prop he c hp F hr b .nil hx hab
end
/-- all but p and c stands -/
def But (p c : Addr) (H H' : Hp) : Prop := ∀ b o, H b = some o → b ≠ p → b ≠ c → H' b = some o
theorem But.refl {p c : Addr} {H : Hp} : But p c H H := fun _ _ e _ _ => e
theorem But.trans {p c : Addr} {H H1 H2 : Hp} (a : But p c H H1) (b : But p c H1 H2) : But p c H H2 := fun x o e h1 h2 => b x o (a x o e h1 h2) h1 h2
theorem iteE {c : Bool} {A B : Prop} (hc : c = false) (k : B) : if c = true then A else B := by
  rw [hc]
  exact iteF k
theorem iteS {c : Bool} {A B : Prop} (hc : c = true) (k : A) : if c = true then A else B := by
  rw [hc]
  exact iteT k

/-! ### zip(a, b, strict=True): the rule, for lists and tuples -/
section
variable {prog : Program} {w : World} {A : Around} {E : Value → Shared → Prop} {s : Shared}
/-- one of the two iterators under a zip: what it walks, where it stands -/
structure ZSrc (prog : Program) (w : World) (it src : Addr) (vs : Array Value) (S : Nat → Heap → Prop) : Prop where
  item : ∀ {A : Around} {E : Value → Shared → Prop} {s : Shared} {i : Nat} {x : Value} {Q : Value → Shared → Prop}, S i s.heap → vs[i]? = some x → (∀ h', S (i + 1) h' → Heap.SameBut it s.heap h' → Q x { s with heap := h' }) → wpAny (model prog w) A (Builtin.SmallTypes.nextOf (.ref it)) Q E s
  stop : ∀ {A : Around} {E : Value → Shared → Prop} {s : Shared} {i : Nat} {Q : Value → Shared → Prop}, A.handled = none → S i s.heap → vs[i]? = none →
    (∀ h' e, Heap.ExtBut it s.heap h' → (∃ o, h'.get? e = some o ∧ o.cls = .type "StopIteration") → E (.ref e) { s with heap := h' }) → wpAny (model prog w) A (Builtin.SmallTypes.nextOf (.ref it)) Q E s
  ext : ∀ {i : Nat} {h h' : Heap}, S i h → (∀ b, b = it ∨ b = src → ∀ o, h.get? b = some o → h'.get? b = some o) → S i h'
def zsT (it src : Addr) (vs : Array Value) (i : Nat) (h : Heap) : Prop := h.IsTupleIter it src i ∧ h.IsTuple src vs
def zsL (it src : Addr) (vs : Array Value) (i : Nat) (h : Heap) : Prop := h.IsListIter it src i ∧ h.IsList src vs
theorem zsrc_T {it src : Addr} {vs : Array Value} (ne : src ≠ it) : ZSrc prog w it src vs (zsT it src vs) where
  item := fun st hx k => RZ.nextOf_tuple_item st.1 st.2 hx fun h' q sb => k h' ⟨q, st.2.extBut sb.extBut ne⟩ sb
  stop := fun hh st hx k => RZ.nextOf_tuple_end hh st.1 st.2 hx k
  ext := fun st k => ⟨st.1.at fun o q => k _ (.inl rfl) o q, let ⟨o, ho, r⟩ := st.2; ⟨o, k _ (.inr rfl) o ho, r⟩⟩
theorem zsrc_L {it src : Addr} {vs : Array Value} (ne : src ≠ it) : ZSrc prog w it src vs (zsL it src vs) where
  item := fun st hx k => wpAny_nextOf_list_item st.1 st.2 hx fun h' q sb => k h' ⟨q, st.2.extBut sb.extBut ne⟩ sb
  stop := fun hh st hx k => wpAny_nextOf_list_end hh st.1 st.2 hx k
  ext := fun st k => ⟨st.1.at fun o q => k _ (.inl rfl) o q, let ⟨o, ho, r⟩ := st.2; ⟨o, k _ (.inr rfl) o ho, r⟩⟩
/-- the strict zip's own object -/
def ZipS (h : Heap) (z TI TO : Addr) (f0 : Value) : Prop := h.get? z = some { cls := .type "zip", dict := none, data := .fields #[f0, .bool false, .bool true, .ref TI, .ref TO], slots := #[] }
theorem draw_item {it src : Addr} {vs : Array Value} {S : Nat → Heap → Prop} (Z : ZSrc prog w it src vs S) {i : Nat} {x : Value} {Q : Option Value → Shared → Prop} (st : S i s.heap) (hx : vs[i]? = some x)
    (k : ∀ h', S (i + 1) h' → Heap.SameBut it s.heap h' → Q (some x) { s with heap := h' }) : wpAny (model prog w) A (Builtin.SmallTypes.nextOrEnd (.ref it)) Q E s := by
  unfold Builtin.SmallTypes.nextOrEnd
  exact wpAny_bind (wpAny_attempt (Z.item st hx fun h' q sb => wpAny_pure (k h' q sb)))
theorem draw_stop {it src : Addr} {vs : Array Value} {S : Nat → Heap → Prop} (Z : ZSrc prog w it src vs S) {i : Nat} {Q : Option Value → Shared → Prop} (hh : A.handled = none) (st : S i s.heap) (hx : vs[i]? = none)
    (k : ∀ h', Heap.ExtBut it s.heap h' → Q none { s with heap := h' }) : wpAny (model prog w) A (Builtin.SmallTypes.nextOrEnd (.ref it)) Q E s := by
  unfold Builtin.SmallTypes.nextOrEnd
  refine wpAny_bind (wpAny_attempt (Z.stop hh st hx fun h' e eb ⟨o, ho, hc⟩ => ?_))
  refine wpAny_bind (wpAny_isInstance (T := "StopIteration") (b := true) ⟨o, ho, hc⟩ isSubtype_stop ?_)
  exact wpAny_pure (k h' eb)
variable {z TI TO i1 i2 l1 l2 : Addr} {k1 k2 : Nat} {xs ys : Array Value} {x y a b : Value} {S1 S2 : Nat → Heap → Prop}
theorem zs_item {Q : Value → Shared → Prop} (D : ZipApart z TI TO i1 i2 l1 l2) (Z1 : ZSrc prog w i1 l1 xs S1) (Z2 : ZSrc prog w i2 l2 ys S2)
    (hz : ZipS s.heap z TI TO .none) (hTI : IsPair s.heap TI (.ref i1) (.ref i2)) (hTO : IsPair s.heap TO a b) (h1 : S1 k1 s.heap) (h2 : S2 k2 s.heap) (hx : xs[k1]? = some x) (hy : ys[k2]? = some y)
    (hQ : ∀ h', ZipS h' z TI TO (rawInt s.heap.objs.size) → IsPair h' TO x y → S1 (k1 + 1) h' → S2 (k2 + 1) h' → IsPair h' s.heap.objs.size x y → h'.objs.size = s.heap.objs.size + 1 →
      (∀ c o, c ≠ z → c ≠ TO → c ≠ i1 → c ≠ i2 → s.heap.get? c = some o → h'.get? c = some o) → Q (.ref s.heap.objs.size) { s with heap := h' }) :
    wpAny (model prog w) A (Builtin.«zip.__next__» ⟨[.ref z], []⟩) (fun fin s' => ∃ v, fin = .done (.ret v) ∧ Q v s') E s := by
  have two : ∀ {c it src : Addr} {h h' : Heap}, Heap.SameBut c h h' → it ≠ c → src ≠ c → ∀ b, b = it ∨ b = src → ∀ o, h.get? b = some o → h'.get? b = some o := fun {c it src h h'} sb n1 n2 b hb o q => by
    rcases hb with rfl | rfl
    · exact sb.extBut _ _ n1 q
    · exact sb.extBut _ _ n2 q
  show wpAny _ _ (field (.ref z) 2 >>= _) _ _ _
  refine wpAny_bind (wpAny_field hz rfl (x := .bool true) rfl ?_)
  show wpAny _ _ (field (.ref z) 3 >>= _) _ _ _
  refine wpAny_bind (wpAny_field hz rfl (x := .ref TI) rfl (wpAny_bind (wpAny_seqItems hTI rfl ?_)))
  show wpAny _ _ (Builtin.SmallTypes.ownedTupleIsFree (.ref z) >>= _) _ _ _
  refine wpAny_bind ?_
  unfold Builtin.SmallTypes.ownedTupleIsFree
  refine wpAny_bind (wpAny_field hz rfl (x := .none) rfl (wpAny_pure ?_))
  simp only [if_true]
  refine wpAny_bind (wpAny_rule (wpAny_bind (wpAny_field hz rfl (x := .ref TO) rfl ?_)))
  refine wpAny_bind (wpAny_setField_rec hz (by simp) fun g1 z1 b1 => ?_)
  replace z1 : ZipS g1 z TI TO .ellipsis := z1
  refine wpAny_bind ?_
  simp only [List.zipIdx_cons, List.zipIdx_nil, List.forIn_cons, List.forIn_nil]
  refine wpAny_bind (wpAny_bind (wpAny_onRaise ?_))
  show wpAny _ _ (Builtin.SmallTypes.nextOrEnd (.ref i1)) _ _ _
  refine draw_item Z1 (Z1.ext h1 (two b1 D.i1z D.l1z)) hx fun g2 q2 b2 => ?_
  have t2 : IsPair g2 TO a b := b2.extBut _ _ D.TOi1 (b1.extBut _ _ D.TOz hTO)
  refine wpAny_bind (wpAny_seqItems t2 rfl (wpAny_bind (wpAny_updateSeq_pair t2 fun g3 t3 b3 => ?_)))
  replace t3 : IsPair g3 TO x b := t3
  refine wpAny_bind (wpAny_letGo (wpAny_pure ?_))
  refine wpAny_bind (wpAny_bind (wpAny_onRaise ?_))
  show wpAny _ _ (Builtin.SmallTypes.nextOrEnd (.ref i2)) _ _ _
  refine draw_item Z2 (Z2.ext (Z2.ext (Z2.ext h2 (two b1 D.i2z D.l2z)) (two b2 D.i12.symm D.l2i1)) (two b3 D.TOi2.symm D.l2TO)) hy fun g4 q4 b4 => ?_
  have t4 : IsPair g4 TO x b := b4.extBut _ _ D.TOi2 t3
  refine wpAny_bind (wpAny_seqItems t4 rfl (wpAny_bind (wpAny_updateSeq_pair t4 fun g5 t5 b5 => ?_)))
  replace t5 : IsPair g5 TO x y := t5
  refine wpAny_bind (wpAny_letGo (wpAny_pure (wpAny_pure ?_)))
  refine wpAny_bind (wpAny_seqItems t5 rfl (wpAny_bind (wpAny_newTuple ?_)))
  have hsz : g5.objs.size = s.heap.objs.size := by rw [b5.1, b4.1, b3.1, b2.1, b1.1]
  have z5 : ZipS g5 z TI TO .ellipsis := b5.extBut _ _ D.TOz.symm (b4.extBut _ _ D.i2z.symm (b3.extBut _ _ D.TOz.symm (b2.extBut _ _ D.i1z.symm z1)))
  have k5 : ∀ c o, c ≠ z → c ≠ TO → c ≠ i1 → c ≠ i2 → s.heap.get? c = some o → g5.get? c = some o := fun c o c1 c2 c3 c4 e =>
    b5.extBut _ _ c2 (b4.extBut _ _ c4 (b3.extBut _ _ c2 (b2.extBut _ _ c3 (b1.extBut _ _ c1 e))))
  have p5 : S1 (k1 + 1) g5 := Z1.ext (Z1.ext (Z1.ext q2 (two b3 D.TOi1.symm D.l1TO)) (two b4 D.i12 D.l1i2)) (two b5 D.TOi1.symm D.l1TO)
  have r5 : S2 (k2 + 1) g5 := Z2.ext q4 (two b5 D.TOi2.symm D.l2TO)
  have zlt : z < g5.objs.size := Heap.lt_size z5
  show wpAny _ _ (Builtin.SmallTypes.ownedTupleHandOut (.ref z) (.ref g5.objs.size) >>= _) _ _ _
  refine wpAny_bind ?_
  unfold Builtin.SmallTypes.ownedTupleHandOut
  have z6 : ZipS (g5.push { cls := .type "tuple", data := .seq #[x, y] }) z TI TO .ellipsis := Heap.get?_push_of_some _ z5
  refine wpAny_bind (wpAny_setField_rec z6 (by simp) fun g7 z7 b7 => ?_)
  replace z7 : ZipS g7 z TI TO (rawInt g5.objs.size) := z7
  refine wpAny_setField_rec z7 (by simp) fun g8 z8 b8 => ?_
  replace z8 : ZipS g8 z TI TO (rawInt g5.objs.size) := z8
  have up : ∀ c o, c ≠ z → g5.get? c = some o → g8.get? c = some o := fun c o c1 e => b8.extBut _ _ c1 (b7.extBut _ _ c1 (Heap.get?_push_of_some _ e))
  have T8 : IsPair g8 g5.objs.size x y := b8.extBut _ _ (Nat.ne_of_gt zlt) (b7.extBut _ _ (Nat.ne_of_gt zlt) (Heap.get?_push_size _ rfl))
  have n8 : g8.objs.size = g5.objs.size + 1 := by rw [b8.1, b7.1, Heap.size_push]
  rw [hsz] at z8 T8 n8
  refine wpAny_pure ⟨_, rfl, ?_⟩
  show Q (.ref g5.objs.size) _
  rw [hsz]
  refine hQ g8 z8 (up _ _ D.TOz t5) (Z1.ext p5 fun c hc o q => ?_) (Z2.ext r5 fun c hc o q => ?_) T8 n8 fun c o c1 c2 c3 c4 e => up c o c1 (k5 c o c1 c2 c3 c4 e)
  · rcases hc with rfl | rfl
    · exact up _ _ D.i1z q
    · exact up _ _ D.l1z q
  · rcases hc with rfl | rfl
    · exact up _ _ D.i2z q
    · exact up _ _ D.l2z q
theorem zs_stop {Q : PySem.Fin → Shared → Prop} (hh : A.handled = none) (D : ZipApart z TI TO i1 i2 l1 l2) (Z1 : ZSrc prog w i1 l1 xs S1) (Z2 : ZSrc prog w i2 l2 ys S2)
    (hz : ZipS s.heap z TI TO .none) (hTI : IsPair s.heap TI (.ref i1) (.ref i2)) (hTO : IsPair s.heap TO a b) (h1 : S1 k1 s.heap) (h2 : S2 k2 s.heap) (hx : xs[k1]? = none) (hy : ys[k2]? = none)
    (hE : ∀ h' e, (∀ c o, c ≠ z → c ≠ TO → c ≠ i1 → c ≠ i2 → s.heap.get? c = some o → h'.get? c = some o) → (∃ o, h'.get? e = some o ∧ o.cls = .type "StopIteration") → E (.ref e) { s with heap := h' }) :
    wpAny (model prog w) A (Builtin.«zip.__next__» ⟨[.ref z], []⟩) Q E s := by
  show wpAny _ _ (field (.ref z) 2 >>= _) _ _ _
  refine wpAny_bind (wpAny_field hz rfl (x := .bool true) rfl ?_)
  show wpAny _ _ (field (.ref z) 3 >>= _) _ _ _
  refine wpAny_bind (wpAny_field hz rfl (x := .ref TI) rfl (wpAny_bind (wpAny_seqItems hTI rfl ?_)))
  show wpAny _ _ (Builtin.SmallTypes.ownedTupleIsFree (.ref z) >>= _) _ _ _
  refine wpAny_bind ?_
  unfold Builtin.SmallTypes.ownedTupleIsFree
  refine wpAny_bind (wpAny_field hz rfl (x := .none) rfl (wpAny_pure ?_))
  simp only [if_true]
  refine wpAny_bind (wpAny_rule (wpAny_bind (wpAny_field hz rfl (x := .ref TO) rfl ?_)))
  refine wpAny_bind (wpAny_setField_rec hz (by simp) fun g1 z1 b1 => ?_)
  replace z1 : ZipS g1 z TI TO .ellipsis := z1
  refine wpAny_bind ?_
  simp only [List.zipIdx_cons, List.zipIdx_nil, List.forIn_cons, List.forIn_nil]
  refine wpAny_bind (wpAny_bind (wpAny_onRaise ?_))
  show wpAny _ _ (Builtin.SmallTypes.nextOrEnd (.ref i1)) _ _ _
  refine draw_stop Z1 hh (Z1.ext h1 fun c hc o q => ?_) hx fun g2 b2 => ?_
  · rcases hc with rfl | rfl
    · exact b1.extBut _ _ D.i1z q
    · exact b1.extBut _ _ D.l1z q
  have z2 : ZipS g2 z TI TO .ellipsis := b2 _ _ D.i1z.symm z1
  refine wpAny_bind (wpAny_setField_rec z2 (by simp) fun g3 z3 b3 => ?_)
  refine wpAny_bind ?_
  show wpAny _ _ (forIn [(Value.ref i2, 1)] PUnit.unit _ >>= _) _ _ _
  rw [List.forIn_cons]
  refine wpAny_bind (wpAny_bind (wpAny_bind (draw_stop Z2 hh (Z2.ext h2 fun c hc o q => ?_) hy fun g4 b4 => ?_)))
  · rcases hc with rfl | rfl
    · exact b3.extBut _ _ D.i2z (b2 _ _ D.i12.symm (b1.extBut _ _ D.i2z q))
    · exact b3.extBut _ _ D.l2z (b2 _ _ D.l2i1 (b1.extBut _ _ D.l2z q))
  show wpAny _ _ (pure (ForInStep.yield PUnit.unit)) _ _ _
  refine wpAny_pure ?_
  show wpAny _ _ (forIn [] PUnit.unit _) _ _ _
  rw [List.forIn_nil]
  refine wpAny_pure (wpAny_bind (wpAny_rule ?_))
  have k4 : ∀ c o, c ≠ z → c ≠ TO → c ≠ i1 → c ≠ i2 → s.heap.get? c = some o → g4.get? c = some o := fun c o c1 c2 c3 c4 q =>
    b4 _ _ c4 (b3.extBut _ _ c1 (b2 _ _ c3 (b1.extBut _ _ c1 q)))
  unfold Builtin.SmallTypes.stopIteration
  refine wpAny_bind ?_
  simp only [newExc, newTuple]
  refine wpAny_bind (wpAny_newObj_type ?_ (by size_fits))
  refine wpAny_bind (m := firstArgMember _ _) (wpAny_of_eq (a := Value.none) (by first | rfl | (simp only [firstArgMember]; rfl)) ?_)
  refine wpAny_newObj_type ?_ (by size_fits)
  simp only [raiseNew]
  refine wpAny_bind (wpAny_handled ?_)
  rw [hh]
  refine wpAny_bind (wpAny_pure (wpAny_throw ?_))
  exact hE _ _ (fun c o c1 c2 c3 c4 q => Heap.get?_push_of_some _ (Heap.get?_push_of_some _ (k4 c o c1 c2 c3 c4 q))) ⟨_, Heap.get?_push_size _ rfl, rfl⟩
theorem pyNext_zs_item {Q : Option Value → Shared → Prop} (D : ZipApart z TI TO i1 i2 l1 l2) (Z1 : ZSrc prog w i1 l1 xs S1) (Z2 : ZSrc prog w i2 l2 ys S2)
    (hz : ZipS s.heap z TI TO .none) (hTI : IsPair s.heap TI (.ref i1) (.ref i2)) (hTO : IsPair s.heap TO a b) (h1 : S1 k1 s.heap) (h2 : S2 k2 s.heap) (hx : xs[k1]? = some x) (hy : ys[k2]? = some y)
    (hQ : ∀ h', ZipS h' z TI TO (rawInt s.heap.objs.size) → IsPair h' TO x y → S1 (k1 + 1) h' → S2 (k2 + 1) h' → IsPair h' s.heap.objs.size x y → h'.objs.size = s.heap.objs.size + 1 →
      (∀ c o, c ≠ z → c ≠ TO → c ≠ i1 → c ≠ i2 → s.heap.get? c = some o → h'.get? c = some o) → Q (some (.ref s.heap.objs.size)) { s with heap := h' }) : wpAny (model prog w) A (pyNext (.ref z)) Q E s := by
  have hT : s.TypeIs (.ref z) "zip" := ⟨_, hz, rfl⟩
  unfold pyNext
  refine wpAny_bind (wpAny_attempt (wpAny_callSpecial?_slot (name := Str.ofString "__next__") hT F.slot_zip_next (wpAny_call_entry F.slot_zip_next hT F.entry_zip_next ?_ (F.args_zip_next_1 _))))
  exact zs_item D Z1 Z2 hz hTI hTO h1 h2 hx hy fun h' a1 a2 a3 a4 a5 a6 a7 => wpAny_pure (hQ h' a1 a2 a3 a4 a5 a6 a7)
theorem pyNext_zs_stop {Q : Option Value → Shared → Prop} (hh : A.handled = none) (D : ZipApart z TI TO i1 i2 l1 l2) (Z1 : ZSrc prog w i1 l1 xs S1) (Z2 : ZSrc prog w i2 l2 ys S2)
    (hz : ZipS s.heap z TI TO .none) (hTI : IsPair s.heap TI (.ref i1) (.ref i2)) (hTO : IsPair s.heap TO a b) (h1 : S1 k1 s.heap) (h2 : S2 k2 s.heap) (hx : xs[k1]? = none) (hy : ys[k2]? = none)
    (hQ : ∀ h', (∀ c o, c ≠ z → c ≠ TO → c ≠ i1 → c ≠ i2 → s.heap.get? c = some o → h'.get? c = some o) → Q none { s with heap := h' }) : wpAny (model prog w) A (pyNext (.ref z)) Q E s := by
  have hT : s.TypeIs (.ref z) "zip" := ⟨_, hz, rfl⟩
  unfold pyNext
  refine wpAny_bind (wpAny_attempt (wpAny_callSpecial?_slot (name := Str.ofString "__next__") hT F.slot_zip_next (wpAny_call_entry F.slot_zip_next hT F.entry_zip_next ?_ (F.args_zip_next_1 _))))
  refine zs_stop hh D Z1 Z2 hz hTI hTO h1 h2 hx hy fun h' e hk ⟨o, ho, hc⟩ => ?_
  refine wpAny_bind (wpAny_isInstance (T := "StopIteration") (b := true) ⟨o, ho, hc⟩ isSubtype_stop ?_)
  exact wpAny_pure (hQ _ hk)
theorem letGo_zs {elts : List Expr} {m : Nat} {pos : Pos} {T : Addr} {Q : Unit → Shared → Prop} (hz : ZipS s.heap z TI TO (rawInt T)) (hQ : ∀ h', ZipS h' z TI TO .none → Heap.SameBut z s.heap h' → Q () { s with heap := h' }) :
    wpAny (model prog w) A (letOwnedTupleGo (.Tuple elts m pos) (.ref z) (.ref T)) Q E s := by
  unfold letOwnedTupleGo
  refine wpAny_bind (wpAny_load hz ?_)
  dsimp only
  rw [if_pos (by simp)]
  refine wpAny_bind (wpAny_rule ?_)
  exact wpAny_setField_rec hz (by simp) fun h' z' b' => hQ h' z' b'
theorem iter_zs {f0 : Value} {Q : Value → Shared → Prop} (hz : ZipS s.heap z TI TO f0) (h : Q (.ref z) s) : wpAny (model prog w) A (pyIter (.ref z)) Q E s := by
  have hT : s.TypeIs (.ref z) "zip" := ⟨_, hz, rfl⟩
  refine wpAny_pyIter_slot hT F.slot_zip_iter (wpAny_call_entry F.slot_zip_iter hT F.entry_zip_iter ?_ (F.args_zip_iter_1 _))
  exact wpAny_pure ⟨_, rfl, "zip", _, hT, F.slot_zip_next.lookup, h⟩
end

/-! calling it -/
theorem tcall_zs (a b v : Value) : checkTypeCall "zip" ⟨[a, b], [(Str.ofString "strict", v)]⟩ = pure () := by kernel_rfl
theorem ncall_zs (a b v : Value) : checkBuiltinCall "zip.__new__" ⟨[.type "zip", a, b], [(Str.ofString "strict", v)]⟩ = pure () := by kernel_rfl
theorem icall_zs (o a b v : Value) : argsOk "object.__init__" ⟨[o, a, b], [(Str.ofString "strict", v)]⟩ := by unfold argsOk; kernel_rfl
/-- the objects that a strict zip lays down -/
def zsHeap (h : Heap) (o1 o2 : Obj) : Heap :=
  ((((h.push o1).push o2).push { cls := .type "tuple", data := .seq #[.ref h.objs.size, .ref (h.push o1).objs.size] }).push { cls := .type "tuple", data := .seq #[.none, .none] }).push
    { cls := .type "zip", data := .fields #[.none, .bool false, .bool true, .ref ((h.push o1).push o2).objs.size, .ref (((h.push o1).push o2).push { cls := .type "tuple", data := .seq #[.ref h.objs.size, .ref (h.push o1).objs.size] }).objs.size] }
def itO (t : Bool) (a : Addr) : Obj := { cls := .type (if t = true then "tuple_iterator" else "list_iterator"), data := .fields #[.ref a, .int 0 0] }
def isO (t : Bool) (h : Heap) (a : Addr) (vs : Array Value) : Prop := if t = true then h.IsTuple a vs else h.IsList a vs
theorem isO_push {t : Bool} {h : Heap} {a : Addr} {vs : Array Value} (x : isO t h a vs) (o : Obj) : isO t (h.push o) a vs := by
  cases t with
  | true => exact Heap.IsTuple.push x o
  | false =>
    obtain ⟨o', ho, r⟩ := x
    exact ⟨o', Heap.get?_push_of_some o ho, r⟩
theorem isO_iter {prog : Program} {w : World} {A : Around} {E : Value → Shared → Prop} {t : Bool} {a : Addr} {vs : Array Value} {s : Shared} {Q : Value → Shared → Prop} (x : isO t s.heap a vs) (h : Q (.ref s.heap.objs.size) { s with heap := s.heap.push (itO t a) }) : wpAny (model prog w) A (pyIter (.ref a)) Q E s := by
  cases t with
  | true => exact wpAny_pyIter_tuple x h
  | false => exact wpAny_pyIter_list x h
theorem meets_zs (t1 t2 : Bool) (a b : Addr) (xs ys : Array Value) : Meets (Builtin.«zip.__new__» ⟨[.type "zip", .ref a, .ref b], [(Str.ofString "strict", .bool true)]⟩)
    (fun _ R s => isO t1 s.heap a xs ∧ isO t2 s.heap b ys ∧ R (.ok (.ret (.ref (s.heap.objs.size + 4)))) { s with heap := zsHeap s.heap (itO t1 a) (itO t2 b) }) :=
  .of_wp fun prog w A R s h => by
    obtain ⟨hp, g, d, tk, os⟩ := s
    obtain ⟨q1, q2, h⟩ := h
    have hsub := sub_zip
    have k1 : ∀ {A' : Around} {E : Value → Shared → Prop} {Q : Value → Shared → Prop}, Q (.ref hp.objs.size) ⟨hp.push (itO t1 a), g, d, tk, os⟩ → wpAny (model prog w) A' (pyIter (.ref a)) Q E ⟨hp, g, d, tk, os⟩ := fun q => isO_iter (s := ⟨hp, g, d, tk, os⟩) q1 q
    have k2 : ∀ {A' : Around} {E : Value → Shared → Prop} {Q : Value → Shared → Prop}, Q (.ref (hp.push (itO t1 a)).objs.size) ⟨(hp.push (itO t1 a)).push (itO t2 b), g, d, tk, os⟩ → wpAny (model prog w) A' (pyIter (.ref b)) Q E ⟨hp.push (itO t1 a), g, d, tk, os⟩ := fun q => isO_iter (s := ⟨hp.push (itO t1 a), g, d, tk, os⟩) (isO_push q2 _) q
    have e2 : (Str.ofString "strict" != ("strict" : Str)) = false := by decide +kernel
    wp_walk using k1, k2
    have e : ∀ o1 o2 o3 o4 : Obj, ((((hp.push o1).push o2).push o3).push o4).objs.size = hp.objs.size + 4 := fun _ _ _ _ => by simp only [Heap.size_push]
    exact ⟨.ref (hp.objs.size + 4), congrArg (fun n => PySem.Fin.done (Flow.ret (Value.ref n))) (e _ _ _ _), h⟩
section
variable {prog : Program} {w : World} {A : Around} {E : Value → Shared → Prop} {s : Shared}
theorem call_zs {t1 t2 : Bool} {a b : Addr} {xs ys : Array Value} {Q : Value → Shared → Prop} (q1 : isO t1 s.heap a xs) (q2 : isO t2 s.heap b ys)
    (h : ∀ h', ZipS h' (s.heap.objs.size + 4) (s.heap.objs.size + 2) (s.heap.objs.size + 3) .none → IsPair h' (s.heap.objs.size + 2) (.ref s.heap.objs.size) (.ref (s.heap.objs.size + 1)) →
      IsPair h' (s.heap.objs.size + 3) .none .none → h'.get? s.heap.objs.size = some (itO t1 a) → h'.get? (s.heap.objs.size + 1) = some (itO t2 b) →
      (∀ c o, s.heap.get? c = some o → h'.get? c = some o) → Q (.ref (s.heap.objs.size + 4)) { s with heap := h' }) :
    wpAny (model prog w) A (call (.type "zip") [.ref a, .ref b] [(Str.ofString "strict", .bool true)]) Q E s := by
  refine callType_newKw F.called_zip (by decide) (tcall_zs _ _ _) (ncall_zs _ _ _) (fun obj => icall_zs obj _ _ _) F.entry_zip_new (meets_zs t1 t2 a b xs ys) ⟨q1, q2, ?_⟩
  have z1 : (s.heap.push (itO t1 a)).objs.size = s.heap.objs.size + 1 := Heap.size_push ..
  have z2 : ((s.heap.push (itO t1 a)).push (itO t2 b)).objs.size = s.heap.objs.size + 2 := by rw [Heap.size_push, z1]
  have z3 : ∀ o, (((s.heap.push (itO t1 a)).push (itO t2 b)).push o).objs.size = s.heap.objs.size + 3 := fun o => by rw [Heap.size_push, z2]
  have z4 : ∀ o o', ((((s.heap.push (itO t1 a)).push (itO t2 b)).push o).push o').objs.size = s.heap.objs.size + 4 := fun o o' => by rw [Heap.size_push, z3]
  have g5 : ∀ o o' o'', o''.isFreed = false → (((((s.heap.push (itO t1 a)).push (itO t2 b)).push o).push o').push o'').get? (s.heap.objs.size + 4) = some o'' := fun o o' o'' hf => by rw [← z4 o o']; exact Heap.get?_push_size _ hf
  have g4 : ∀ o o' o'', o'.isFreed = false → (((((s.heap.push (itO t1 a)).push (itO t2 b)).push o).push o').push o'').get? (s.heap.objs.size + 3) = some o' := fun o o' o'' hf => by rw [← z3 o]; exact Heap.get?_push_of_some _ (Heap.get?_push_size _ hf)
  have g3 : ∀ o o' o'', o.isFreed = false → (((((s.heap.push (itO t1 a)).push (itO t2 b)).push o).push o').push o'').get? (s.heap.objs.size + 2) = some o := fun o o' o'' hf => by rw [← z2]; exact Heap.get?_push_of_some _ (Heap.get?_push_of_some _ (Heap.get?_push_size _ hf))
  have g2 : ∀ o o' o'', (((((s.heap.push (itO t1 a)).push (itO t2 b)).push o).push o').push o'').get? (s.heap.objs.size + 1) = some (itO t2 b) := fun o o' o'' => by rw [← z1]; exact Heap.get?_push_of_some _ (Heap.get?_push_of_some _ (Heap.get?_push_of_some _ (Heap.get?_push_size _ rfl)))
  have g1 : ∀ o o' o'', (((((s.heap.push (itO t1 a)).push (itO t2 b)).push o).push o').push o'').get? s.heap.objs.size = some (itO t1 a) := fun o o' o'' => Heap.get?_push_of_some _ (Heap.get?_push_of_some _ (Heap.get?_push_of_some _ (Heap.get?_push_of_some _ (Heap.get?_push_size _ rfl))))
  have g5' := g5 { cls := .type "tuple", data := .seq #[.ref s.heap.objs.size, .ref (s.heap.push (itO t1 a)).objs.size] } { cls := .type "tuple", data := .seq #[.none, .none] } { cls := .type "zip", data := .fields #[.none, .bool false, .bool true, .ref ((s.heap.push (itO t1 a)).push (itO t2 b)).objs.size, .ref (((s.heap.push (itO t1 a)).push (itO t2 b)).push { cls := .type "tuple", data := .seq #[.ref s.heap.objs.size, .ref (s.heap.push (itO t1 a)).objs.size] }).objs.size] } rfl
  have g3' := g3 { cls := .type "tuple", data := .seq #[.ref s.heap.objs.size, .ref (s.heap.push (itO t1 a)).objs.size] } { cls := .type "tuple", data := .seq #[.none, .none] } { cls := .type "zip", data := .fields #[.none, .bool false, .bool true, .ref ((s.heap.push (itO t1 a)).push (itO t2 b)).objs.size, .ref (((s.heap.push (itO t1 a)).push (itO t2 b)).push { cls := .type "tuple", data := .seq #[.ref s.heap.objs.size, .ref (s.heap.push (itO t1 a)).objs.size] }).objs.size] } rfl
  refine ⟨⟨_, g5', rfl⟩, h _ ?_ ?_ (g4 _ _ _ rfl) (g1 _ _ _) (g2 _ _ _) fun c o q => Heap.get?_push_of_some _ (Heap.get?_push_of_some _ (Heap.get?_push_of_some _ (Heap.get?_push_of_some _ (Heap.get?_push_of_some _ q))))⟩
  · have q := g5'
    conv at q => rhs; rw [z2, z3]
    exact q
  · have q := g3'
    conv at q => rhs; rw [z1]
    exact q
end
/-! callWith of a built-in class with keywords -/
section
variable {M : Model} {A : Around} {E : Value → Shared → Prop} {s : Shared} {env : Env}
theorem cw_typeKw {pos : Pos} {T : String} {e : Expr} {rest : List Expr} {kws : List Keyword} {Q : Value → Shared → Prop}
    (h : wpAny M A (spliced (backTo pos (starEach (e :: rest) env))) (fun vs s₁ => wpAny M A (evalAll ((backToKw pos (keywordEach kws env)).map (·.2)))
      (fun kvs s₂ => wpAny M A (call (.type T) vs (((backToKw pos (keywordEach kws env)).filterMap (·.1)).zip kvs)) Q E s₂) E s₁) E s)
    (he : starEach (e :: rest) env = (false, eval e env) :: starEach rest env) (hp : (backTo pos (starEach (e :: rest) env)).any (·.1) = false)
    (ha : (backToKw pos (keywordEach kws env)).all (·.1.isSome) = true) (hk : (backToKw pos (keywordEach kws env)).any (·.1.isNone) = false) :
    wpAny M A (callWith pos (.type T) [] (backTo pos (starEach (e :: rest) env)) (backToKw pos (keywordEach kws env))) Q E s := by
  unfold callWith
  refine wpAny_bind (wpAny_holding (PyProof.Rows.evalArgs_kw2 ha (wpAny_mono h (fun vs s1 h1 => wpAny_mono h1 (fun kvs s2 h2 => wpAny_bind (wpAny_standAt ?_)) fun _ _ x => x) fun _ _ x => x) he))
  simp only [hp, hk, Bool.or_false]
  refine wpAny_bind (wpAny_pure ?_)
  exact wpAny_bind (wpAny_mono h2 (fun r s3 hr => wpAny_bind (wpAny_holding (wpAny_point (wpAny_pure hr)))) fun _ _ x => x)
end
/-! the walk -/
/-- a list (t false) or a tuple (t true) of the heap -/
def SqB (K : PySem.W.Frag) (t : Bool) (H : Hp) (a : Addr) (xs : List V) : Prop := if t = true then SqT K H a xs else SqL K H a xs
def ItS (K : PySem.W.Frag) (t1 t2 : Bool) (a b : Addr) : It :=
  ⟨fun i H => ∃ (xs ys : List V) (x y : V), SqB K t1 H a xs ∧ SqB K t2 H b ys ∧ xs[i]? = some x ∧ ys[i]? = some y,
    fun i H v H' => ∃ T x y, v = .ref T ∧ H T = none ∧ H' = upd H T (.tup [x, y]) ∧ (∀ xs, SqB K t1 H a xs → xs[i]? = some x) ∧ ∀ ys, SqB K t2 H b ys → ys[i]? = some y,
    fun i H => ∃ xs ys : List V, SqB K t1 H a xs ∧ SqB K t2 H b ys ∧ xs.length ≤ i ∧ ys.length ≤ i⟩
def zsB (t : Bool) (it src : Addr) (i : Nat) (h : Heap) : Prop := if t = true then h.IsTupleIter it src i else h.IsListIter it src i
section
variable {X : Cx} {pins : List (Addr × Obj)} {σ : L2.St} {H : Hp} {s : Shared}
theorem sqb_at {t : Bool} {a : Addr} {xs : List V} (I : Inv X pins σ H s) (h : SqB X.K t H a xs) : ∃ its : List Value, Vals xs its ∧ isO t s.heap a its.toArray ∧ a < s.heap.objs.size := by
  cases t with
  | true =>
    obtain ⟨its, rv, p, _⟩ := I.tuple h
    obtain ⟨o, ho, _⟩ := id p
    exact ⟨its, rv, p, Heap.lt_size ho⟩
  | false =>
    obtain ⟨its, rv, p, _⟩ := I.list h
    exact ⟨its, rv, p.isList, p.lt⟩
theorem sqb_inj {t : Bool} {a : Addr} {xs ys : List V} (I : Inv X pins σ H s) (h : SqB X.K t H a xs) (k : SqB X.K t H a ys) : xs = ys := by
  cases t with
  | true => exact I.tuple_inj h k
  | false => exact I.list_inj h k
end
theorem zsrc_B {prog : Program} {w : World} {t : Bool} {it src : Addr} {vs : Array Value} (ne : src ≠ it) : ZSrc prog w it src vs (fun i h => zsB t it src i h ∧ isO t h src vs) := by
  cases t with
  | true => exact zsrc_T ne
  | false => exact zsrc_L ne
theorem zsB_at {t : Bool} {it src : Addr} {i : Nat} {h h' : Heap} (x : zsB t it src i h) (e : ∀ o, h.get? it = some o → h'.get? it = some o) : zsB t it src i h' := by
  cases t with
  | true => exact Heap.IsTupleIter.at x e
  | false => exact Heap.IsListIter.at x e
theorem zsB_obj {t : Bool} {it src : Addr} {i : Nat} {h : Heap} (x : zsB t it src i h) : ∃ o, h.get? it = some o ∧ ∀ v, o.data ≠ .cell v := by
  cases t with
  | true => obtain ⟨o, e, _, d⟩ := x; exact ⟨o, e, fun v q => by rw [d] at q; cases q⟩
  | false => obtain ⟨o, e, _, d⟩ := x; exact ⟨o, e, fun v q => by rw [d] at q; cases q⟩
theorem turn_zs {P : Program} {w : World} {K : PySem.W.Frag} {elts : List Expr} {kk : Nat} {tpos : Pos} {t1 t2 : Bool} {a b z TI TO i1 i2 : Addr} (D : ZipApart z TI TO i1 i2 a b) :
    Turn P w K (.Tuple elts kk tpos) (ItS K t1 t2 a b) [z, TI, TO, i1, i2] z (fun i h => ZipS h z TI TO .none ∧ IsPair h TI (.ref i1) (.ref i2) ∧ (∃ x y, IsPair h TO x y) ∧ zsB t1 i1 a i h ∧ zsB t2 i2 b i h) where
  mem := by simp
  obj := fun i h st c hc => by
    obtain ⟨hz, hTI, ⟨x, y, hTO⟩, h1, h2⟩ := st
    simp only [List.mem_cons, List.not_mem_nil, or_false] at hc
    rcases hc with rfl | rfl | rfl | rfl | rfl
    · exact ⟨_, hz, fun v q => nomatch q⟩
    · exact ⟨_, hTI, fun v q => nomatch q⟩
    · exact ⟨_, hTO, fun v q => nomatch q⟩
    · exact zsB_obj h1
    · exact zsB_obj h2
  keep := fun i h h' st k => by
    obtain ⟨hz, hTI, ⟨x, y, hTO⟩, h1, h2⟩ := st
    exact ⟨k z (by simp) _ hz, k TI (by simp) _ hTI, ⟨x, y, k TO (by simp) _ hTO⟩, zsB_at h1 fun o q => k i1 (by simp) o q, zsB_at h2 fun o q => k i2 (by simp) o q⟩
  item := by
    intro X hP hw hK hc i pins s σ H E I hf st hg
    subst hP hw hK
    obtain ⟨hz, hTI, ⟨x0, y0, hTO⟩, h1, h2⟩ := st
    obtain ⟨xs, ys, x, y, hqx, hqy, hx, hy⟩ := hg
    obtain ⟨its, rv, p, _⟩ := sqb_at I hqx
    obtain ⟨its2, rv2, p2, _⟩ := sqb_at I hqy
    obtain ⟨u, hu, ru⟩ := rv.get hx
    obtain ⟨u2, hu2, ru2⟩ := rv2.get hy
    have hzl : z < s.heap.objs.size := Heap.lt_size hz
    refine pyNext_zs_item D (zsrc_B D.l1i1) (zsrc_B D.l2i2) hz hTI hTO ⟨h1, p⟩ ⟨h2, p2⟩ (x := u) (y := u2) (by simpa using hu) (by simpa using hu2) fun h' z' TO' h1' h2' hT hsz hk => ?_
    refine ⟨_, rfl, letGo_zs (s := { s with heap := h' }) z' fun h'' z'' sb => ?_⟩
    have hT2 : h''.get? s.heap.objs.size = some { cls := .type "tuple", data := .seq #[u, u2] } := (sb.2 _ (Nat.ne_of_gt hzl)).trans hT
    have new : ObjOk X.prog X.w (upd H s.heap.objs.size (.tup [x, y])) h'' s.heap.objs.size (.tup [x, y]) := ⟨by show 2 ≤ sizeLine; decide, [u, u2], .cons ru (.cons ru2 .nil), ⟨_, hT2, rfl, _, rfl⟩⟩
    have all : ∀ c o, c ∉ [z, TI, TO, i1, i2] → s.heap.get? c = some o → h''.get? c = some o := fun c o hb q => by
      simp only [List.mem_cons, List.not_mem_nil, or_false, not_or] at hb
      exact (sb.2 c hb.1).trans (hk c o hb.1 hb.2.2.1 hb.2.2.2.1 hb.2.2.2.2 q)
    have I1 : Inv X pins σ (upd H s.heap.objs.size (.tup [x, y])) { s with heap := h'' } := I.turnedNew (t' := s.toks) (ch := [z, TI, TO, i1, i2]) all hf (Nat.le_refl _) new
    refine ⟨.ref s.heap.objs.size, _, I1, rfl, ⟨_, x, y, rfl, I.hok.fresh (Nat.le_refl _), rfl, fun l hl => by rw [sqb_inj I hl hqx]; exact hx, fun l hl => by rw [sqb_inj I hl hqy]; exact hy⟩, ⟨z'', ?_, ⟨u, u2, ?_⟩, ?_, ?_⟩, fun c hcm => ?_⟩
    · exact (sb.2 _ D.TIz).trans (hk _ _ D.TIz D.TITO D.TIi1 D.TIi2 hTI)
    · exact (sb.2 _ D.TOz).trans TO'
    · exact zsB_at h1'.1 fun o q => (sb.2 _ D.i1z).trans q
    · exact zsB_at h2'.1 fun o q => (sb.2 _ D.i2z).trans q
    · have hlt : c < s.heap.objs.size := by
        simp only [List.mem_cons, List.not_mem_nil, or_false] at hcm
        rcases hcm with rfl | rfl | rfl | rfl | rfl
        · exact hzl
        · exact Heap.lt_size hTI
        · exact Heap.lt_size hTO
        · obtain ⟨_, e, _⟩ := zsB_obj h1; exact Heap.lt_size e
        · obtain ⟨_, e, _⟩ := zsB_obj h2; exact Heap.lt_size e
      rw [upd_ne (Nat.ne_of_lt hlt)]
      exact (hf c hcm).1
  done := by
    intro X hP hw hK hc i pins s σ H E I hf st hg
    subst hP hw hK
    obtain ⟨hz, hTI, ⟨x0, y0, hTO⟩, h1, h2⟩ := st
    obtain ⟨xs, ys, hqx, hqy, n1, n2⟩ := hg
    obtain ⟨its, rv, p, _⟩ := sqb_at I hqx
    obtain ⟨its2, rv2, p2, _⟩ := sqb_at I hqy
    have l1 := rv.length
    have l2 := rv2.length
    exact pyNext_zs_stop (I.ok.hd hc) D (zsrc_B D.l1i1) (zsrc_B D.l2i2) hz hTI hTO ⟨h1, p⟩ ⟨h2, p2⟩ (by simp; omega) (by simp; omega) fun h' hk => ⟨rfl, I.turnedL (t' := s.toks) (ch := [z, TI, TO, i1, i2]) (fun c o hb q => by
      simp only [List.mem_cons, List.not_mem_nil, or_false, not_or] at hb
      exact hk c o hb.1 hb.2.2.1 hb.2.2.2.1 hb.2.2.2.2 q) hf⟩
  self := fun A i s Q E st h => iter_zs st.1 h
def iZipS (K : PySem.W.Frag) (t1 t2 : Bool) (ta tk : TA) : TI := fun σ H R => ta σ H fun vs H1 => tk σ H1 fun zs H2 => ∃ a b xs ys, zs = [.bl true] ∧ vs = [.ref a, .ref b] ∧ SqB K t1 H2 a xs ∧ SqB K t2 H2 b ys ∧ R (ItS K t1 t2 a b) H2
theorem pi_zipS {X : Cx} (t1 t2 : Bool) {e e2 : Expr} {ta tk : TA} {p pos tpos : Pos} {elts : List Expr} {kk : Nat} {kws : List Keyword} (hg : Gl X "zip") (hm : X.mg "zip" = none) (ha : PA X [e, e2] ta) (hk : PK X kws tk)
    (hs : starEach [e, e2] X.env = (false, eval e X.env) :: starEach [e2] X.env := by rfl) (hpl : (backTo pos (starEach [e, e2] X.env)).any (·.1) = false := by rfl)
    (hall : (backToKw pos (keywordEach kws X.env)).all (·.1.isSome) = true := by rfl) (hnone : (backToKw pos (keywordEach kws X.env)).any (·.1.isNone) = false := by rfl) (hks : (backToKw pos (keywordEach kws X.env)).filterMap (·.1) = [Str.ofString "strict"] := by rfl) :
    PI X (.Tuple elts kk tpos) (.Call (.Name "zip" p) [e, e2] kws pos) (iZipS X.K t1 t2 ta tk) := by
  refine ⟨fun pins s σ H R I h => ?_⟩
  refine wpAny_Call_Name_kw (ld_blt I hg hm PyProof.Rows.boot_zip ?_)
  refine cw_typeKw (thn (ha.run pos pins s σ H _ I h) fun us s1 ⟨vs, H1, I1, r1, q1⟩ => thn (hk.run pos pins s1 σ H1 _ I1 q1) fun ws s2 ⟨zs, H2, I2, r2, q2⟩ => ?_) hs hpl hall hnone
  rw [hks]
  obtain ⟨a, b, xs, ys, rfl, rfl, hqx, hqy, q⟩ := q2
  obtain ⟨w1, rfl, e1⟩ := vals1 r2
  obtain rfl : w1 = Value.bool true := e1
  obtain ⟨u1, u2, rfl, c1, c2⟩ := vals2 r1
  cases c1
  cases c2
  have fresh5 : ∀ c, c ∈ [s2.heap.objs.size + 4, s2.heap.objs.size + 2, s2.heap.objs.size + 3, s2.heap.objs.size, s2.heap.objs.size + 1] → FpOk X pins H2 c := fun c hcm => by
    have hle : s2.heap.objs.size ≤ c := by
      simp only [List.mem_cons, List.not_mem_nil, or_false] at hcm
      rcases hcm with rfl | rfl | rfl | rfl | rfl <;> exact (by first | exact Nat.le_refl _ | exact Nat.le_add_right _ _)
    exact I2.fpOk hle (I2.hok.fresh hle)
  obtain ⟨its, rv, p1, l1⟩ := sqb_at I2 hqx
  obtain ⟨its2, rv2, p2, l2⟩ := sqb_at I2 hqy
  refine call_zs p1 p2 fun h' hz hTI hTO g1 g2 hk => iter_zs hz ?_
  have I3 : Inv X pins σ H2 { s2 with heap := h' } := I2.kept (t' := s2.toks) hk
  refine ⟨s2.heap.objs.size + 4, [s2.heap.objs.size + 4, s2.heap.objs.size + 2, s2.heap.objs.size + 3, s2.heap.objs.size, s2.heap.objs.size + 1], _, _, H2, rfl, I3, turn_zs (t1 := t1) (t2 := t2) (PySem.W.ktu_apart s2.heap.objs.size a b l1 l2), ⟨hz, hTI, ⟨_, _, hTO⟩, ?_, ?_⟩, fresh5, q⟩
  · cases t1 with
    | true => exact ⟨_, g1, rfl, rfl⟩
    | false => exact ⟨_, g1, rfl, rfl⟩
  · cases t2 with
    | true => exact ⟨_, g2, rfl, rfl⟩
    | false => exact ⟨_, g2, rfl, rfl⟩
theorem walk_zs {K : PySem.W.Frag} {t1 t2 : Bool} {a b : Addr} {xs ys : List V} (hl : xs.length = ys.length) : Walk (ItS K t1 t2 a b) xs.length (fun H => SqB K t1 H a xs ∧ SqB K t2 H b ys) (fun i H v H' => ∃ T x y, v = .ref T ∧ H T = none ∧ H' = upd H T (.tup [x, y]) ∧ xs[i]? = some x ∧ ys[i]? = some y) := by
  refine ⟨fun i _ hi q => ⟨xs, ys, xs[i], ys[i]'(by omega), q.1, q.2, by simp [hi], by simp [show i < ys.length by omega]⟩, fun _ q => ⟨xs, ys, q.1, q.2, Nat.le_refl _, by omega⟩, fun i H v H' _ q w => ?_⟩
  obtain ⟨T, x, y, h1, h2, h3, h4, h5⟩ := w
  exact ⟨T, x, y, h1, h2, h3, h4 xs q.1, h5 ys q.2⟩

/-! ### enumerate(t), t a tuple -/
set_option maxHeartbeats 1000000 in
theorem meets_enumT (a : Addr) (xs : Array Value) : Meets (Builtin.«enumerate.__new__» ⟨[.type "enumerate", .ref a], []⟩) (fun _ R s => s.heap.IsTuple a xs ∧
    R (.ok (.ret (.ref (s.heap.objs.size + 1)))) { s with heap := (s.heap.push { cls := .type "tuple_iterator", data := .fields #[.ref a, .int 0 0] }).push { cls := .type "enumerate", data := .fields #[.none, .bool false, .ref s.heap.objs.size, rawInt 0, .none, .none] } }) :=
  .of_wp fun prog w A R s h => by
    obtain ⟨hp, g, d, tk, os⟩ := s
    obtain ⟨h1, h⟩ := h
    have hsub := sub_enumerate
    have e : ∀ o : Obj, (hp.push o).objs.size = hp.objs.size + 1 := fun _ => Heap.size_push ..
    have k1 : ∀ {A' : Around} {E : Value → Shared → Prop} {Q : Value → Shared → Prop}, Q (.ref hp.objs.size) ⟨hp.push { cls := .type "tuple_iterator", data := .fields #[.ref a, .int 0 0] }, g, d, tk, os⟩ → wpAny (model prog w) A' (pyIter (.ref a)) Q E ⟨hp, g, d, tk, os⟩ := fun q => wpAny_pyIter_tuple (s := ⟨hp, g, d, tk, os⟩) h1 q
    wp_walk using k1
    refine wpAny_stack_any fun st => wpAny_pure ?_
    split
    · rename_i c _ _ _ _ _
      cases (c == Value.type "enumerate")
      · wp_walk using k1
        exact ⟨.ref (hp.objs.size + 1), congrArg (fun n => PySem.Fin.done (Flow.ret (Value.ref n))) (e _), h⟩
      · wp_walk using k1
        exact ⟨.ref (hp.objs.size + 1), congrArg (fun n => PySem.Fin.done (Flow.ret (Value.ref n))) (e _), h⟩
    · wp_walk using k1
      exact ⟨.ref (hp.objs.size + 1), congrArg (fun n => PySem.Fin.done (Flow.ret (Value.ref n))) (e _), h⟩
theorem call_enumT {prog : Program} {w : World} {A : Around} {E : Value → Shared → Prop} {s : Shared} {a : Addr} {xs : Array Value} {Q : Value → Shared → Prop} (hL : s.heap.IsTuple a xs)
    (h : ∀ h', IsEnum h' (s.heap.objs.size + 1) s.heap.objs.size 0 .none → h'.IsTupleIter s.heap.objs.size a 0 → (∀ b o, s.heap.get? b = some o → h'.get? b = some o) → Q (.ref (s.heap.objs.size + 1)) { s with heap := h' }) :
    wpAny (model prog w) A (call (.type "enumerate") [.ref a]) Q E s := by
  refine callType_new F.called_enumerate (by decide) (F.typeCall_enumerate_1 _) (F.newCall_enumerate_1 _) (fun obj => F.args_object_init_2 obj _) F.entry_enumerate_new (meets_enumT a xs) ⟨hL, ?_⟩
  have z : (s.heap.push { cls := .type "tuple_iterator", data := .fields #[.ref a, .int 0 0] }).objs.size = s.heap.objs.size + 1 := Heap.size_push ..
  have he : IsEnum ((s.heap.push { cls := .type "tuple_iterator", data := .fields #[.ref a, .int 0 0] }).push { cls := .type "enumerate", data := .fields #[.none, .bool false, .ref s.heap.objs.size, rawInt 0, .none, .none] }) (s.heap.objs.size + 1) s.heap.objs.size 0 .none := by
    rw [← z]
    exact Heap.get?_push_size _ rfl
  exact ⟨⟨_, he, rfl⟩, h _ he ⟨_, Heap.get?_push_of_some _ (Heap.get?_push_size _ rfl), rfl, rfl⟩ fun b o q => Heap.get?_push_of_some _ (Heap.get?_push_of_some _ q)⟩
def IteT (K : PySem.W.Frag) (a : Addr) : It :=
  ⟨fun i H => ∃ (xs : List V) (x : V), SqT K H a xs ∧ xs[i]? = some x, fun i H v H' => ∃ T x, v = .ref T ∧ H T = none ∧ H' = upd H T (.tup [.int (i : Nat), x]) ∧ ∀ xs, SqT K H a xs → xs[i]? = some x, fun i H => ∃ xs : List V, SqT K H a xs ∧ xs.length = i⟩
theorem turn_enumT {P : Program} {w : World} {K : PySem.W.Frag} {elts : List Expr} {kk : Nat} {tpos : Pos} (a e it : Addr) :
    Turn P w K (.Tuple elts kk tpos) (IteT K a) [e, it] e (fun i h => (∃ old, IsEnum h e it ((i : Nat) : Int) old) ∧ h.IsTupleIter it a i ∧ e ≠ it ∧ a ≠ it ∧ a ≠ e) where
  mem := by simp
  obj := fun i h st b hb => by
    obtain ⟨⟨old, he⟩, ⟨o, ho, hc, hd⟩, _⟩ := st
    simp only [List.mem_cons, List.not_mem_nil, or_false] at hb
    rcases hb with rfl | rfl
    · exact ⟨_, he, fun v q => nomatch q⟩
    · exact ⟨o, ho, fun v q => by rw [hd] at q; cases q⟩
  keep := fun i h h' st k => let ⟨⟨old, he⟩, hi, hne⟩ := st; ⟨⟨old, k e (by simp) _ he⟩, hi.at fun o q => k it (by simp) o q, hne⟩
  item := by
    intro X hP hw hK hc i pins s σ H E I hf st hg
    subst hP hw hK
    obtain ⟨⟨old, he⟩, hit, hne, hai, hae⟩ := st
    obtain ⟨xs, x, hq, hx⟩ := hg
    obtain ⟨its, rv, p, hz⟩ := I.tuple hq
    obtain ⟨u, hu, ru⟩ := rv.get hx
    have hel : e < s.heap.objs.size := Heap.lt_size he
    have hil : it < s.heap.objs.size := by obtain ⟨_, q, _⟩ := hit; exact Heap.lt_size q
    have hlt : i < its.toArray.size := by
      have q := (List.getElem?_eq_some_iff.mp hu).1
      simpa using q
    refine wpAny_pyNext_enum_itemC (Draws.tuple (prog := X.prog) (w := X.w) (A := X.A.in1) (I.ok.hd hc) it a hai its.toArray) he ⟨hit, p⟩ hlt hne ?_ fun x' h' tk hP ho hst hT hsz hk => ?_
    · intro hm
      simp only [List.mem_cons, List.not_mem_nil, or_false] at hm
      rcases hm with q | q
      · exact hne q
      · exact hae q.symm
    obtain rfl : x' = u := by
      rw [List.getElem?_toArray, hu] at hP
      exact (Option.some.inj hP).symm
    refine ⟨_, rfl, wpAny_letOwnedTupleGo_enum (s := { s with heap := h', toks := tk + 1 }) ho fun h2 he2 sb => ?_⟩
    have hT2 : h2.get? s.heap.objs.size = some { cls := .type "tuple", data := .seq #[.int i tk, x'] } := (sb.2 _ (Nat.ne_of_gt hel)).trans hT
    have new : ObjOk X.prog X.w (upd H s.heap.objs.size (.tup [.int (i : Nat), x])) h2 s.heap.objs.size (.tup [.int (i : Nat), x]) := ⟨by show 2 ≤ sizeLine; decide, [.int i tk, x'], .cons ⟨_, rfl⟩ (.cons ru .nil), ⟨_, hT2, rfl, _, rfl⟩⟩
    have all : ∀ b ob, b ∉ [e, it] → s.heap.get? b = some ob → h2.get? b = some ob := fun b ob hb q => by
      simp only [List.mem_cons, List.not_mem_nil, or_false, not_or] at hb
      exact (sb.2 b hb.1).trans (hk b ob hb.1 hb.2 q)
    have I1 : Inv X pins σ (upd H s.heap.objs.size (.tup [.int (i : Nat), x])) { s with heap := h2, toks := tk + 1 } := I.turnedNew (ch := [e, it]) all hf (Nat.le_refl _) new
    refine ⟨.ref s.heap.objs.size, _, I1, rfl, ⟨_, x, rfl, I.hok.fresh (Nat.le_refl _), rfl, fun ys hy => by rw [I.tuple_inj hy hq]; exact hx⟩, ⟨⟨x', ?_⟩, hst.1.at fun o q => (sb.2 it (Ne.symm hne)).trans q, hne, hai, hae⟩, fun b hb => ?_⟩
    · rw [show ((i + 1 : Nat) : Int) = (i : Int) + 1 by omega]
      exact he2
    · have hb' : b < s.heap.objs.size := by
        simp only [List.mem_cons, List.not_mem_nil, or_false] at hb
        rcases hb with rfl | rfl
        · exact hel
        · exact hil
      rw [upd_ne (Nat.ne_of_lt hb')]
      exact (hf b hb).1
  done := by
    intro X hP hw hK hc i pins s σ H E I hf st hg
    subst hP hw hK
    obtain ⟨⟨old, he⟩, hit, hne, hai, hae⟩ := st
    obtain ⟨xs, hq, hx⟩ := hg
    obtain ⟨its, rv, p, hz⟩ := I.tuple hq
    obtain ⟨f0, f1, f2, f3, f4, f5⟩ := hf it (by simp)
    have hl := rv.length
    have hT : s.TypeIs (.ref e) "enumerate" := ⟨_, he, rfl⟩
    unfold pyNext
    refine wpAny_bind (wpAny_attempt (wpAny_callSpecial?_slot (name := Str.ofString "__next__") hT F.slot_enumerate_next (wpAny_call_entry F.slot_enumerate_next hT F.entry_enumerate_next ?_ (F.args_enumerate_next_1 _))))
    show wpAny _ _ (field (.ref e) 2 >>= _) _ _ _
    refine wpAny_bind (wpAny_field he rfl (x := .ref it) rfl ?_)
    refine wpAny_bind (RZ.nextOf_tuple_end (I.ok.hd hc) hit p (by simp; omega) fun h' x eb ⟨o, ho, hcl⟩ => ?_)
    refine wpAny_bind (wpAny_isInstance (T := "StopIteration") (b := true) ⟨o, ho, hcl⟩ isSubtype_stop ?_)
    exact wpAny_pure ⟨rfl, I.turned (t' := s.toks) (fun b o hb q => eb b o hb q) f0 f1 f3 f4 f5⟩
  self := fun A i s Q E st h => let ⟨⟨_, he⟩, _⟩ := st; wpAny_pyIter_enum he h
def iEnumT (K : PySem.W.Frag) (ta : TA) : TI := fun σ H R => ta σ H fun vs H1 => ∃ a xs, vs = [.ref a] ∧ SqT K H1 a xs ∧ R (IteT K a) H1
theorem pi_enumT {X : Cx} {e : Expr} {ta : TA} {p pos tpos : Pos} {elts : List Expr} {kk : Nat} (hg : Gl X "enumerate") (hm : X.mg "enumerate" = none) (ha : PA X [e] ta) (hs : starEach [e] X.env = [(false, eval e X.env)] := by rfl) :
    PI X (.Tuple elts kk tpos) (.Call (.Name "enumerate" p) [e] [] pos) (iEnumT X.K ta) := by
  refine ⟨fun pins s σ H R I h => ?_⟩
  refine wpAny_Call_Name_kw (ld_blt I hg hm PyProof.Rows.boot_enumerate (PyProof.Rows.callWith_type1 (thn (ha.run pos pins s σ H _ I h) fun us s1 ⟨vs, H1, I1, r1, q1⟩ => ?_) hs rfl))
  obtain ⟨a, xs, rfl, hq, q⟩ := q1
  obtain ⟨u, rfl, ru⟩ := vals1 r1
  obtain rfl : u = Value.ref a := ru
  obtain ⟨its, rv, p', hz⟩ := I1.tuple hq
  have lt : a < s1.heap.objs.size := by obtain ⟨o, ho, _⟩ := id p'; exact Heap.lt_size ho
  refine call_enumT (xs := its.toArray) p' fun h' he hit hk => wpAny_pyIter_enum he ?_
  have I2 : Inv X pins σ H1 { s1 with heap := h' } := I1.kept (t' := s1.toks) hk
  refine ⟨s1.heap.objs.size + 1, [s1.heap.objs.size + 1, s1.heap.objs.size], _, _, H1, rfl, I2, turn_enumT a (s1.heap.objs.size + 1) s1.heap.objs.size, ⟨⟨.none, he⟩, hit, Nat.succ_ne_self _, Nat.ne_of_lt lt, Nat.ne_of_lt (Nat.lt_succ_of_lt lt)⟩, fun b hb => ?_, q⟩
  have hle : s1.heap.objs.size ≤ b := by
    simp only [List.mem_cons, List.not_mem_nil, or_false] at hb
    rcases hb with rfl | rfl
    · exact Nat.le_add_right _ _
    · exact Nat.le_refl _
  exact I1.fpOk hle (I1.hok.fresh hle)
theorem walk_enumT {K : PySem.W.Frag} {a : Addr} {xs : List V} : Walk (IteT K a) xs.length (fun H => SqT K H a xs) (fun i H v H' => ∃ T x, v = .ref T ∧ H T = none ∧ H' = upd H T (.tup [.int (i : Nat), x]) ∧ xs[i]? = some x) := by
  refine ⟨fun i _ hi q => ⟨xs, xs[i], q, by simp [hi]⟩, fun _ q => ⟨xs, q, rfl⟩, fun i H v H' _ q y => ?_⟩
  obtain ⟨T, x, h1, h2, h3, h4⟩ := y
  exact ⟨T, x, h1, h2, h3, h4 xs q⟩

/-! ### sorted(xs, key=f), f an own def that gives ints: the rule -/
section
variable {prog : Program} {w : World} {A : Around} {E : Value → Shared → Prop} {s : Shared} {a kS : Addr} {vs : List Value} {kz : List Int} {keys : Array Value} {e e1 : Nat} {P : PySem.Fin → Shared → Prop}
open PyProof.Rows
theorem keys_tail {st : SortSt} (ok : s.heap.get? kS = some (seqObj "list" keys e)) (oa : s.heap.get? a = some (seqObj "list" #[] e1)) (hka : kS ≠ a) (hk : IntsAre keys.toList kz) (hlen : kz.length = vs.length) (h64 : vs.length < 64)
    (hp : (arrOf st).Perm (keys.zip vs.toArray)) (hs : SortedTo (arrOf st) (arrOf st).size) (hfl : failedOf st = none)
    (h : ∀ h' out c, (∀ b o, b ≠ a → b ≠ kS → s.heap.get? b = some o → h'.get? b = some o) → h'.get? a = some (seqObj "list" out c) → h'.objs.size = s.heap.objs.size → KskOut false kz vs out.toList → P (.done (.ret .none)) { s with heap := h' }) :
    wpAny (model prog w) A (ksk_tail a false e1 (.ref kS) st) P E s := by
  have n1 : keys.size = vs.length := by
    have q := hk.length
    rw [Array.length_toList] at q
    omega
  have n2 : (arrOf st).size = vs.length := by rw [hp.size_eq, Array.size_zip, n1, List.size_toArray, Nat.min_self]
  have u1 := Heap.SameBut.update s.heap kS (Obj.mapSeq fun _ => (#[] : Array Value))
  have oa1 : (s.heap.update kS (Obj.mapSeq fun _ => (#[] : Array Value))).get? a = some (seqObj "list" #[] e1) := (u1.2 a hka.symm).trans oa
  have u2 := Heap.SameBut.update (s.heap.update kS (Obj.mapSeq fun _ => (#[] : Array Value))) a (Obj.mapSeq fun _ => (arrOf st).map (·.2))
  have oa2 := get?_update_seq oa1 fun _ => (arrOf st).map (·.2)
  unfold ksk_tail
  dsimp only
  refine wpAny_bind (listUpdate_at ok rfl ?_ (by rw [n1, sizeLine_eq]; omega) (Nat.zero_le _))
  refine wpAny_bind (wpAny_letGo (wpAny_bind (seqEpoch_at oa1 rfl ?_)))
  simp only [Bool.false_eq_true, if_false]
  refine wpAny_bind (listUpdate_at oa1 rfl ?_ (Nat.zero_le _) (by rw [Array.size_map, n2, sizeLine_eq]; omega))
  rw [hfl]
  simp only [bne_self_eq_false, Bool.false_eq_true, if_false]
  exact wpAny_pure (h _ _ _ (fun b o b1 b2 q => (u2.2 b b1).trans ((u1.2 b b2).trans q)) oa2 (by rw [u2.1, u1.1]) (by simpa using ksk_out (b := false) hk hp hs))
theorem keys_end (ok : s.heap.get? kS = some (seqObj "list" keys e)) (oa : s.heap.get? a = some (seqObj "list" #[] e1)) (hka : kS ≠ a) (hk : IntsAre keys.toList kz) (hlen : kz.length = vs.length) (h64 : vs.length < 64)
    (h : ∀ h' out c, (∀ b o, b ≠ a → b ≠ kS → s.heap.get? b = some o → h'.get? b = some o) → h'.get? a = some (seqObj "list" out c) → h'.objs.size = s.heap.objs.size → KskOut false kz vs out.toList → P (.done (.ret .none)) { s with heap := h' }) :
    wpAny (model prog w) A (ksk_end a false vs.toArray e1 (.ref kS) keys) P E s := by
  have n1 : keys.size = vs.length := by
    have q := hk.length
    rw [Array.length_toList] at q
    omega
  have nz : (keys.zip vs.toArray).size = vs.length := by rw [Array.size_zip, n1, List.size_toArray, Nat.min_self]
  unfold ksk_end
  simp only [Bool.false_eq_true, if_false]
  by_cases h2 : vs.toArray.size < 2
  · rw [if_pos h2, if_pos h2]
    refine wpAny_bind (wpAny_pure ?_)
    rw [StateT.run_pure]
    refine wpAny_bind (wpAny_pure ?_)
    refine keys_tail (st := SortSt.mk' general' (keys.zip vs.toArray) #[] 7 none) ok oa hka hk hlen h64 (Array.Perm.refl _) (fun i j hij hj => ?_) rfl h
    have hj2 : j < (keys.zip vs.toArray).size := hj
    rw [nz] at hj2
    rw [List.size_toArray] at h2
    obtain rfl : i = j := by omega
    exact Int.le_refl _
  · rw [if_neg h2, if_neg h2]
    rw [List.size_toArray] at h2
    rw [ksk_kind hk (by rw [n1]; omega)]
    refine wpAny_bind (wpAny_pure ?_)
    refine wpAny_bind (wpAny_mono (wpS_sortRuns (a₀ := keys.zip vs.toArray) (st := SortSt.mk' oneType' (keys.zip vs.toArray) #[] 7 none)
      (Q := fun _ st' => (arrOf st').Perm (keys.zip vs.toArray) ∧ failedOf st' = none ∧ SortedTo (arrOf st') (keys.zip vs.toArray).size)
      (ksk_intKeys hk) ⟨Array.Perm.refl _, rfl, rfl, rfl⟩ (by rw [nz]; omega) (by rw [nz]; exact h64) fun st' a1 a2 a3 => ⟨a1, a2, a3⟩) ?_ fun _ _ z => z)
    rintro ⟨⟨⟩, st'⟩ s' ⟨rfl, hp, hf, hs⟩
    exact keys_tail ok oa hka hk hlen h64 hp (by rw [hp.size_eq]; exact hs) hf h
end
theorem paired_perm {α β : Type} {F : α → β → Prop} {n n' : List β} (h : n.Perm n') : ∀ {m : List α}, Paired F m n → ∃ m', m'.Perm m ∧ Paired F m' n' := by
  induction h with
  | nil => intro m p; exact ⟨m, List.Perm.refl _, p⟩
  | cons x _ ih =>
    intro m p
    cases p with
    | cons r t =>
      obtain ⟨m', h1, h2⟩ := ih t
      exact ⟨_ :: m', h1.cons _, .cons r h2⟩
  | swap x y l =>
    intro m p
    cases p with
    | cons r t =>
      cases t with
      | cons r2 t2 => exact ⟨_, List.Perm.swap .., .cons r2 (.cons r t2)⟩
  | trans _ _ ih1 ih2 =>
    intro m p
    obtain ⟨m1, h1, p1⟩ := ih1 p
    obtain ⟨m2, h2, p2⟩ := ih2 p1
    exact ⟨m2, h2.trans h1, p2⟩
theorem paired_zip {kz : List Int} : ∀ {ks : List Int} {xs : List V} {vs : List Value}, Vals xs vs → Paired (fun (p : Int × V) (q : Int × Value) => p.1 = q.1 ∧ RelV p.2 q.2) (ks.zip xs) (ks.zip vs)
  | [], _, _, _ => .nil
  | _ :: _, _, _, .nil => .nil
  | _ :: _, _, _, .cons r t => .cons ⟨rfl, r⟩ (paired_zip (kz := kz) t)
/-- what is asked: a walk of the keys, J behind each; then the list in the keys' order -/
def rSortK (K : PySem.W.Frag) (f : Addr) (sp : Sp) : List V → List V → Hp → VK → Prop := fun vs zs H Q => ∃ (l : Addr) (xs : List V) (kz : List Int) (J : Nat → Hp → Prop), vs = [.ref l] ∧ zs = [.ref f] ∧ SqL K H l xs ∧ kz.length = xs.length ∧ xs.length < 64 ∧ J 0 H ∧
  (∀ i x k H', xs[i]? = some x → kz[i]? = some k → J i H' → sp [x] H' (fun v H2 => v = .int k ∧ J (i + 1) H2) E0) ∧
  ∀ (ps : List (Int × V)) (p : Addr) (H' : Hp), J xs.length H' → ps.Perm (kz.zip xs) → ps.Pairwise (fun a b => a.1 ≤ b.1) → H' p = none → Q (.ref p) (upd H' p (.lst (ps.map Prod.snd)))
section
variable {X : Cx}
open PyProof.Rows
theorem run_key {CX : CXT} {k : Nat} {f : Addr} {fd : FuncData} {ps : List Str} {sp : Sp} {pins : List (Addr × Obj)} {σ : L2.St} {H : Hp} {s : Shared} {Q : VK} {u : Value} {v : V} {A' : Around} (F : FnOk X.prog X.w X.K X.mg X.base CX0 k f fd ps sp) (hr : Room k A') (hf : A'.frames = X.A.frames)
    (hb : Binds X.K fd ps []) (I : Inv X pins σ H s) (r : RelV v u) (h : sp [v] H Q E0) : wpAny (model X.prog X.w) A' (call (.ref f) [u]) (EP X pins σ Q) (fun _ _ => False) s := by
  have r2 : Vals [v] [u] := .cons r .nil
  have hl : ([u] ++ ([] : List Value)).length = ps.length := F.len _ _ _ _ h
  have e0 := I.env0
  refine wpAny_call (codeAny_mono (F.run A' X.stack s H ⟨[u], []⟩ [u] [v] Q E0 hr ⟨hf.trans e0.frames, e0.mod, e0.bs, e0.bsz, e0.funs, e0.frf, e0.hok, e0.bare⟩ (hb s [u] I.kIn hl) r2 h) fun r s' hq => ?_)
  cases r with
  | error e => exact False.elim hq
  | ok fl =>
    cases fl with
    | ret u => exact I.after hq
    | next => exact False.elim hq
    | brk => exact False.elim hq
    | cont => exact False.elim hq
theorem ints_snoc {n : Int} {t : Tok} {us : List Value} {ns : List Int} (h : IntsAre us ns) : IntsAre (us ++ [.int n t]) (ns ++ [n]) := ksk_snoc h
theorem seq_nocell {T : String} {ks : Array Value} {c : Nat} : ∀ v, (seqObj T ks c).data ≠ .cell v := fun v q => by cases q
theorem keys_rest {k : Nat} {f : Addr} {fd : FuncData} {ps : List Str} {sp : Sp} {pins : List (Addr × Obj)} {σ : L2.St} {H : Hp} {s : Shared} {A' : Around} {a kS : Addr} {vs : List Value} {xs : List V} {kz : List Int} {e1 : Nat} {J : Nat → Hp → Prop} {P : PySem.Fin → Shared → Prop} {E : Value → Shared → Prop}
    (F : FnOk X.prog X.w X.K X.mg X.base CX0 k f fd ps sp) (hr : Room k A') (hf : A'.frames = X.A.frames) (hb : Binds X.K fd ps []) (I : Inv X pins σ H s) (ok : s.heap.get? kS = some (seqObj "list" #[] 0)) (oa : s.heap.get? a = some (seqObj "list" #[] e1))
    (fk : FpOk X pins H kS) (fa : FpOk X pins H a) (hka : kS ≠ a) (rv : Vals xs vs) (hlen : kz.length = xs.length) (h64 : xs.length < 64) (j0 : J 0 H)
    (step : ∀ i x k H', xs[i]? = some x → kz[i]? = some k → J i H' → sp [x] H' (fun v H2 => v = .int k ∧ J (i + 1) H2) E0)
    (h : ∀ H' s' out c, Inv X pins σ H' s' → s'.heap.get? a = some (seqObj "list" out c) → H' a = none → J xs.length H' → KskOut false kz vs out.toList → P (.done (.ret .none)) s') :
    wpAny (model X.prog X.w) A' (ksk_rest a (.ref f) false vs.toArray e1 (.ref kS)) P E s := by
  have lv : xs.length = vs.length := rv.length
  unfold ksk_rest
  refine wpAny_bind (wpAny_rule ?_)
  rw [List.forIn_toArray]
  refine wpAny_bind (ksk_fold (fun i s' => ∃ H' kA e, Inv X ((kS, seqObj "list" kA e) :: (a, seqObj "list" #[] e1) :: pins) σ H' s' ∧ IntsAre kA.toList (kz.take i) ∧ J i H') vs 0 s ?st ?stp ?fn)
  case st =>
    refine ⟨H, #[], 0, I.pins_of fun p hp => ?_, by simpa using IntsAre.nil, j0⟩
    rcases List.mem_cons.mp hp with rfl | hp
    · exact ⟨ok, fk.1, fk.2.1, fk.2.2.1, seq_nocell⟩
    · rcases List.mem_cons.mp hp with rfl | hp
      · exact ⟨oa, fa.1, fa.2.1, fa.2.2.1, seq_nocell⟩
      · exact I.pin p (List.mem_append_right _ hp)
  case stp =>
    rintro j u s1 hu ⟨H1, kA, e, I1, hk, j1⟩
    rw [Nat.zero_add] at hk j1 ⊢
    have hj : j < vs.length := (List.getElem?_eq_some_iff.mp hu).1
    obtain ⟨x, hx⟩ : ∃ x, xs[j]? = some x := ⟨_, List.getElem?_eq_getElem (by omega)⟩
    obtain ⟨ky, hky⟩ : ∃ k, kz[j]? = some k := ⟨_, List.getElem?_eq_getElem (by omega)⟩
    obtain ⟨u', hu', ru⟩ := rv.get hx
    rw [hu] at hu'
    cases hu'
    have nA : kA.size ≤ vs.length := by
      have q := hk.length
      rw [Array.length_toList, List.length_take] at q
      omega
    refine wpAny_bind (wpAny_attempt (wpAny_mono (run_key (CX := CX0) F hr hf hb I1 ru (step j x ky H1 hx hky j1)) (fun v s2 hv => ?_) fun _ _ z => z.elim))
    obtain ⟨v', H2, I2, rv2, rfl, j2⟩ := hv
    obtain ⟨t2, rfl⟩ := rv2
    obtain ⟨p1, p2, p3, p4, _⟩ := I2.pin (kS, seqObj "list" kA e) (List.mem_append_right _ (List.mem_cons_self ..))
    obtain ⟨q1, q2, q3, q4, _⟩ := I2.pin (a, seqObj "list" #[] e1) (List.mem_append_right _ (List.mem_cons_of_mem _ (List.mem_cons_self ..)))
    have p1 : s2.heap.get? kS = some (seqObj "list" kA e) := p1
    have q1 : s2.heap.get? a = some (seqObj "list" #[] e1) := q1
    have I3 : Inv X pins σ H2 s2 := I2.pins_of fun p hp => I2.pin p (List.mem_append_right _ (List.mem_cons_of_mem _ (List.mem_cons_of_mem _ hp)))
    have sb := Heap.SameBut.update s2.heap kS (Obj.mapSeq (·.push (.int ky t2)))
    obtain ⟨c3, o3⟩ : ∃ c, (s2.heap.update kS (Obj.mapSeq (·.push (.int ky t2)))).get? kS = some (seqObj "list" (kA.push (.int ky t2)) c) := ⟨_, get?_update_seq p1 (·.push (.int ky t2))⟩
    have I4 := I3.turned (t' := s2.toks) (it := kS) (h' := s2.heap.update kS (Obj.mapSeq (·.push (.int ky t2)))) (fun b o hb q => (sb.2 b hb).trans q) p2 p3 fk.2.2.2.1 fk.2.2.2.2.1 fk.2.2.2.2.2
    refine wpAny_bind (listUpdate_at p1 rfl ?_ (by rw [sizeLine_eq]; omega) (Nat.le_trans (Nat.le_of_eq (Array.size_push ..)) (by rw [sizeLine_eq]; omega)))
    have ek : kz.take (j + 1) = kz.take j ++ [ky] := by rw [List.take_add_one, hky]; simp
    refine wpAny_pure ⟨rfl, H2, kA.push (.int ky t2), c3, I4.pins_of fun p hp => ?_, by rw [Array.toList_push, ek]; exact ints_snoc hk, j2⟩
    rcases List.mem_cons.mp hp with rfl | hp
    · exact ⟨o3, p2, p3, p4, seq_nocell⟩
    · rcases List.mem_cons.mp hp with rfl | hp
      · exact ⟨(sb.2 a hka.symm).trans q1, q2, q3, q4, seq_nocell⟩
      · exact I4.pin p (List.mem_append_right _ hp)
  case fn =>
    rintro s1 ⟨H1, kA, e, I1, hk, j1⟩
    rw [Nat.zero_add, ← lv, ← hlen, List.take_length] at hk
    rw [Nat.zero_add, ← lv] at j1
    obtain ⟨p1, p2, p3, p4, _⟩ := I1.pin (kS, seqObj "list" kA e) (List.mem_append_right _ (List.mem_cons_self ..))
    obtain ⟨q1, q2, q3, q4, _⟩ := I1.pin (a, seqObj "list" #[] e1) (List.mem_append_right _ (List.mem_cons_of_mem _ (List.mem_cons_self ..)))
    have p1 : s1.heap.get? kS = some (seqObj "list" kA e) := p1
    have q1 : s1.heap.get? a = some (seqObj "list" #[] e1) := q1
    have I3 : Inv X pins σ H1 s1 := I1.pins_of fun p hp => I1.pin p (List.mem_append_right _ (List.mem_cons_of_mem _ (List.mem_cons_of_mem _ hp)))
    refine wpAny_bind (listItems_at p1 rfl ?_)
    refine keys_end p1 q1 hka hk (by omega) (by omega) fun h' out c kp oa' hsz ko => h H1 _ out c ?_ oa' q2 j1 ko
    refine I3.turnedL (t' := s1.toks) (ch := [a, kS]) (fun b o hb q => kp b o (fun z => hb (by simp [z])) (fun z => hb (by simp [z])) q) fun b hb => ?_
    simp only [List.mem_cons, List.not_mem_nil, or_false] at hb
    rcases hb with rfl | rfl
    · exact ⟨q2, fa.2.1, fa.2.2.1, fa.2.2.2.1, fa.2.2.2.2.1, fa.2.2.2.2.2⟩
    · exact ⟨p2, fk.2.1, fk.2.2.1, fk.2.2.2.1, fk.2.2.2.2.1, fk.2.2.2.2.2⟩
theorem cr_sortK {k : Nat} {f : Addr} {fd : FuncData} {ps : List Str} {sp : Sp} (F : FnOk X.prog X.w X.K X.mg X.base CX0 k f fd ps sp) (hb : Binds X.K fd ps []) (hr : Room (k + 2) X.A) : CallRK X (.builtin "sorted") [Str.ofString "key"] (rSortK X.K f sp) := by
  intro pins s σ H xs0 zs0 us ws Q I r rz h
  obtain ⟨l, xs, kz, J, rfl, rfl, hs, hlen, h64, j0, step, fin⟩ := h
  obtain ⟨u1, rfl, c1⟩ := vals1 r
  obtain rfl : u1 = Value.ref l := c1
  obtain ⟨w1, rfl, c2⟩ := vals1 rz
  obtain rfl : w1 = Value.ref f := c2
  obtain ⟨vs, rv, hl, hz⟩ := I.list hs
  have lv : xs.length = vs.length := rv.length
  have hl : s.heap.IsList l vs.toArray := hl.isList
  show wpAny _ _ (call (.builtin "sorted") [.ref l] [(Str.ofString "key", .ref f)]) _ _ _
  refine call_function_entry_kw kind_sorted plain_sorted entry_sorted (ksk_s1 _ _) ?_
  unfold Builtin.«sorted»
  refine wpAny_bind (m := checkCount "sorted" 1 1 _) (wpAny_pure ?_)
  refine wpAny_bind (collect_list hl ?_ (by rw [sizeLine_eq]; omega))
  refine wpAny_bind (wpAny_newList ?_ (by rw [sizeLine_eq]; omega))
  have z1 : ((s.heap.push (seqObj "list" #[] 0)).update s.heap.objs.size (Obj.mapSeq (· ++ vs.toArray))).objs.size = s.heap.objs.size + 1 := by rw [Heap.size_update, size_push']
  have o1 : (((s.heap.push (seqObj "list" #[] 0)).update s.heap.objs.size (Obj.mapSeq (· ++ vs.toArray))).push (seqObj "list" vs.toArray 0)).get? (s.heap.objs.size + 1) = some (seqObj "list" vs.toArray 0) := by rw [← z1]; exact Heap.get?_push_size _ rfl
  have keep1 : ∀ b o, s.heap.get? b = some o → (((s.heap.push (seqObj "list" #[] 0)).update s.heap.objs.size (Obj.mapSeq (· ++ vs.toArray))).push (seqObj "list" vs.toArray 0)).get? b = some o := fun b o q => by
    have hlt : b < s.heap.objs.size := Heap.lt_size q
    refine Heap.get?_push_of_some _ ?_
    rw [Heap.get?_update_ne _ _ _ _ (Nat.ne_of_lt hlt)]
    exact Heap.get?_push_of_some _ q
  show wpAny _ _ _ _ _ { s with heap := ((s.heap.push (seqObj "list" #[] 0)).update s.heap.objs.size (Obj.mapSeq (· ++ vs.toArray))).push (seqObj "list" vs.toArray 0) }
  rw [z1]
  obtain ⟨a, ea⟩ : ∃ a, a = s.heap.objs.size + 1 := ⟨_, rfl⟩
  rw [← ea] at o1 ⊢
  have fa : FpOk X pins H a := I.fpOk (by rw [ea]; exact Nat.le_succ _) (I.hok.fresh (by rw [ea]; exact Nat.le_succ _))
  obtain ⟨h1, eh1⟩ : ∃ h1, h1 = ((s.heap.push (seqObj "list" #[] 0)).update s.heap.objs.size (Obj.mapSeq (· ++ vs.toArray))).push (seqObj "list" vs.toArray 0) := ⟨_, rfl⟩
  rw [← eh1] at o1 keep1 ⊢
  have I1 : Inv X pins σ H { s with heap := h1 } := I.kept (t' := s.toks) keep1
  refine wpAny_bind (wpAny_holding (wpAny_call_entry_kw slot_list_sort ⟨_, o1, rfl⟩ entry_list_sort ?body (ksk_l1 _ _)))
  case body =>
    show wpAny (model X.prog X.w) X.A.in1.in1 (Builtin.«list.sort» ⟨[.ref a], [(Str.ofString "key", .ref f)]⟩) _ _ _
    rw [ksk_t1]
    unfold ksk_tree
    refine wpAny_bind (listItems_at o1 rfl ?_)
    refine wpAny_bind (listUpdate_at o1 rfl ?_ (by rw [List.size_toArray, sizeLine_eq]; omega) (Nat.zero_le _))
    obtain ⟨e1, o2⟩ : ∃ e1, (h1.update a (Obj.mapSeq fun _ => (#[] : Array Value))).get? a = some (seqObj "list" #[] e1) := ⟨_, get?_update_seq o1 fun _ => #[]⟩
    have sb2 := Heap.SameBut.update h1 a (Obj.mapSeq fun _ => (#[] : Array Value))
    obtain ⟨h2, eh2⟩ : ∃ h2, h2 = h1.update a (Obj.mapSeq fun _ => (#[] : Array Value)) := ⟨_, rfl⟩
    rw [← eh2] at o2 sb2
    show wpAny _ _ _ _ _ { s with heap := h1.update a (Obj.mapSeq fun _ => (#[] : Array Value)) }
    rw [← eh2]
    have I2 : Inv X pins σ H { s with heap := h2 } := I1.turned (s := { s with heap := h1 }) (t' := s.toks) (it := a) (fun b o hb q => (sb2.2 b hb).trans q) fa.1 fa.2.1 fa.2.2.2.1 fa.2.2.2.2.1 fa.2.2.2.2.2
    refine wpAny_bind (seqEpoch_at o2 rfl ?_)
    refine wpAny_bind (wpAny_newTuple ?_ (by show vs.length ≤ _; rw [sizeLine_eq]; omega))
    refine wpAny_bind (wpAny_newList ?_ (Nat.zero_le _))
    refine wpAny_holding ?_
    obtain ⟨T, eT⟩ : ∃ T : Obj, T = { cls := Value.type "tuple", data := Data.seq vs.toArray.toList.toArray } := ⟨_, rfl⟩
    have I4 : Inv X pins σ H { s with heap := (h2.push T).push (seqObj "list" #[] 0) } := I2.kept (s := { s with heap := h2 }) (t' := s.toks) fun b o q => Heap.get?_push_of_some _ (Heap.get?_push_of_some _ q)
    have lt : a < (h2.push T).objs.size := by rw [Heap.size_push]; exact Nat.lt_succ_of_lt (Heap.lt_size o2)
    have fk : FpOk X pins H (h2.push T).objs.size := I2.fpOk (s := { s with heap := h2 }) (by show h2.objs.size ≤ _; rw [Heap.size_push]; exact Nat.le_succ _) (I2.hok.fresh (by show h2.objs.size ≤ _; rw [Heap.size_push]; exact Nat.le_succ _))
    rw [eT] at I4 lt fk
    refine keys_rest F hr.in1.in1 rfl hb I4 (Heap.get?_push_size _ rfl) (Heap.get?_push_of_some _ (Heap.get?_push_of_some _ o2)) fk fa (Nat.ne_of_gt lt) rv hlen h64 j0 step fun H' s' out c I5 oa hn jn ko => ⟨_, rfl, wpAny_pure ⟨_, rfl, ?_⟩⟩
    obtain ⟨qs, hq, ho, hw⟩ := ko
    obtain ⟨ms, m1, m2⟩ := paired_perm hq.symm (paired_zip (kz := kz) (ks := kz) rv)
    have no : ∀ (l1 : List (Int × V)) (l2 : List (Int × Value)), Paired (fun p q => p.1 = q.1 ∧ RelV p.2 q.2) l1 l2 → Vals (l1.map Prod.snd) (l2.map Prod.snd) := fun l1 l2 hp => by
      induction hp with
      | nil => exact .nil
      | cons r _ ih => exact .cons r.2 ih
    have so : ∀ (l1 : List (Int × V)) (l2 : List (Int × Value)), Paired (fun p q => p.1 = q.1 ∧ RelV p.2 q.2) l1 l2 → l2.map Prod.fst = l1.map Prod.fst := fun l1 l2 hp => by
      induction hp with
      | nil => rfl
      | cons r _ ih => rw [List.map_cons, List.map_cons, ih, r.1]
    have vo := no _ _ m2
    rw [← ho] at vo
    have ln : (ms.map Prod.snd).length ≤ sizeLine := by
      rw [List.length_map, m1.length_eq, List.length_zip, sizeLine_eq]
      omega
    refine ⟨.ref a, upd H' a (.lst (ms.map Prod.snd)), ?_, rfl, fin ms a H' jn m1 ?_ hn⟩
    · have no' : ∀ {b : Addr} {o : HO}, H' b = some o → b ≠ a := fun q z => by rw [z, hn] at q; cases q
      refine I5.call' (ch := [a]) rfl ⟨fun b o q n _ _ => q, fun b o q n _ _ => ⟨o.slots, q⟩, fun b o q n hc => by rw [upd_ne (fun z => hc (by simp [z]))]; exact n, fun b o q _ => ⟨o, q⟩, fun b ys q => by rw [upd_ne (no' q)]; exact q, fun b o v q => by rw [upd_ne (no' q)]; exact q, fun b qs q => ⟨#[], by rw [upd_ne (no' q), q]; simp⟩⟩ (fun b u q => ?_) I5.bare fun b hb => ?_
      · by_cases hba : b = a
        · subst hba
          rw [upd_same] at q
          cases q
          exact ⟨ln, out.toList, c, vo, by rw [Array.toArray_toList]; exact oa⟩
        · rw [upd_ne hba] at q
          exact (I5.hok b u q).stay (fun _ _ _ z => z) (fun d z => by rw [upd_ne (no' z)]; exact z) fun d ys z => by rw [upd_ne (no' z)]; exact z
      · rw [List.mem_singleton.mp hb]
        exact ⟨fa.2.2.2.1, fa.2.1, fa.2.2.2.2.1, fa.2.2.2.2.2⟩
    · have q : (qs.map Prod.fst).Pairwise (· ≤ ·) := by
        rw [List.pairwise_map]
        exact hw.imp fun h => by simpa using h
      rw [so _ _ m2, List.pairwise_map] at q
      exact q
end

/-! ### is_integer -/
abbrev sIsInt : Stmt := topS 4
abbrev NIsInt : List Str := ["value"]
abbrev PIsInt : List Str := ["value"]
theorem scIsInt : FnScope NIsInt PIsInt (defScope sIsInt) := ⟨rfl, rfl, rfl, by decide +kernel, rfl, by decide +kernel, by decide +kernel⟩
structure TxInt (mg : Str → Option Value) : Prop where
  n_int : mg "int" = none
  n_bool : mg "bool" = none
  n_isinstance : mg "isinstance" = none
def NoInt (K : PySem.W.Frag) (H : Hp) (v : V) : Prop := ∃ t b, TyX K H v t ∧ PySem.W.kitOne K t (.type "int") = some b ∧ (b = true → PySem.W.kitOne K t (.type "bool") = some true)
def spIsInt (K : PySem.W.Frag) : Sp := fun vs H Q _ => ∃ v, vs = [v] ∧ ((∃ i : Int, v = .int i ∧ Q (.bl true) H) ∨ (NoInt K H v ∧ Q (.bl false) H))
theorem ok_IsInt {P : Program} {w : World} {K : PySem.W.Frag} {mg : Str → Option Value} {base : Heap} {f : Addr} {fd : FuncData} (F : Fun K "is_integer" "is_integer" sIsInt f fd) (T : TxInt mg) : FnOk P w K mg base CX0 1 f fd PIsInt (spIsInt K) := by
  refine F.ok scIsInt (fun vs H Q E h => ?_) (fun cdv A outer s H vs Q E hr h => ?_)
  · obtain ⟨v, rfl, _⟩ := h
    rfl
  · obtain ⟨v, rfl, h⟩ := h
    refine ⟨_, (pss_one (ps_ret (pe_and (pe_callB call_isi (by rfl) T.n_isinstance bb_isinstance (pa_cons (pv 0) (pa_cons (pe_bltn (v := .ty "int") (by rfl) T.n_int bb_int rfl) pa_nil))) (pe_one (pe_not (pe_callB call_isi (by rfl) T.n_isinstance bb_isinstance (pa_cons (pv 0) (pa_cons (pe_bltn (v := .ty "bool") (by rfl) T.n_bool bb_bool rfl) pa_nil)))))))), ?_⟩
    rcases h with ⟨i, rfl, k⟩ | ⟨⟨t, b, ty, k1, k2⟩, k⟩
    · refine ⟨_, rfl, _, _, _, _, _, rfl, .ty _, .base (.int i), kit_ty (r := true) (by decide +kernel), _, rfl, ?_⟩
      exact ⟨_, rfl, _, _, _, _, _, rfl, .ty _, .base (.int i), kit_ty (r := false) (by decide +kernel), _, rfl, k⟩
    · refine ⟨_, rfl, _, _, _, _, _, rfl, .ty _, ty, k1, _, rfl, ?_⟩
      cases b with
      | false => exact k
      | true => exact ⟨_, rfl, _, _, _, _, _, rfl, .ty _, ty, k2 rfl, _, rfl, k⟩

/-! ### comprehensions whose steps only lay new objects down -/
theorem same_new {H : Hp} {p : Addr} {o : HO} (h : H p = none) : Same H (upd H p o) := fun b x e => by
  rw [upd_ne (ne_of_none e h)]
  exact e
theorem take_snoc {α : Type} {l : List α} {i : Nat} {z : α} (h : l[i]? = some z) : l.take (i + 1) = l.take i ++ [z] := by
  rw [List.take_succ, h]; rfl
theorem int_at {ns : List Int} {i : Nat} {x : V} (h : (ns.map V.int)[i]? = some x) : ∃ z, ns[i]? = some z ∧ x = V.int z := by
  rw [List.getElem?_map] at h
  cases e : ns[i]? with
  | none => rw [e] at h; cases h
  | some z => rw [e] at h; exact ⟨z, rfl, (Option.some.inj h).symm⟩
def rListOf (K : PySem.W.Frag) : List V → Hp → VK → Prop := fun xs H Q => ∃ p ys, xs = [.ref p] ∧ (SqL K H p ys ∨ SqT K H p ys) ∧ ∀ l, H l = none → Q (.ref l) (upd H l (.lst ys))
def rTupOf (K : PySem.W.Frag) : List V → Hp → VK → Prop := fun xs H Q => ∃ p ys, xs = [.ref p] ∧ ((SqL K H p ys ∧ ∀ l, H l = none → Q (.ref l) (upd H l (.tup ys))) ∨ (SqT K H p ys ∧ Q (.ref p) H))
def rLenS (K : PySem.W.Frag) : List V → Hp → VK → Prop := fun xs H Q => ∃ p ys, xs = [.ref p] ∧ (SqL K H p ys ∨ SqT K H p ys) ∧ Q (.int (ys.length : Nat)) H
/-- tuples stay -/
def TSame (H H' : Hp) : Prop := ∀ b xs, H b = some (.tup xs) → H' b = some (.tup xs)
theorem TSame.of {H H' : Hp} (s : Same H H') : TSame H H' := fun b xs e => s b _ e
theorem TSame.trans {H H1 H2 : Hp} (a : TSame H H1) (b : TSame H1 H2) : TSame H H2 := fun x xs e => b x xs (a x xs e)
/-- each step gives some y with P i y; the steps lay new objects down -/
theorem lc_rel {J : It} {n : Nat} {G : Hp → Prop} {Y : Nat → Hp → V → Hp → Prop} (w : Walk J n G Y) {g : TG} {te : TE} {vs : List Nat} {σ : L2.St} {H1 : Hp} {D : Addr} {Qd : Hp → Prop} (P : Nat → V → Hp → Prop) (hP : ∀ i y H H', TSame H H' → P i y H → P i y H') (hD : H1 D = none) (hn : n ≤ 1000) (hG : ∀ H, Same H1 H → G H)
    (hs : ∀ i x H H' (k : VK), i < n → Same H1 H → Y i H x H' → (∀ y H4, Same H H4 → P i y H4 → k y H4) → g x (wipe σ vs) H' fun σ2 H2 => wipe σ2 vs = wipe σ vs ∧ te σ2 H2 k)
    (hd : ∀ ys H, Same H1 H → H D = some (.lst ys) → ys.length = n → (∀ i y, ys[i]? = some y → P i y H) → Qd H) :
    ∃ W : Nat → Nat → Hp → Prop, (∃ m, W 0 m (upd H1 D (.lst []))) ∧ ∀ i m H, W i m H →
      (J.stop i H ∧ Qd H) ∨ (J.go i H ∧ ∃ Nx : Hp → Prop, (∀ H', Nx H' → ∃ m', m' < m ∧ W (i + 1) m' H') ∧ ∀ x H', J.yld i H x H' → g x (wipe σ vs) H' fun σ2 H2 => wipe σ2 vs = wipe σ vs ∧ tYes σ2 H2 fun b H3 =>
        if b = true then te σ2 H3 fun y H4 => ∃ acc, H4 D = some (.lst acc) ∧ acc.length < sizeLine ∧ Nx (upd H4 D (.lst (acc ++ [y]))) else Nx H3) := by
  refine lc_it w (fun i H => Same H1 H ∧ ∃ ys, H D = some (.lst ys) ∧ ys.length = i ∧ ∀ j y, ys[j]? = some y → P j y H) ⟨same_new hD, [], upd_same, rfl, fun j y z => by simp at z⟩ (fun i H _ h => hG H h.1) (fun i x H H' hi ⟨s1, ys, e1, l1, p1⟩ y => ?_) (fun H ⟨s1, ys, e1, l1, p1⟩ => hd ys H s1 e1 l1 p1)
  refine hs i x H H' _ hi s1 y fun y H4 s4 p4 => ?_
  have t4 : TSame H4 (upd H4 D (.lst (ys ++ [y]))) := fun b xs z => by
    rw [upd_ne (ne_of z (s4 _ _ e1) (fun q => by cases q))]
    exact z
  refine ⟨ys, s4 _ _ e1, small1000 (by omega), fun b o z => ?_, ys ++ [y], upd_same, by rw [List.length_append, l1]; rfl, fun j z hz => ?_⟩
  · rw [upd_ne (ne_of_none z hD)]
    exact s4 b o (s1 b o z)
  · by_cases hj : j < ys.length
    · rw [List.getElem?_append_left hj] at hz
      exact hP _ _ _ _ ((TSame.of s4).trans t4) (p1 j z hz)
    · rw [List.getElem?_append_right (by omega)] at hz
      have hj' : j - ys.length = 0 := by
        have q := (List.getElem?_eq_some_iff.mp hz).1
        simp at q
        omega
      rw [hj'] at hz
      cases hz
      obtain rfl : j = i := by omega
      exact hP _ _ _ _ t4 p4
/-- each step gives f i -/
theorem lc_map {J : It} {n : Nat} {G : Hp → Prop} {Y : Nat → Hp → V → Hp → Prop} (w : Walk J n G Y) {g : TG} {te : TE} {vs : List Nat} {σ : L2.St} {H1 : Hp} {D : Addr} {Qd : Hp → Prop} (f : Nat → V) (hD : H1 D = none) (hn : n ≤ 1000) (hG : ∀ H, Same H1 H → G H)
    (hs : ∀ i x H H' (k : VK), i < n → Same H1 H → Y i H x H' → (∀ H4, Same H H4 → k (f i) H4) → g x (wipe σ vs) H' fun σ2 H2 => wipe σ2 vs = wipe σ vs ∧ te σ2 H2 k)
    (hd : ∀ H, Same H1 H → H D = some (.lst ((List.range n).map f)) → Qd H) :
    ∃ W : Nat → Nat → Hp → Prop, (∃ m, W 0 m (upd H1 D (.lst []))) ∧ ∀ i m H, W i m H →
      (J.stop i H ∧ Qd H) ∨ (J.go i H ∧ ∃ Nx : Hp → Prop, (∀ H', Nx H' → ∃ m', m' < m ∧ W (i + 1) m' H') ∧ ∀ x H', J.yld i H x H' → g x (wipe σ vs) H' fun σ2 H2 => wipe σ2 vs = wipe σ vs ∧ tYes σ2 H2 fun b H3 =>
        if b = true then te σ2 H3 fun y H4 => ∃ acc, H4 D = some (.lst acc) ∧ acc.length < sizeLine ∧ Nx (upd H4 D (.lst (acc ++ [y]))) else Nx H3) := by
  refine lc_rel w (fun i y _ => y = f i) (fun _ _ _ _ _ h => h) hD hn hG (fun i x H H' k hi s1 y kk => hs i x H H' k hi s1 y fun H4 s4 => kk _ H4 s4 rfl) fun ys H s1 e1 l1 p1 => hd H s1 ?_
  rw [e1]
  congr 2
  refine List.ext_getElem? fun j => ?_
  by_cases hj : j < n
  · rw [List.getElem?_map, List.getElem?_range hj]
    obtain ⟨y, hy⟩ : ∃ y, ys[j]? = some y := ⟨ys[j], by simp [l1, hj]⟩
    rw [hy, p1 j y hy]
    rfl
  · rw [List.getElem?_eq_none (by omega), List.getElem?_eq_none (by rw [List.length_map, List.length_range]; omega)]
theorem range_map {α β : Type} (l : List α) (F : α → β) (f : Nat → β) (h : ∀ (i : Nat) (x : α), l[i]? = some x → f i = F x) : (List.range l.length).map f = l.map F := by
  refine List.ext_getElem? fun j => ?_
  by_cases hj : j < l.length
  · rw [List.getElem?_map, List.getElem?_range hj, List.getElem?_map, List.getElem?_eq_getElem hj]
    exact congrArg some (h j _ (List.getElem?_eq_getElem hj))
  · rw [List.getElem?_eq_none (by rw [List.length_map, List.length_range]; omega), List.getElem?_eq_none (by rw [List.length_map]; omega)]
theorem Paired.snocP {α β : Type} {F : α → β → Prop} : ∀ {l₁ : List α} {l₂ : List β} {a : α} {b : β}, Paired F l₁ l₂ → F a b → Paired F (l₁ ++ [a]) (l₂ ++ [b])
  | _, _, _, _, .nil, h => .cons h .nil
  | _, _, _, _, .cons r t, h => .cons r (Paired.snocP t h)

/-! ### rows -/
abbrev sIsRow : Stmt := topS 5
abbrev NIsRow : List Str := ["value", "width", "one"]
abbrev PIsRow : List Str := ["value", "width"]
theorem scIsRow : FnScope NIsRow PIsRow (defScope sIsRow) := ⟨rfl, rfl, rfl, by decide +kernel, rfl, by decide +kernel, by decide +kernel⟩
abbrev sCF : Stmt := topS 6
abbrev NCF : List Str := ["one", "other"]
abbrev PCF : List Str := ["one", "other"]
theorem scCF : FnScope NCF PCF (defScope sCF) := ⟨rfl, rfl, rfl, by decide +kernel, rfl, by decide +kernel, by decide +kernel⟩
abbrev sPrim : Stmt := topS 7
abbrev NPrim : List Str := ["row", "factor", "one", "first", "sign"]
abbrev PPrim : List Str := ["row"]
theorem scPrim : FnScope NPrim PPrim (defScope sPrim) := ⟨rfl, rfl, rfl, by decide +kernel, rfl, by decide +kernel, by decide +kernel⟩
abbrev sLead : Stmt := topS 8
abbrev NLead : List Str := ["row", "index", "one"]
abbrev PLead : List Str := ["row"]
theorem scLead : FnScope NLead PLead (defScope sLead) := ⟨rfl, rfl, rfl, by decide +kernel, rfl, by decide +kernel, by decide +kernel⟩
abbrev sWo : Stmt := topS 9
abbrev NWo : List Str := ["row", "other", "at", "one", "more"]
abbrev PWo : List Str := ["row", "other"]
theorem scWo : FnScope NWo PWo (defScope sWo) := ⟨rfl, rfl, rfl, by decide +kernel, rfl, by decide +kernel, by decide +kernel⟩
abbrev sRB : Stmt := topS 10
abbrev NRB : List Str := ["rows", "row", "other"]
abbrev PRB : List Str := ["rows", "row"]
theorem scRB : FnScope NRB PRB (defScope sRB) := ⟨rfl, rfl, rfl, by decide +kernel, rfl, by decide +kernel, by decide +kernel⟩
abbrev sAdded : Stmt := topS 11
abbrev NAdded : List Str := ["rows", "row", "rest", "found", "other"]
abbrev PAdded : List Str := ["rows", "row"]
theorem scAdded : FnScope NAdded PAdded (defScope sAdded) := ⟨rfl, rfl, rfl, by decide +kernel, rfl, by decide +kernel, by decide +kernel⟩
abbrev sRed : Stmt := topS 12
abbrev NRed : List Str := ["rows", "width", "found", "row"]
abbrev PRed : List Str := ["rows", "width"]
theorem scRed : FnScope NRed PRed (defScope sRed) := ⟨rfl, rfl, rfl, by decide +kernel, rfl, by decide +kernel, by decide +kernel⟩
abbrev Row := List Int
structure TxRow (mg : Str → Option Value) : Prop extends TxInt mg where
  n_len : mg "len" = none
  n_tuple : mg "tuple" = none
  n_list : mg "list" = none
  n_all : mg "all" = none
  n_abs : mg "abs" = none
  n_sorted : mg "sorted" = none
  n_zip : mg "zip" = none
  n_enumerate : mg "enumerate" = none
theorem bb_abs : bootBuiltins "abs" = some (.builtin "abs") := by decide +kernel
theorem bb_sorted : bootBuiltins "sorted" = some (.builtin "sorted") := by decide +kernel
def TupAt (H : Hp) (p : Addr) (r : Row) : Prop := H p = some (.tup (r.map V.int))
theorem abs_if (a : Int) : (if a < 0 then -a else a) = ((a.natAbs : Nat) : Int) := by
  split <;> omega
/-! what they compute -/
def gcdR (r : Row) : Nat := r.foldl (fun g x => Int.gcd g x) 0
def leadN (r : Row) : Option Nat := r.findIdx? (· ≠ 0)
def signR (r : Row) : Int := match r.find? (· ≠ 0) with | some x => if x > 0 then 1 else -1 | none => 1
def prim (r : Row) : Row := if gcdR r = 0 then r else r.map fun x => (signR r * x) / (gcdR r : Nat)
theorem gcd_fold : ∀ (r : Row) (g : Nat), (∀ x ∈ r, ((r.foldl (fun g x => Int.gcd g x) g : Nat) : Int) ∣ x) ∧ (r.foldl (fun g x => Int.gcd g x) g) ∣ g
  | [], g => ⟨(fun _ z => nomatch z), Nat.dvd_refl g⟩
  | y :: r, g => by
    obtain ⟨h1, h2⟩ := gcd_fold r (Int.gcd g y)
    refine ⟨fun x hx => ?_, Nat.dvd_trans h2 ?_⟩
    · rcases List.mem_cons.mp hx with e | e
      · rw [e]
        exact Int.dvd_trans (Int.natCast_dvd_natCast.mpr h2) (Int.gcd_dvd_right ..)
      · exact h1 x e
    · exact Int.natCast_dvd_natCast.mp (Int.gcd_dvd_left ..)
theorem gcd_dvd {r : Row} {x : Int} (h : x ∈ r) : ((gcdR r : Nat) : Int) ∣ x := (gcd_fold r 0).1 x h
theorem gcd_zero {r : Row} (h : gcdR r = 0) {x : Int} (hx : x ∈ r) : x = 0 := by
  have q := gcd_dvd hx
  rw [h] at q
  exact Int.zero_dvd.mp q
theorem gcd_small {r : Row} {B : Nat} (hB : ∀ x ∈ r, x.natAbs < 2 ^ B) : gcdR r < 2 ^ B ∨ ∀ x ∈ r, x = 0 := by
  by_cases h : ∀ x ∈ r, x = 0
  · exact .inr h
  · left
    simp only [Classical.not_forall] at h
    obtain ⟨x, hx, hne⟩ := h
    have q := Int.natAbs_dvd_natAbs.mpr (gcd_dvd hx)
    rw [Int.natAbs_natCast] at q
    exact Nat.lt_of_le_of_lt (Nat.le_of_dvd (by omega) q) (hB x hx)
theorem gcd_all {r : Row} (h : ∀ x ∈ r, x = 0) : gcdR r = 0 := by
  have : ∀ (r : Row) (g : Nat), (∀ x ∈ r, x = 0) → r.foldl (fun g x => Int.gcd g x) g = g := by
    intro r
    induction r with
    | nil => intro g _; rfl
    | cons y r ih =>
      intro g h
      rw [List.foldl_cons, h y (List.mem_cons_self ..), Int.gcd_zero_right, Int.natAbs_natCast]
      exact ih g fun x hx => h x (List.mem_cons_of_mem _ hx)
  exact this r 0 h
def Small (r : Row) (B : Nat) : Prop := ∀ x ∈ r, x.natAbs < 2 ^ B
section
variable {P : Program} {w : World} {K : PySem.W.Frag} {mg : Str → Option Value} {base : Heap}
/-! common_factor -/
def spCF : Sp := fun vs H Q _ => ∃ a b : Int, vs = [.int a, .int b] ∧ Q (.int (Int.gcd a b : Nat)) H
theorem ok_CF {f : Addr} {fd : FuncData} (F : Fun K "common_factor" "common_factor" sCF f fd) (T : TxRow mg) : FnOk P w K mg base CX0 1 f fd PCF spCF := by
  refine F.ok scCF (fun vs H Q E h => ?_) (fun cdv A outer s H vs Q E hr h => ?_)
  · obtain ⟨a, b, rfl, _⟩ := h
    rfl
  · obtain ⟨a, b, rfl, k⟩ := h
    refine ⟨_, (pss_cons (ps_par (i := 0) (j := 1) (by rfl) scCF.nd rfl rfl (by decide) rfl rfl (pa_cons (pe_callB call_abs (by rfl) T.n_abs bb_abs (pa_cons (pv 0) pa_nil)) (pa_cons (pe_callB call_abs (by rfl) T.n_abs bb_abs (pa_cons (pv 1) pa_nil)) pa_nil)) (by rfl))
  (pss_cons (ps_while PassesOwn.never (pt_cmpR op_ne (pv 1) pe_int (nomark _))
  (pss_one (ps_par (i := 0) (j := 1) (by rfl) scCF.nd rfl rfl (by decide) rfl rfl (pa_cons (pv 1) (pa_cons (pe_op op_mod (pv 0) (pv 1)) pa_nil)) (by rfl))))
  (pss_one (ps_ret (pv 0))))), ?_⟩
    refine ⟨_, rfl, _, rfl, _, rfl, _, rfl, _, _, rfl, ?_⟩
    rw [abs_if, abs_if]
    refine ⟨fun m σ H' => ∃ n : Nat, σ = [some (.int (n : Int)), some (.int (m : Int))] ∧ Nat.gcd n m = Int.gcd a b ∧ H' = H, ⟨b.natAbs, a.natAbs, rfl, rfl, rfl⟩, ?_⟩
    rintro m σ H1 ⟨n, rfl, hg, eH⟩
    refine ⟨_, rfl, rfl, _, rfl, ite2 (fun hne => ?_) (fun he => ?_)⟩
    · have hm : 0 < m := by
        rcases Nat.eq_zero_or_pos m with z | z
        · rw [z] at hne
          exact absurd hne (by decide)
        · exact z
      refine ⟨fun σ' H' => ∃ n' m' : Nat, m' < m ∧ σ' = [some (.int (n' : Int)), some (.int (m' : Int))] ∧ Nat.gcd n' m' = Int.gcd a b ∧ H' = H, fun σ' H' ⟨n', m', h1, h2, h3, h4⟩ => ⟨m', h1, n', h2, h3, h4⟩, ?_⟩
      refine ⟨_, rfl, _, rfl, _, rfl, _, _, rfl, rfl, (show (0 : Int) < (m : Int) by omega), _, _, rfl, m, n % m, Nat.mod_lt _ hm, rfl, ?_, eH⟩
      rw [← hg, Nat.gcd_comm m, ← Nat.gcd_rec, Nat.gcd_comm]
    · have hm : m = 0 := by
        rcases Nat.eq_zero_or_pos m with z | z
        · exact z
        · exfalso
          apply he
          show (!decide (V.int (m : Int) = V.int 0)) = true
          rw [decide_eq_false (fun q => by injection q with q; omega)]
          rfl
      subst hm
      rw [Nat.gcd_zero_right] at hg
      subst hg
      rw [eH]
      exact ⟨_, rfl, k⟩
theorem sgn_b (r : Row) (sg : Int) (h : sg = signR r) : -(2 ^ 64) < sg ∧ sg < 2 ^ 64 := by
  rw [h]
  unfold signR
  split
  · split <;> decide
  · decide
/-! primitive -/
def spPrim : Sp := fun vs H Q _ => ∃ (p : Addr) (r : Row), vs = [.ref p] ∧ TupAt H p r ∧ r.length ≤ 100 ∧ Small r 9000 ∧ ∀ (q : Addr) (H' : Hp), Same H H' → TupAt H' q (prim r) → Q (.ref q) H'
theorem ok_Prim {f : Addr} {fd : FuncData} (F : Fun K "primitive" "primitive" sPrim f fd) (T : TxRow mg) (GC : Has P w K mg base CX0 1 "common_factor" PCF spCF) : FnOk P w K mg base CX0 2 f fd PPrim spPrim := by
  refine F.ok scPrim (fun vs H Q E h => ?_) (fun cdv A outer s H vs Q E hr h => ?_)
  · obtain ⟨p, r, rfl, _⟩ := h
    rfl
  · obtain ⟨p, r, rfl, hp, hl, sm, k⟩ := h
    refine ⟨_, (pss_cons (ps_set (i := 1) scPrim.nd rfl (Or.inr rfl) pe_int)
  (pss_cons (ps_for PassesOwn.never rfl (pi_tup (pv 0)) (pg_name (i := 2) scPrim.nd rfl (Or.inl rfl))
  (pss_one (ps_set (i := 1) scPrim.nd rfl (Or.inr rfl) (pe_callH GC hr rfl pass0 (pa_cons (pv 1) (pa_cons (pv 2) pa_nil))))))
  (pss_cons (ps_if (pt_cmpR op_eq (pv 1) pe_int (nomark _))
  (pss_one (ps_ret (pv 0)))
  pss_nil)
  (pss_cons (ps_set (i := 3) scPrim.nd rfl (Or.inl rfl) (pe_ix (r := rIxL K) ix_list (pe_lc (own := [("one", 2)]) (g := gName 2) rfl scPrim.nd (pi_tup (pv 0)) (blkOk_by (own := [("one", 2)]) (N := NPrim) (sc := (defScope sPrim)) (by decide +kernel)) (fun _ _ _ _ _ => (pg_name (i := 2) scPrim.nd rfl (Or.inl rfl))) (fun _ _ _ _ _ => (pts_one (pt_cmpR op_ne (pv 2) pe_int (nomark _)))) (fun _ _ _ _ _ => (pv 2))) pe_int (fun _ _ => rfl)))
  (pss_cons (ps_set (i := 4) scPrim.nd rfl (Or.inr rfl) (pe_ifExp (pt_cmpR op_gt (pv 3) pe_int (nomark _)) pe_int (pe_un un_neg pe_int)))
  (pss_one (ps_ret (pe_callTy call_tuple_of (by rfl) T.n_tuple bb_tuple (pa_cons (pe_lc (own := [("one", 2)]) (g := gName 2) (tt := tYes) rfl scPrim.nd (pi_tup (pv 0)) (blkOk_by (own := [("one", 2)]) (N := NPrim) (sc := (defScope sPrim)) (by decide +kernel)) (fun _ _ _ _ _ => (pg_name (i := 2) scPrim.nd rfl (Or.inl rfl))) (fun _ _ _ _ _ => pts_nil) (fun _ _ _ _ _ => (pe_op op_fdivW (pe_op op_mul (pv 4) (pv 2)) (pv 1)))) pa_nil))))))))), ?_⟩
    -- the factor
    have hS := SqT.of (K := K) hp
    refine ⟨_, rfl, p, rfl, ⟨_, hS⟩, for_tup (K := K) (a := p) (xs := r.map V.int) (fun i σ H' => ∃ x : Option V, σ = [some (.ref p), some (.int ((r.take i).foldl (fun g x => Int.gcd g x) 0 : Nat)), x, none, none] ∧ H' = H) ⟨none, rfl, rfl⟩ (fun i σ H' _ ⟨_, _, e⟩ => by rw [e]; exact hS) ?_ ?_⟩
    · rintro i x σ H' hx ⟨y, rfl, rfl⟩
      obtain ⟨z, hz, rfl⟩ := int_at hx
      refine ⟨_, rfl, _, rfl, _, _, rfl, some (.int z), ?_, rfl⟩
      rw [take_snoc hz, List.foldl_append]
      rfl
    · rintro σ H' ⟨y, rfl, rfl⟩
      rw [List.length_map, List.take_length]
      refine ⟨_, rfl, rfl, _, rfl, ite2 (fun hz => ?_) (fun hz => ?_)⟩
      · have g0 : gcdR r = 0 := by
          have q := of_decide_eq_true hz
          injection q with q
          exact Int.ofNat.inj q
        exact ⟨_, rfl, k p _ (Same.refl _) (by unfold prim; rw [if_pos g0]; exact hp)⟩
      · have g0 : gcdR r ≠ 0 := fun q => hz (decide_eq_true (by show V.int ((gcdR r : Nat) : Int) = V.int 0; rw [q]; rfl))
        obtain ⟨x0, hx0⟩ : ∃ x0, r.find? (· ≠ 0) = some x0 := by
          cases e : r.find? (· ≠ 0) with
          | some x => exact ⟨x, rfl⟩
          | none => exact absurd (gcd_all fun x hx => by simpa using List.find?_eq_none.mp e x hx) g0
        have hx0' : (r.filter (· ≠ 0))[0]? = some x0 := by rw [← List.head?_eq_getElem?, List.head?_filter]; exact hx0
        refine ⟨_, rfl, p, rfl, ⟨_, hS⟩, fun D hD => lc_tup (K := K) (a := p) (xs := r.map V.int) (fun i H1 => Same H' H1 ∧ H1 D = some (.lst (((r.take i).filter (· ≠ 0)).map V.int))) ⟨same_new hD, upd_same⟩ (fun i H1 _ h1 => SqT.of (h1.1 _ _ hp)) ?_ ?_⟩
        · rintro i x H1 hx ⟨s1, e1⟩
          obtain ⟨z, hz', rfl⟩ := int_at hx
          refine ⟨rfl, _, rfl, rfl, _, rfl, ite2 (fun hne => ?_) (fun hne => ?_)⟩
          · have zne : z ≠ 0 := fun q => by rw [q] at hne; exact absurd hne (by decide)
            refine ⟨_, rfl, _, e1, small1000 ?_, fun b o e => by rw [upd_ne (ne_of_none e hD)]; exact s1 b o e, ?_⟩
            · rw [List.length_map]
              have q1 := List.length_filter_le (fun x : Int => decide (x ≠ 0)) (r.take i)
              rw [List.length_take] at q1
              omega
            · rw [upd_same, take_snoc hz', List.filter_append, List.map_append]
              simp [zne]
          · have ze : z = 0 := by
              by_cases q : z = 0
              · exact q
              · exact absurd (show (!decide (V.int z = V.int 0)) = true by rw [decide_eq_false (fun q' => by injection q' with q'; exact q q')]; rfl) hne
            refine ⟨s1, ?_⟩
            rw [take_snoc hz', List.filter_append]
            simp [ze, e1]
        · rintro H1 ⟨s1, e1⟩
          rw [List.length_map, List.take_length] at e1
          refine ⟨D, _, _, _, rfl, rfl, SqL.of e1, atI_nat (j := 0) (by rw [List.getElem?_map, hx0']; rfl), ?_⟩
          have fin : ∀ sg : Int, sg = signR r → tRet (tCB (fun xs H_1 Q => ∃ p ys, xs = [V.ref p] ∧ ((SqL K H_1 p ys ∧ ∀ l, H_1 l = none → Q (.ref l) (upd H_1 l (.tup ys))) ∨ (SqT K H_1 p ys ∧ Q (.ref p) H_1))) (tCons (tLc (iTup K (tVar 0)) (gName 2) tYes (tOp (rI CDivW fun i j => V.int (i / j)) (tOp (rI CMul fun i j => V.int (i * j)) (tVar 4) (tVar 2)) (tVar 1)) [2]) tNil))
              { nx := fun x H' => Q V.non H', rt := Q } [some (.ref p), some (.int ((gcdR r : Nat) : Int)), y, some (.int x0), some (.int sg)] H1 := by
            intro sg hsg
            have hp1 := s1 _ _ hp
            refine ⟨_, rfl, p, rfl, ⟨_, SqT.of hp1⟩, fun D2 hD2 => lc_map (n := r.length) (by rw [← List.length_map (f := V.int)]; exact walk_tup (xs := r.map V.int)) (fun i => V.int ((sg * r.getD i 0) / ((gcdR r : Nat) : Int))) hD2 (by omega) (fun H2 s2 => SqT.of (s2 _ _ hp1)) ?_ ?_⟩
            · rintro i x H2 H3 kk hi s2 ⟨rfl, hx⟩ kc
              obtain ⟨z, hz', rfl⟩ := int_at hx
              have ez : r.getD i 0 = z := by rw [List.getD_eq_getElem?_getD, hz']; rfl
              refine ⟨rfl, _, rfl, _, rfl, _, _, rfl, rfl, .inl ⟨?_, ?_⟩, _, rfl, _, _, rfl, rfl, ?_, ?_⟩
              · exact (sgn_b r sg hsg).1
              · exact (sgn_b r sg hsg).2
              · rcases gcd_small sm with q | q
                · exact wide_div (by omega) (by rw [Int.natAbs_natCast]; exact q) (by decide) (Nat.le_refl _)
                · exact absurd (gcd_all q) g0
              · have q := kc H3 (Same.refl _)
                rw [ez] at q
                exact q
            · intro H2 s2 e2
              refine ⟨D2, _, rfl, .inl ⟨SqL.of e2, fun l hl => ?_⟩⟩
              refine k l _ ((s1.trans s2).trans (same_new hl)) ?_
              show upd _ l _ l = _
              rw [upd_same]
              congr 2
              unfold prim
              rw [if_neg g0, List.map_map]
              refine range_map r _ _ fun i x hx => ?_
              rw [List.getD_eq_getElem?_getD, hx, hsg]
              rfl
          refine ⟨_, rfl, _, _, rfl, rfl, _, rfl, ite2 (fun hc => fin 1 ?_) (fun hc => ⟨_, rfl, fin (-1) ?_⟩)⟩
          · unfold signR
            rw [hx0]
            exact (if_pos (of_decide_eq_true hc)).symm
          · unfold signR
            rw [hx0]
            exact (if_neg (fun q => hc (decide_eq_true q))).symm
/-! lead -/
def optV : Option Nat → V
  | none => .non
  | some n => .int (n : Nat)
def spLead : Sp := fun vs H Q _ => ∃ (p : Addr) (r : Row), vs = [.ref p] ∧ TupAt H p r ∧ ∀ H', Same H H' → Q (optV (leadN r)) H'
theorem find_take {r : Row} {i : Nat} (h : ∀ x ∈ r.take i, x = 0) (hi : i ≤ r.length) : leadN r = (leadN (r.drop i)).map (· + i) := by
  conv => lhs; rw [← List.take_append_drop i r]
  unfold leadN
  rw [List.findIdx?_append]
  have e : (r.take i).findIdx? (· ≠ 0) = none := by
    rw [List.findIdx?_eq_none_iff]
    intro x hx
    simp [h x hx]
  rw [e, List.length_take, Nat.min_eq_left hi]
  simp
theorem ok_Lead {f : Addr} {fd : FuncData} (F : Fun K "lead" "lead" sLead f fd) (T : TxRow mg) : FnOk P w K mg base CX0 1 f fd PLead spLead := by
  refine F.ok scLead (fun vs H Q E h => ?_) (fun cdv A outer s H vs Q E hr h => ?_)
  · obtain ⟨p, r, rfl, _⟩ := h
    rfl
  · obtain ⟨p, r, rfl, hp, k⟩ := h
    refine ⟨_, (pss_cons (ps_for PassesOwn.never rfl (pi_enumT (by rfl) T.n_enumerate (pa_cons (pv 0) pa_nil)) (pg_tup (by rfl) (pgs_cons (pg_name (i := 1) scLead.nd rfl (Or.inl rfl)) (pgs_cons (pg_name (i := 2) scLead.nd rfl (Or.inl rfl)) pgs_nil)))
  (pss_one (ps_if (pt_cmpR op_ne (pv 2) pe_int (nomark _))
  (pss_one (ps_ret (pv 1)))
  pss_nil)))
  (pss_one (ps_ret pe_non))), ?_⟩
    refine ⟨_, rfl, p, _, rfl, SqT.of hp, ?_⟩
    refine for_it walk_enumT (fun i σ H' => (∃ x y : Option V, σ = [some (.ref p), x, y]) ∧ Same H H' ∧ ∀ x ∈ r.take i, x = 0) ⟨⟨none, none, rfl⟩, Same.refl _, by simp⟩ (fun i σ H' _ h' => SqT.of (h'.2.1 _ _ hp)) ?_ ?_
    · rintro i v σ H1 H2 hi ⟨⟨x, y, rfl⟩, s1, z1⟩ ⟨T', u, rfl, hT, rfl, hu⟩
      obtain ⟨z, hz, rfl⟩ := int_at hu
      have hil : i < r.length := by
        have q := (List.getElem?_eq_some_iff.mp hz).1
        exact q
      have s2 := s1.trans (same_new (o := .tup [.int (i : Nat), .int z]) hT)
      refine ⟨T', _, rfl, SqT.of upd_same, rfl, _, _, rfl, _, _, rfl, rfl, ?_⟩
      refine ⟨_, rfl, rfl, _, rfl, ite2 (fun hne => ?_) (fun hne => ?_)⟩
      · have zne : z ≠ 0 := fun q => by rw [q] at hne; exact absurd hne (by decide)
        have e : leadN r = some i := by
          rw [find_take z1 (Nat.le_of_lt hil), List.drop_eq_getElem_cons hil]
          have ez : r[i] = z := (List.getElem?_eq_some_iff.mp hz).2
          unfold leadN
          rw [List.findIdx?_cons, ez]
          simp [zne]
        have q := k _ s2
        rw [e] at q
        exact ⟨_, rfl, q⟩
      · have ze : z = 0 := by
          by_cases q : z = 0
          · exact q
          · exact absurd (show (!decide (V.int z = V.int 0)) = true by rw [decide_eq_false (fun q' => by injection q' with q'; exact q q')]; rfl) hne
        refine ⟨⟨_, _, rfl⟩, s2, fun x hx => ?_⟩
        rw [take_snoc hz] at hx
        rcases List.mem_append.mp hx with q | q
        · exact z1 x q
        · rw [List.mem_singleton.mp q]; exact ze
    · rintro σ H1 ⟨⟨x, y, rfl⟩, s1, z1⟩
      rw [List.length_map, List.take_length] at z1
      have e : leadN r = none := by
        unfold leadN
        rw [List.findIdx?_eq_none_iff]
        intro x hx
        simp [z1 x hx]
      have q := k _ s1
      rw [e] at q
      exact q
/-! without -/
def wo (row other : Row) : Row := match leadN other with
  | none => row
  | some at_ => if row.getD at_ 0 = 0 then row else prim (List.zipWith (fun o m => o * other.getD at_ 0 - m * row.getD at_ 0) row other)
theorem sub_lt {a b : Int} {n : Nat} (ha : a.natAbs < 2 ^ n) (hb : b.natAbs < 2 ^ n) : (a - b).natAbs < 2 ^ (n + 1) := by
  rw [Nat.pow_succ]
  omega
theorem getD_of {r : Row} {i : Nat} {z : Int} (h : r[i]? = some z) : r.getD i 0 = z := by
  rw [List.getD_eq_getElem?_getD, h]
  rfl
theorem cross_small {r o : Row} {B C : Nat} {d z : Int} (sr : Small r B) (so : Small o C) (hd : d.natAbs < 2 ^ C) (hz : z.natAbs < 2 ^ B) : Small (List.zipWith (fun x m => x * d - m * z) r o) (B + C + 1) := by
  intro v hv
  obtain ⟨i, hi, rfl⟩ := List.mem_iff_getElem.mp hv
  rw [List.getElem_zipWith]
  refine sub_lt (wide_lt (sr _ (List.getElem_mem _)) hd) ?_
  rw [Nat.add_comm B C]
  exact wide_lt (so _ (List.getElem_mem _)) hz
theorem lead_at {o : Row} {n : Nat} (h : leadN o = some n) : ∃ d, o[n]? = some d ∧ d ≠ 0 := by
  unfold leadN at h
  obtain ⟨hn, h1, _⟩ := List.findIdx?_eq_some_iff_getElem.mp h
  exact ⟨o[n], by simp [hn], by simpa using h1⟩
def spWo : Sp := fun vs H Q _ => ∃ (p q : Addr) (r o : Row) (B C : Nat), vs = [.ref p, .ref q] ∧ TupAt H p r ∧ TupAt H q o ∧ r.length = o.length ∧ r.length ≤ 100 ∧ Small r B ∧ Small o C ∧ 0 < B ∧ 0 < C ∧ B + C + 1 ≤ 9000 ∧ leadN o ≠ none ∧
  ∀ (t : Addr) (H' : Hp), Same H H' → TupAt H' t (wo r o) → Q (.ref t) H'
theorem ok_Wo {f : Addr} {fd : FuncData} (F : Fun K "without" "without" sWo f fd) (T : TxRow mg) (GL : Has P w K mg base CX0 1 "lead" PLead spLead) (GP : Has P w K mg base CX0 2 "primitive" PPrim spPrim) : FnOk P w K mg base CX0 3 f fd PWo spWo := by
  refine F.ok scWo (fun vs H Q E h => ?_) (fun cdv A outer s H vs Q E hr h => ?_)
  · obtain ⟨p, q, r, o, B, C, rfl, _⟩ := h
    rfl
  · obtain ⟨p, q, r, o, B, C, rfl, hp, hq, hl, hl1, sr, so, b0, c0, bc, ld, k⟩ := h
    have hr1 := hr.mono (j := 1) (by decide)
    refine ⟨_, (pss_cons (ps_set (i := 2) scWo.nd rfl (Or.inr rfl) (pe_callH GL hr1 rfl pass0 (pa_cons (pv 1) pa_nil)))
  (pss_cons (ps_if (pt_cmpR op_eq (pe_ix (r := rIxT K) ix_tup (pv 0) (pv 2) (fun _ _ => rfl)) pe_int (nomark _))
  (pss_one (ps_ret (pv 0)))
  pss_nil)
  (pss_one (ps_ret (pe_callH GP hr rfl pass0 (pa_cons (pe_callTy call_tuple_of (by rfl) T.n_tuple bb_tuple (pa_cons (pe_lc (own := [("one", 3), ("more", 4)]) (g := gTup K 2 (gCons (gName 3) (gCons (gName 4) gNil))) (tt := tYes) rfl scWo.nd (pi_zipS true true (by rfl) T.n_zip (pa_cons (pv 0) (pa_cons (pv 1) pa_nil)) (pk_cons pe_bl pk_nil)) (blkOk_by (own := [("one", 3), ("more", 4)]) (N := NWo) (sc := (defScope sWo)) (by decide +kernel)) (fun _ _ _ _ _ => (pg_tup (by rfl) (pgs_cons (pg_name (i := 3) scWo.nd rfl (Or.inl rfl)) (pgs_cons (pg_name (i := 4) scWo.nd rfl (Or.inl rfl)) pgs_nil)))) (fun _ _ _ _ _ => pts_nil) (fun _ _ _ _ _ => (pe_op op_sub (pe_op op_mulW (pv 3) (pe_ix (r := rIxT K) ix_tup (pv 1) (pv 2) (fun _ _ => rfl))) (pe_op op_mulW (pv 4) (pe_ix (r := rIxT K) ix_tup (pv 0) (pv 2) (fun _ _ => rfl)))))) pa_nil)) pa_nil)))))), ?_⟩
    obtain ⟨n, hn⟩ : ∃ n, leadN o = some n := Option.ne_none_iff_exists'.mp ld
    obtain ⟨d, hd, dne⟩ := lead_at hn
    have nlt : n < o.length := (List.getElem?_eq_some_iff.mp hd).1
    obtain ⟨z, hz⟩ : ∃ z, r[n]? = some z := ⟨r[n]'(by omega), by simp [show n < r.length by omega]⟩
    refine ⟨_, rfl, q, o, rfl, hq, fun H1 s1 => ?_⟩
    rw [hn]
    have hp1 := s1 _ _ hp
    have hq1 := s1 _ _ hq
    have az : atI (r.map V.int) ((n : Nat) : Int) = some (V.int z) := atI_nat (by rw [List.getElem?_map, hz]; rfl)
    have ad : atI (o.map V.int) ((n : Nat) : Int) = some (V.int d) := atI_nat (by rw [List.getElem?_map, hd]; rfl)
    have sz : z.natAbs < 2 ^ B := sr _ (List.mem_of_getElem? hz)
    have sd : d.natAbs < 2 ^ C := so _ (List.mem_of_getElem? hd)
    refine ⟨_, rfl, _, rfl, p, _, _, _, rfl, rfl, SqT.of hp1, az, rfl, _, rfl, ite2 (fun h0 => ?_) (fun h0 => ?_)⟩
    · have z0 : z = 0 := by
        have q := of_decide_eq_true h0
        injection q
      exact ⟨_, rfl, k p H1 s1 (by unfold wo; rw [hn]; show TupAt H1 p (if r.getD n 0 = 0 then r else _); rw [if_pos (by rw [getD_of hz]; exact z0)]; exact hp1)⟩
    · have z0 : z ≠ 0 := fun q => h0 (decide_eq_true (by rw [q]))
      refine ⟨_, rfl, _, rfl, p, q, _, _, rfl, rfl, SqT.of hp1, SqT.of hq1, fun D hD => ?_⟩
      refine lc_map (walk_zs (K := K) (t1 := true) (t2 := true) (a := p) (b := q) (xs := r.map V.int) (ys := o.map V.int) (by rw [List.length_map, List.length_map]; exact hl)) (fun i => V.int (r.getD i 0 * d - o.getD i 0 * z)) hD (by rw [List.length_map]; omega) (fun H2 s2 => ⟨SqT.of (s2 _ _ hp1), SqT.of (s2 _ _ hq1)⟩) ?_ ?_
      · rintro i x H2 H3 kk hi s2 ⟨T', u, v, rfl, hT, rfl, hu, hv⟩ kc
        obtain ⟨x1, hx1, rfl⟩ := int_at hu
        obtain ⟨y1, hy1, rfl⟩ := int_at hv
        have s3 := same_new (o := .tup [.int x1, .int y1]) hT
        have hp3 := s3 _ _ (s2 _ _ hp1)
        have hq3 := s3 _ _ (s2 _ _ hq1)
        refine ⟨T', _, rfl, SqT.of upd_same, rfl, _, _, rfl, _, _, rfl, rfl, rfl, _, rfl, _, rfl, _, rfl, q, _, _, _, rfl, rfl, SqT.of hq3, ad, _, _, rfl, rfl, wide_mul (sr _ (List.mem_of_getElem? hx1)) sd b0 c0 (by omega), _, rfl, _, rfl, _, rfl, p, _, _, _, rfl, rfl, SqT.of hp3, az, _, _, rfl, rfl, wide_mul (so _ (List.mem_of_getElem? hy1)) sz c0 b0 (by omega), _, _, rfl, rfl, ?_⟩
        have qq := kc _ s3
        rw [getD_of hx1, getD_of hy1] at qq
        exact qq
      · intro H2 s2 e2
        refine ⟨D, _, rfl, .inl ⟨SqL.of e2, fun l hl' => ?_⟩⟩
        have s3 := same_new (o := .tup ((List.range (r.map V.int).length).map fun i => V.int (r.getD i 0 * d - o.getD i 0 * z))) hl'
        have ez : (List.range (r.map V.int).length).map (fun i => V.int (r.getD i 0 * d - o.getD i 0 * z)) = (List.zipWith (fun x m => x * d - m * z) r o).map V.int := by
          refine List.ext_getElem? fun j => ?_
          rw [List.getElem?_map, List.getElem?_map, List.getElem?_zipWith]
          by_cases hj : j < r.length
          · rw [List.getElem?_range (by rw [List.length_map]; exact hj), List.getElem?_eq_getElem hj, List.getElem?_eq_getElem (show j < o.length by omega)]
            show some (V.int (r.getD j 0 * d - o.getD j 0 * z)) = some (V.int (r[j] * d - o[j] * z))
            rw [getD_of (List.getElem?_eq_getElem hj), getD_of (List.getElem?_eq_getElem (show j < o.length by omega))]
          · rw [List.getElem?_eq_none (by rw [List.length_range, List.length_map]; omega), List.getElem?_eq_none (show r.length ≤ j by omega)]
            rfl
        have cs := cross_small sr so sd sz
        refine ⟨l, List.zipWith (fun x m => x * d - m * z) r o, rfl, ?_, ?_, ?_, fun t H4 s4 e4 => k t H4 (((s1.trans s2).trans s3).trans s4) ?_⟩
        · show upd _ l _ l = _
          rw [upd_same, ez]
        · rw [List.length_zipWith]
          omega
        · exact fun x hx => Nat.lt_of_lt_of_le (cs x hx) (Nat.pow_le_pow_right (by decide) bc)
        · unfold wo
          rw [hn]
          show TupAt H4 t (if r.getD n 0 = 0 then r else _)
          rw [if_neg (by rw [getD_of hz]; exact z0), getD_of hz, getD_of hd]
          exact e4
/-! reduced_by -/
def woAll (rs : List Row) (r : Row) : Row := rs.foldl wo r
def RowsIn (H : Hp) (xs : List V) (rs : List Row) : Prop := Paired (fun v r => ∃ p, v = .ref p ∧ TupAt H p r) xs rs
theorem RowsIn.same {H H' : Hp} {xs : List V} {rs : List Row} (h : RowsIn H xs rs) (s : TSame H H') : RowsIn H' xs rs := Paired.mapP h fun _ _ ⟨p, e, q⟩ => ⟨p, e, s _ _ q⟩
theorem Paired.at {α β : Type} {F : α → β → Prop} {xs : List α} {ys : List β} (hp : Paired F xs ys) : ∀ {i : Nat} {x : α}, xs[i]? = some x → ∃ y, ys[i]? = some y ∧ F x y := by
  induction hp with
  | nil => intro i x z; simp at z
  | cons r _ ih =>
    intro i x z
    cases i with
    | zero => simp at z; subst z; exact ⟨_, rfl, r⟩
    | succ j => simp at z ⊢; exact ih z
theorem len_prim (r : Row) : (prim r).length = r.length := by
  unfold prim
  split
  · rfl
  · exact List.length_map ..
theorem abs_div_le (x : Int) (g : Nat) : (x / (g : Int)).natAbs ≤ x.natAbs := by
  rcases Nat.eq_zero_or_pos g with z | z
  · rw [z]
    simp
  · rcases Int.le_total 0 x with h | h
    · have h1 : 0 ≤ x / (g : Int) := Int.ediv_nonneg h (by omega)
      have h2 : x / (g : Int) ≤ x := Int.ediv_le_self _ h
      omega
    · have h1 : x / (g : Int) ≤ 0 := by
        have := Int.ediv_le_ediv (a := x) (b := 0) (c := (g : Int)) (by omega) h
        simpa using this
      have h2 : x ≤ x / (g : Int) := by
        rw [Int.le_ediv_iff_mul_le (by omega)]
        have : x * (g : Int) ≤ x * 1 := Int.mul_le_mul_of_nonpos_left h (by omega)
        simpa using this
      omega
theorem sgn_abs (r : Row) (x : Int) : (signR r * x).natAbs = x.natAbs := by
  unfold signR
  split
  · split <;> simp
  · simp
theorem small_prim {r : Row} {B : Nat} (h : Small r B) : Small (prim r) B := by
  unfold prim
  split
  · exact h
  · intro y hy
    obtain ⟨x, hx, rfl⟩ := List.mem_map.mp hy
    refine Nat.lt_of_le_of_lt (abs_div_le _ _) ?_
    rw [sgn_abs]
    exact h x hx
theorem len_wo {r o : Row} (h : r.length = o.length) : (wo r o).length = r.length := by
  unfold wo
  split
  · rfl
  · split
    · rfl
    · rw [len_prim, List.length_zipWith]
      omega
theorem small_mono {r : Row} {B C : Nat} (h : Small r B) (hc : B ≤ C) : Small r C := fun x hx => Nat.lt_of_lt_of_le (h x hx) (Nat.pow_le_pow_right (by decide) hc)
theorem getD_small {r : Row} {B : Nat} (h : Small r B) (i : Nat) : (r.getD i 0).natAbs < 2 ^ B := by
  rw [List.getD_eq_getElem?_getD]
  cases e : r[i]? with
  | none => exact Nat.two_pow_pos B
  | some x => exact h x (List.mem_of_getElem? e)
theorem small_wo {r o : Row} {B C : Nat} (hr : Small r B) (ho : Small o C) : Small (wo r o) (B + C + 1) := by
  unfold wo
  split
  · exact small_mono hr (by omega)
  · split
    · exact small_mono hr (by omega)
    · exact small_prim (cross_small hr ho (getD_small ho _) (getD_small hr _))
theorem woAll_inv {rs : List Row} {C n : Nat} : ∀ {r : Row} {B : Nat}, (∀ o ∈ rs, o.length = n ∧ Small o C) → r.length = n → Small r B → (woAll rs r).length = n ∧ Small (woAll rs r) (B + rs.length * (C + 1)) := by
  induction rs with
  | nil => intro r B _ hr hs; exact ⟨hr, by simpa [woAll] using hs⟩
  | cons o rs ih =>
    intro r B h hr hs
    obtain ⟨h1, h2⟩ := h o (List.mem_cons_self ..)
    have q := ih (r := wo r o) (B := B + C + 1) (fun x hx => h x (List.mem_cons_of_mem _ hx)) ((len_wo (hr.trans h1.symm)).trans hr) (small_wo hs h2)
    refine ⟨q.1, small_mono q.2 ?_⟩
    rw [List.length_cons, Nat.add_mul]
    omega
def spRB (K : PySem.W.Frag) : Sp := fun vs H Q _ => ∃ (L p : Addr) (xs : List V) (rs : List Row) (r : Row) (B C : Nat), vs = [.ref L, .ref p] ∧ H L = some (.lst xs) ∧ RowsIn H xs rs ∧ TupAt H p r ∧ (∀ o ∈ rs, o.length = r.length ∧ Small o C ∧ leadN o ≠ none) ∧ r.length ≤ 100 ∧ Small r B ∧ 0 < B ∧ 0 < C ∧ B + rs.length * (C + 1) ≤ 9000 ∧
  ∀ (t : Addr) (H' : Hp), Same H H' → TupAt H' t (prim (woAll rs r)) → Q (.ref t) H'
theorem ok_RB {f : Addr} {fd : FuncData} (F : Fun K "reduced_by" "reduced_by" sRB f fd) (T : TxRow mg) (GW : Has P w K mg base CX0 3 "without" PWo spWo) (GP : Has P w K mg base CX0 2 "primitive" PPrim spPrim) : FnOk P w K mg base CX0 4 f fd PRB (spRB K) := by
  refine F.ok scRB (fun vs H Q E h => ?_) (fun cdv A outer s H vs Q E hr h => ?_)
  · obtain ⟨L, p, xs, rs, r, B, C, rfl, _⟩ := h
    rfl
  · obtain ⟨L, p, xs, rs, r, B, C, rfl, hL, hx, hp, ho, hl, sr, b0, c0, bc, k⟩ := h
    have hr2 := hr.mono (j := 2) (by decide)
    refine ⟨_, (pss_cons (ps_for PassesOwn.never rfl (pi_list (pv 0)) (pg_name (i := 2) scRB.nd rfl (Or.inl rfl))
  (pss_one (ps_set (i := 1) scRB.nd rfl (Or.inl rfl) (pe_callH GW hr rfl pass0 (pa_cons (pv 1) (pa_cons (pv 2) pa_nil))))))
  (pss_one (ps_ret (pe_callH GP hr2 rfl pass0 (pa_cons (pv 1) pa_nil))))), ?_⟩
    have lx : xs.length = rs.length := Paired.length hx
    have inv : ∀ i, i ≤ rs.length → (woAll (rs.take i) r).length = r.length ∧ Small (woAll (rs.take i) r) (B + i * (C + 1)) := fun i hi => by
      have q := woAll_inv (rs := rs.take i) (C := C) (n := r.length) (fun o h => ⟨(ho o (List.mem_of_mem_take h)).1, (ho o (List.mem_of_mem_take h)).2.1⟩) rfl sr
      rw [List.length_take, Nat.min_eq_left hi] at q
      exact q
    refine ⟨_, rfl, L, rfl, ⟨_, SqL.of hL⟩, for_list (K := K) (a := L) (xs := xs) (fun i σ H' => Same H H' ∧ ∃ (t : Addr) (x : Option V), σ = [some (.ref L), some (.ref t), x] ∧ TupAt H' t (woAll (rs.take i) r)) ⟨Same.refl _, p, none, rfl, hp⟩ (fun i σ H' _ h' => SqL.of (h'.1 _ _ hL)) ?_ ?_⟩
    · rintro i v σ H1 hv ⟨s1, t, x, rfl, ht⟩
      obtain ⟨o, hoi, q, rfl, hq⟩ := Paired.at hx hv
      have hi : i < rs.length := (List.getElem?_eq_some_iff.mp hoi).1
      obtain ⟨o1, o2, o3⟩ := ho o (List.mem_of_getElem? hoi)
      obtain ⟨i1, i2⟩ := inv i (Nat.le_of_lt hi)
      have bi : i * (C + 1) + (C + 1) ≤ rs.length * (C + 1) := by
        rw [← Nat.succ_mul]
        exact Nat.mul_le_mul_right _ hi
      refine ⟨_, rfl, _, rfl, t, q, _, o, B + i * (C + 1), C, rfl, ht, s1 _ _ hq, i1.trans o1.symm, by omega, i2, o2, by omega, c0, by omega, o3, fun t' H2 s2 e2 => ⟨s1.trans s2, t', _, rfl, ?_⟩⟩
      rw [take_snoc hoi]
      unfold woAll at e2 ⊢
      rw [List.foldl_append]
      exact e2
    · rintro σ H1 ⟨s1, t, x, rfl, ht⟩
      rw [lx, List.take_length] at ht
      obtain ⟨i1, i2⟩ := inv rs.length (Nat.le_refl _)
      rw [List.take_length] at i1 i2
      exact ⟨_, rfl, t, _, rfl, ht, by omega, small_mono i2 bc, fun t' H2 s2 e2 => k t' H2 (s1.trans s2) e2⟩
/-! added -/
def leadD (r : Row) : Nat := (leadN r).getD 0
def restOf (rs : List Row) (r : Row) : Row := prim (woAll rs r)
/-- what added gives -/
def Adds (rs : List Row) (r : Row) (out : List Row) : Prop := (leadN (restOf rs r) = none ∧ out = rs) ∨
  (leadN (restOf rs r) ≠ none ∧ out.Perm ((rs.map (fun o => prim (wo o (restOf rs r)))) ++ [prim (restOf rs r)]) ∧ out.Pairwise (fun a b => leadD a ≤ leadD b))
theorem prim_zero {r : Row} (i : Nat) : (prim r).getD i 0 = 0 ↔ r.getD i 0 = 0 := by
  unfold prim
  split
  · exact Iff.rfl
  · rename_i g0
    rw [List.getD_eq_getElem?_getD, List.getD_eq_getElem?_getD, List.getElem?_map]
    cases e : r[i]? with
    | none => simp
    | some x =>
      simp only [Option.map_some, Option.getD_some]
      have d := gcd_dvd (List.mem_of_getElem? e)
      obtain ⟨c, hc⟩ := d
      have gz : ((gcdR r : Nat) : Int) ≠ 0 := by omega
      constructor
      · intro h
        rw [hc, Int.mul_left_comm, Int.mul_ediv_cancel_left _ gz] at h
        rcases Int.mul_eq_zero.mp h with q | q
        · exfalso
          unfold signR at q
          split at q
          · split at q <;> omega
          · omega
        · rw [hc, q, Int.mul_zero]
      · intro h
        rw [h]
        simp
theorem lead_of_zero {r o : Row} (hl : r.length = o.length) (h : ∀ i, r.getD i 0 = 0 ↔ o.getD i 0 = 0) : leadN r = leadN o := by
  unfold leadN
  have : ∀ (r o : Row), r.length = o.length → (∀ i, r.getD i 0 = 0 ↔ o.getD i 0 = 0) → r.findIdx? (· ≠ 0) = o.findIdx? (· ≠ 0) := by
    intro r
    induction r with
    | nil => intro o hl _; cases o with | nil => rfl | cons _ _ => cases hl
    | cons x r ih =>
      intro o hl h
      cases o with
      | nil => cases hl
      | cons y o =>
        have h0 := h 0
        simp only [List.getD_cons_zero] at h0
        rw [List.findIdx?_cons, List.findIdx?_cons, ih o (by simpa using hl) fun i => by simpa using h (i + 1)]
        have : decide (x ≠ 0) = decide (y ≠ 0) := by
          by_cases hx : x = 0
          · simp [hx, h0.mp hx]
          · have hy : ¬ y = 0 := fun q => hx (h0.mpr q)
            simp [hx, hy]
        rw [this]
  exact this r o hl h
theorem lead_prim (r : Row) : leadN (prim r) = leadN r := lead_of_zero (len_prim r) prim_zero
theorem rows_of {H : Hp} : ∀ {ys : List V} {fs : List Row}, ys.length = fs.length → (∀ i y, ys[i]? = some y → ∃ p, y = .ref p ∧ TupAt H p (fs.getD i [])) → RowsIn H ys fs
  | [], [], _, _ => .nil
  | [], _ :: _, h, _ => by cases h
  | _ :: _, [], h, _ => by cases h
  | y :: ys, f :: fs, h, k => .cons (k 0 y rfl) (rows_of (by simpa using h) fun i z hz => by simpa using k (i + 1) z (by simpa using hz))
theorem rows_at {H : Hp} {xs : List V} {rs : List Row} (h : RowsIn H xs rs) {i : Nat} {x : V} (hx : xs[i]? = some x) : ∃ p, x = .ref p ∧ TupAt H p (rs.getD i []) ∧ i < rs.length := by
  obtain ⟨r, hr, p, e, q⟩ := Paired.at h hx
  exact ⟨p, e, by rw [List.getD_eq_getElem?_getD, hr]; exact q, (List.getElem?_eq_some_iff.mp hr).1⟩
theorem getD_mem {rs : List Row} {i : Nat} (h : i < rs.length) : rs.getD i [] ∈ rs := by
  rw [List.getD_eq_getElem?_getD, List.getElem?_eq_getElem h]
  exact List.getElem_mem h
theorem RowsIn.snoc {H : Hp} : ∀ {xs : List V} {rs : List Row} {v : V} {r : Row}, RowsIn H xs rs → (∃ p, v = .ref p ∧ TupAt H p r) → RowsIn H (xs ++ [v]) (rs ++ [r])
  | _, _, _, _, .nil, h => .cons h .nil
  | _, _, _, _, .cons a t, h => .cons a (RowsIn.snoc t h)
theorem keyed {H : Hp} : ∀ {xs : List V} {rs : List Row}, RowsIn H xs rs → Paired (fun (r : Row) (a : Int × V) => a.1 = ((leadD r : Nat) : Int) ∧ ∃ p, a.2 = .ref p ∧ TupAt H p r) rs ((rs.map fun r => ((leadD r : Nat) : Int)).zip xs)
  | _, _, .nil => .nil
  | _, _, .cons a t => .cons ⟨rfl, a⟩ (keyed t)
theorem unkey {H : Hp} : ∀ {out : List Row} {ps : List (Int × V)}, Paired (fun (r : Row) (a : Int × V) => a.1 = ((leadD r : Nat) : Int) ∧ ∃ p, a.2 = .ref p ∧ TupAt H p r) out ps → RowsIn H (ps.map Prod.snd) out ∧ ps.map Prod.fst = out.map fun r => ((leadD r : Nat) : Int)
  | _, _, .nil => ⟨.nil, rfl⟩
  | _, _, .cons a t => ⟨.cons a.2 (unkey t).1, by rw [List.map_cons, List.map_cons, (unkey t).2, a.1]⟩
def spAdded (K : PySem.W.Frag) : Sp := fun vs H Q _ => ∃ (L p : Addr) (xs : List V) (rs : List Row) (r : Row) (B C : Nat), vs = [.ref L, .ref p] ∧ H L = some (.lst xs) ∧ RowsIn H xs rs ∧ TupAt H p r ∧ (∀ o ∈ rs, o.length = r.length ∧ Small o C ∧ leadN o ≠ none) ∧ r.length ≤ 100 ∧ rs.length < 60 ∧ Small r B ∧ 0 < B ∧ 0 < C ∧ B + (rs.length + 1) * (C + 1) ≤ 9000 ∧
  (leadN (restOf rs r) ≠ none → ∀ o ∈ rs, leadN (wo o (restOf rs r)) ≠ none) ∧
  ∀ (L' : Addr) (xs' : List V) (out : List Row) (H' : Hp), Same H H' → (L' = L ∨ H L' = none) → H' L' = some (.lst xs') → RowsIn H' xs' out → Adds rs r out → Q (.ref L') H'
theorem ok_Added {f : Addr} {fd : FuncData} (F : Fun K "added" "added" sAdded f fd) (T : TxRow mg) (GW : Has P w K mg base CX0 3 "without" PWo spWo) (GP : Has P w K mg base CX0 2 "primitive" PPrim spPrim) (GB : Has P w K mg base CX0 4 "reduced_by" PRB (spRB K))
    (GL : Has P w K mg base CX0 1 "lead" PLead spLead) : FnOk P w K mg base CX0 5 f fd PAdded (spAdded K) := by
  refine F.ok scAdded (fun vs H Q E h => ?_) (fun cdv A outer s H vs Q E hr h => ?_)
  · obtain ⟨L, p, xs, rs, r, B, C, rfl, _⟩ := h
    rfl
  · obtain ⟨L, p, xs, rs, r, B, C, rfl, hL, hx, hp, ho, hl, hl60, sr, b0, c0, bc, hw, k⟩ := h
    have hr3 := hr.mono (j := 3) (by decide)
    have hr2 := hr.mono (j := 2) (by decide)
    have hr1 := hr.mono (j := 1) (by decide)
    obtain ⟨fl, fdl, FL, ml, kl, bl⟩ := id GL.ex
    refine ⟨_, (pss_cons (ps_set (i := 2) scAdded.nd rfl (Or.inr rfl) (pe_callH GB hr rfl pass0 (pa_cons (pv 0) (pa_cons (pv 1) pa_nil))))
  (pss_cons (ps_if (pt_cmpR op_isN (pe_callH GL hr1 rfl pass0 (pa_cons (pv 2) pa_nil)) pe_non (nomark _))
  (pss_one (ps_ret (pv 0)))
  pss_nil)
  (pss_cons (ps_set (i := 3) scAdded.nd rfl (Or.inl rfl) (pe_lst (StX.pa_star (pe_lc (own := [("other", 4)]) (g := gName 4) (tt := tYes) rfl scAdded.nd (pi_list (pv 0)) (blkOk_by (own := [("other", 4)]) (N := NAdded) (sc := (defScope sAdded)) (by decide +kernel)) (fun _ _ _ _ _ => (pg_name (i := 4) scAdded.nd rfl (Or.inl rfl))) (fun _ _ _ _ _ => pts_nil) (fun _ _ _ _ _ => (pe_callH GW hr3 rfl pass0 (pa_cons (pv 4) (pa_cons (pv 2) pa_nil))))) (pa_cons (pv 2) pa_nil))))
  (pss_one (ps_ret (pe_callBK (cr_sortK FL bl hr3) (by rfl) T.n_sorted bb_sorted (pa_cons (pe_lc (own := [("other", 4)]) (g := gName 4) (tt := tYes) rfl scAdded.nd (pi_list (pv 3)) (blkOk_by (own := [("other", 4)]) (N := NAdded) (sc := (defScope sAdded)) (by decide +kernel)) (fun _ _ _ _ _ => (pg_name (i := 4) scAdded.nd rfl (Or.inl rfl))) (fun _ _ _ _ _ => pts_nil) (fun _ _ _ _ _ => (pe_callH GP hr2 rfl pass0 (pa_cons (pv 4) pa_nil)))) pa_nil) (pk_cons (pe_glob (v := .ref fl) rfl ml rfl) pk_nil))))))), ?_⟩
    have lx : xs.length = rs.length := Paired.length hx
    obtain ⟨w1, w2⟩ := woAll_inv (rs := rs) (C := C) (n := r.length) (fun o h => ⟨(ho o h).1, (ho o h).2.1⟩) rfl sr
    obtain ⟨rest, er⟩ : ∃ rest, rest = restOf rs r := ⟨_, rfl⟩
    have r1 : rest.length = r.length := by rw [er]; exact (len_prim _).trans w1
    have r2 : Small rest (B + rs.length * (C + 1)) := by rw [er]; exact small_prim w2
    have rm : (rs.length + 1) * (C + 1) = rs.length * (C + 1) + (C + 1) := Nat.succ_mul ..
    refine ⟨_, rfl, _, rfl, L, p, xs, rs, r, B, C, rfl, hL, hx, hp, ho, hl, sr, b0, c0, by omega, fun t H1 s1 ht => ?_⟩
    have ht : TupAt H1 t rest := by rw [er]; exact ht
    refine ⟨_, rfl, t, rest, rfl, ht, fun H2 s2 => ?_⟩
    have s12 := s1.trans s2
    have ht2 := s2 _ _ ht
    have hL2 := s12 _ _ hL
    have hx2 := hx.same (TSame.of s12)
    cases el : leadN rest with
    | none => exact ⟨rfl, _, rfl, _, rfl, k L xs rs H2 s12 (.inl rfl) hL2 hx2 (.inl ⟨by rw [← er]; exact el, rfl⟩)⟩
    | some n =>
      have lne : leadN rest ≠ none := by rw [el]; exact fun q => by cases q
      have hwo : ∀ o ∈ rs, leadN (wo o rest) ≠ none := by rw [er]; exact hw (by rw [← er]; exact lne)
      refine ⟨rfl, _, rfl, ?_⟩
      refine ⟨_, rfl, L, rfl, ⟨_, SqL.of hL2⟩, fun D hD => ?_⟩
      refine lc_rel (walk_list (K := K) (a := L) (xs := xs)) (fun i y H' => ∃ q, y = .ref q ∧ TupAt H' q (wo (rs.getD i []) rest)) (fun i y Ha Hb ts ⟨q, e, z⟩ => ⟨q, e, ts _ _ z⟩) hD (by omega) (fun H' s' => SqL.of (s' _ _ hL2)) ?_ ?_
      · rintro i x H3 H4 kk hi s3 ⟨rfl, hxi⟩ kc
        obtain ⟨q, rfl, hq, hil⟩ := rows_at hx2 hxi
        obtain ⟨o1, o2, o3⟩ := ho _ (getD_mem hil)
        refine ⟨rfl, _, rfl, _, rfl, q, t, _, rest, C, B + rs.length * (C + 1), rfl, s3 _ _ hq, s3 _ _ ht2, by rw [o1, r1], by omega, o2, r2, c0, by omega, by omega, lne, fun t' H5 s5 e5 => kc _ H5 s5 ⟨t', rfl, e5⟩⟩
      · intro ys H3 s3 eD ly py
        have R3 : RowsIn H3 ys (rs.map fun o => wo o rest) := rows_of (by rw [List.length_map]; omega) fun i y hy => by
          obtain ⟨q, e, z⟩ := py i y hy
          have hi : i < rs.length := by
            have := (List.getElem?_eq_some_iff.mp hy).1
            omega
          refine ⟨q, e, ?_⟩
          rw [List.getD_eq_getElem?_getD, List.getElem?_map, List.getElem?_eq_getElem hi]
          rw [List.getD_eq_getElem?_getD, List.getElem?_eq_getElem hi] at z
          exact z
        have ht3 := s3 _ _ ht2
        refine ⟨D, _, rfl, .inr (SqL.of eD), _, rfl, Nat.le_of_lt (small1000 (by rw [List.length_append]; show ys.length + 1 ≤ 1000; omega)), fun G hG => ?_⟩
        have s4 := same_new (o := .lst (ys ++ [.ref t])) hG
        have R4 : RowsIn (upd H3 G (.lst (ys ++ [.ref t]))) (ys ++ [.ref t]) ((rs.map fun o => wo o rest) ++ [rest]) := RowsIn.snoc (R3.same (TSame.of s4)) ⟨t, rfl, s4 _ _ ht3⟩
        obtain ⟨fs, efs⟩ : ∃ fs, fs = (rs.map fun o => wo o rest) ++ [rest] := ⟨_, rfl⟩
        rw [← efs] at R4
        have lfs : fs.length = rs.length + 1 := by rw [efs, List.length_append, List.length_map]; rfl
        have lys : (ys ++ [V.ref t]).length = fs.length := Paired.length R4
        have bfs : ∀ o ∈ fs, o.length ≤ 100 ∧ Small o 9000 ∧ leadN o ≠ none := fun o h => by
          rw [efs] at h
          rcases List.mem_append.mp h with q | q
          · obtain ⟨o', h', rfl⟩ := List.mem_map.mp q
            obtain ⟨o1, o2, o3⟩ := ho o' h'
            exact ⟨by rw [len_wo (by rw [o1, r1])]; omega, small_mono (small_wo o2 r2) (by omega), hwo o' h'⟩
          · rw [List.mem_singleton.mp q]
            exact ⟨by omega, small_mono r2 (by omega), lne⟩
        obtain ⟨H5, eH5⟩ : ∃ H5, H5 = upd H3 G (.lst (ys ++ [.ref t])) := ⟨_, rfl⟩
        have eG : H5 G = some (.lst (ys ++ [.ref t])) := by rw [eH5]; exact upd_same
        rw [← eH5] at R4 s4
        rw [← eH5]
        refine ⟨_, rfl, G, rfl, ⟨_, SqL.of eG⟩, fun D2 hD2 => ?_⟩
        refine lc_rel (walk_list (K := K) (a := G) (xs := ys ++ [.ref t])) (fun i y H' => ∃ q, y = .ref q ∧ TupAt H' q (prim (fs.getD i []))) (fun i y Ha Hb ts ⟨q, e, z⟩ => ⟨q, e, ts _ _ z⟩) hD2 (by omega) (fun H' s' => SqL.of (s' _ _ eG)) ?_ ?_
        · rintro i x H6 H7 kk hi s6 ⟨rfl, hxi⟩ kc
          obtain ⟨q, rfl, hq, hil⟩ := rows_at R4 hxi
          obtain ⟨o1, o2, o3⟩ := bfs _ (getD_mem hil)
          exact ⟨rfl, _, rfl, q, _, rfl, s6 _ _ hq, o1, o2, fun t' H8 s8 e8 => kc _ H8 s8 ⟨t', rfl, e8⟩⟩
        · intro zs H6 s6 eD2 lz pz
          have R6 : RowsIn H6 zs (fs.map prim) := rows_of (by rw [List.length_map]; omega) fun i y hy => by
            obtain ⟨q, e, z⟩ := pz i y hy
            have hi : i < fs.length := by
              have := (List.getElem?_eq_some_iff.mp hy).1
              omega
            refine ⟨q, e, ?_⟩
            rw [List.getD_eq_getElem?_getD, List.getElem?_map, List.getElem?_eq_getElem hi]
            rw [List.getD_eq_getElem?_getD, List.getElem?_eq_getElem hi] at z
            exact z
          have lz' : zs.length = (fs.map prim).length := Paired.length R6
          refine ⟨D2, zs, (fs.map prim).map fun r => ((leadD r : Nat) : Int), fun _ H' => Same H6 H', rfl, rfl, SqL.of eD2, by rw [List.length_map]; exact lz'.symm, by rw [lz', List.length_map]; omega, Same.refl _, ?_, ?_⟩
          · intro i x ky H' hx' hk s'
            obtain ⟨q, rfl, hq, hil⟩ := rows_at R6 hx'
            rw [List.getElem?_map, List.getElem?_eq_getElem hil] at hk
            rw [List.getD_eq_getElem?_getD, List.getElem?_eq_getElem hil] at hq
            have hk : some (((leadD ((fs.map prim)[i]) : Nat) : Int)) = some ky := hk
            have hm : (fs.map prim)[i] ∈ fs.map prim := List.getElem_mem hil
            refine ⟨q, _, rfl, s' _ _ hq, fun H7 s7 => ⟨?_, s'.trans s7⟩⟩
            obtain ⟨o, hom, eo⟩ := List.mem_map.mp hm
            show optV (leadN ((fs.map prim)[i])) = _
            rw [← Option.some.inj hk]
            unfold leadD
            cases q : leadN ((fs.map prim)[i]) with
            | none =>
              rw [← eo, lead_prim] at q
              exact absurd q (bfs o hom).2.2
            | some n => rfl
          · intro ps P' H7 s7 hperm hpw hP'
            obtain ⟨out, o1, o2⟩ := paired_perm hperm.symm (keyed (R6.same (TSame.of s7)))
            obtain ⟨u1, u2⟩ := unkey o2
            have s8 := same_new (o := .lst (ps.map Prod.snd)) hP'
            refine k P' _ out _ ((((s12.trans s3).trans s4).trans (s6.trans s7)).trans s8) (.inr ((((s12.trans s3).trans s4).trans (s6.trans s7)).free hP')) upd_same (u1.same (TSame.of s8)) (.inr ⟨by rw [← er]; exact lne, ?_, ?_⟩)
            · rw [← er]
              rw [efs, List.map_append, List.map_map] at o1
              exact o1
            · have q : (ps.map Prod.fst).Pairwise (· ≤ ·) := by rw [List.pairwise_map]; exact hpw
              rw [u2, List.pairwise_map] at q
              exact q.imp fun h => by omega
/-! is_row, where it is one -/
def spRow : Sp := fun vs H Q _ => ∃ (p : Addr) (r : Row), vs = [.ref p, .int (r.length : Nat)] ∧ TupAt H p r ∧ r.length ≤ 1000 ∧ ∀ H', Same H H' → Q (.bl true) H'
theorem ok_IsRow {f : Addr} {fd : FuncData} (F : Fun K "is_row" "is_row" sIsRow f fd) (T : TxRow mg) (GI : Has P w K mg base CX0 1 "is_integer" PIsInt (spIsInt K)) : FnOk P w K mg base CX0 2 f fd PIsRow spRow := by
  refine F.ok scIsRow (fun vs H Q E h => ?_) (fun cdv A outer s H vs Q E hr h => ?_)
  · obtain ⟨p, r, rfl, _⟩ := h
    rfl
  · obtain ⟨p, r, rfl, hp, hl, k⟩ := h
    refine ⟨_, (pss_one (ps_ret (pe_and (pe_callB call_isi (by rfl) T.n_isinstance bb_isinstance (pa_cons (pv 0) (pa_cons (pe_bltn (v := .ty "tuple") (by rfl) T.n_tuple bb_tuple rfl) pa_nil))) (pe_and (pe_cmpR op_eq (pe_callB call_len_seq (by rfl) T.n_len bb_len (pa_cons (pv 0) pa_nil)) (pv 1) (nomark _)) (pe_one (pe_callB (cr_all rfl) (by rfl) T.n_all bb_all (pa_cons (pe_lc (own := [("one", 2)]) (g := gName 2) (tt := tYes) rfl scIsRow.nd (pi_tup (pv 0)) (blkOk_by (own := [("one", 2)]) (N := NIsRow) (sc := (defScope sIsRow)) (by decide +kernel)) (fun _ _ _ _ _ => (pg_name (i := 2) scIsRow.nd rfl (Or.inl rfl))) (fun _ _ _ _ _ => pts_nil) (fun _ _ _ _ _ => (pe_callH GI hr rfl pass0 (pa_cons (pv 2) pa_nil)))) pa_nil))))))), ?_⟩
    refine ⟨_, rfl, _, _, _, _, _, rfl, .ty _, .base (.tup hp), kit_ty (r := true) (by decide +kernel), _, rfl, ?_⟩
    refine ⟨_, rfl, p, _, rfl, .inr (SqT.of hp), _, rfl, rfl, ?_⟩
    rw [List.length_map]
    refine ⟨true, by rw [decide_eq_true rfl], ?_⟩
    refine ⟨_, rfl, p, rfl, ⟨_, SqT.of hp⟩, fun D hD => ?_⟩
    refine lc_map (walk_tup (K := K) (a := p) (xs := r.map V.int)) (fun _ => V.bl true) hD (by rw [List.length_map]; exact hl) (fun H' s' => SqT.of (s' _ _ hp)) ?_ ?_
    · rintro i x H3 H4 kk hi s3 ⟨rfl, hxi⟩ kc
      obtain ⟨z, hz, rfl⟩ := int_at hxi
      exact ⟨rfl, _, rfl, _, rfl, .inl ⟨z, rfl, kc _ (Same.refl _)⟩⟩
    · intro H3 s3 e3
      refine ⟨D, (List.range (r.map V.int).length).map (fun _ => true), rfl, SqL.of (by rw [e3, List.map_map]; rfl), ?_⟩
      have ea : ((List.range (r.map V.int).length).map (fun _ => true)).all id = true := by
        rw [List.all_eq_true]
        intro b hb
        obtain ⟨_, _, rfl⟩ := List.mem_map.mp hb
        rfl
      rw [ea]
      exact k _ s3
end

/-! ### the plain law of rows: spans over the rationals -/
def ev (r : Row) (i : Nat) : Int := r.getD i 0
abbrev Vec := Nat → Int
inductive InSp (S : Row → Prop) : Vec → Prop
  | zero : InSp S (fun _ => 0)
  | add {u : Vec} (c : Int) {r : Row} : InSp S u → S r → InSp S (fun i => u i + c * ev r i)
theorem InSp.cg {S : Row → Prop} {u v : Vec} (h : InSp S u) (e : ∀ i, u i = v i) : InSp S v := by
  have : u = v := funext e
  rw [← this]
  exact h
theorem InSp.plus {S : Row → Prop} {u v : Vec} (h : InSp S u) (k : InSp S v) : InSp S (fun i => u i + v i) := by
  induction k with
  | zero => exact h.cg fun i => by simp
  | add c _ m ih => exact (InSp.add c ih m).cg fun i => by rw [Int.add_assoc]
theorem InSp.smul {S : Row → Prop} {u : Vec} (a : Int) (h : InSp S u) : InSp S (fun i => a * u i) := by
  induction h with
  | zero => exact InSp.zero.cg fun i => by simp
  | add c _ m ih => exact (InSp.add (a * c) ih m).cg fun i => by rw [Int.mul_add, Int.mul_assoc]
def QS (S : Row → Prop) (v : Vec) : Prop := ∃ m : Int, m ≠ 0 ∧ InSp S (fun i => m * v i)
theorem QS.cg {S : Row → Prop} {u v : Vec} (h : QS S u) (e : ∀ i, u i = v i) : QS S v := by
  have : u = v := funext e
  rw [← this]
  exact h
theorem QS.mem {S : Row → Prop} {r : Row} (h : S r) : QS S (ev r) := ⟨1, by decide, (InSp.add 1 .zero h).cg fun i => by simp⟩
theorem QS.plus {S : Row → Prop} {u v : Vec} (h : QS S u) (k : QS S v) : QS S (fun i => u i + v i) := by
  obtain ⟨m, m0, h⟩ := h
  obtain ⟨n, n0, k⟩ := k
  refine ⟨n * m, Int.mul_ne_zero n0 m0, ((h.smul n).plus (k.smul m)).cg fun i => ?_⟩
  rw [Int.mul_add, Int.mul_assoc, Int.mul_comm n m, Int.mul_assoc]
theorem QS.smul {S : Row → Prop} {u : Vec} (a : Int) (h : QS S u) : QS S (fun i => a * u i) := by
  obtain ⟨m, m0, h⟩ := h
  exact ⟨m, m0, (h.smul a).cg fun i => by rw [← Int.mul_assoc, ← Int.mul_assoc, Int.mul_comm a m]⟩
theorem QS.div {S : Row → Prop} {u : Vec} {a : Int} (ha : a ≠ 0) (h : QS S (fun i => a * u i)) : QS S u := by
  obtain ⟨m, m0, h⟩ := h
  exact ⟨m * a, Int.mul_ne_zero m0 ha, h.cg fun i => by rw [Int.mul_assoc]⟩
theorem QS.zero {S : Row → Prop} : QS S (fun _ => 0) := ⟨1, by decide, InSp.zero.cg fun i => by simp⟩
theorem InSp.trans {S T : Row → Prop} (h : ∀ r, S r → QS T (ev r)) {u : Vec} (k : InSp S u) : QS T u := by
  induction k with
  | zero => exact QS.zero
  | add c _ m ih => exact ih.plus ((h _ m).smul c)
theorem QS.trans {S T : Row → Prop} (h : ∀ r, S r → QS T (ev r)) {u : Vec} (k : QS S u) : QS T u := by
  obtain ⟨m, m0, k⟩ := k
  exact QS.div m0 (k.trans h)
/-- a combination: a * x = c * y - d * z -/
theorem QS.lin {S : Row → Prop} {x y z : Vec} {a c d : Int} (a0 : a ≠ 0) (e : ∀ i, a * x i = c * y i - d * z i) (hy : QS S y) (hz : QS S z) : QS S x :=
  QS.div a0 (((hy.smul c).plus (hz.smul (-d))).cg fun i => by rw [e i, Int.neg_mul]; omega)
/-! zeros and leads -/
theorem ev_out {r : Row} {i : Nat} (h : r.length ≤ i) : ev r i = 0 := by
  unfold ev
  rw [List.getD_eq_getElem?_getD, List.getElem?_eq_none h]
  rfl
theorem lead_none {r : Row} : leadN r = none ↔ ∀ i, ev r i = 0 := by
  unfold leadN ev
  rw [List.findIdx?_eq_none_iff]
  constructor
  · intro h i
    rw [List.getD_eq_getElem?_getD]
    cases e : r[i]? with
    | none => rfl
    | some x => simpa using h x (List.mem_of_getElem? e)
  · intro h x hx
    obtain ⟨i, hi, rfl⟩ := List.mem_iff_getElem.mp hx
    have q := h i
    rw [List.getD_eq_getElem?_getD, List.getElem?_eq_getElem hi] at q
    simpa using q
theorem lead_some {r : Row} {n : Nat} : leadN r = some n ↔ ev r n ≠ 0 ∧ ∀ j, j < n → ev r j = 0 := by
  unfold leadN
  rw [List.findIdx?_eq_some_iff_getElem]
  constructor
  · rintro ⟨hn, h1, h2⟩
    refine ⟨?_, fun j hj => ?_⟩
    · unfold ev
      rw [List.getD_eq_getElem?_getD, List.getElem?_eq_getElem hn]
      simpa using h1
    · unfold ev
      rw [List.getD_eq_getElem?_getD, List.getElem?_eq_getElem (by omega)]
      simpa using h2 j hj
  · rintro ⟨h1, h2⟩
    have hn : n < r.length := by
      rcases Nat.lt_or_ge n r.length with q | q
      · exact q
      · exact absurd (ev_out q) h1
    refine ⟨hn, ?_, fun j hj => ?_⟩
    · unfold ev at h1
      rw [List.getD_eq_getElem?_getD, List.getElem?_eq_getElem hn] at h1
      simpa using h1
    · have q := h2 j hj
      unfold ev at q
      rw [List.getD_eq_getElem?_getD, List.getElem?_eq_getElem (by omega)] at q
      simpa using q
theorem leadD_of {r : Row} {n : Nat} (h : leadN r = some n) : leadD r = n := by unfold leadD; rw [h]; rfl
theorem sgn_one (r : Row) : signR r = 1 ∨ signR r = -1 := by
  unfold signR
  split
  · split
    · exact .inl rfl
    · exact .inr rfl
  · exact .inl rfl
theorem prim_lin (r : Row) : ∃ a c : Int, a ≠ 0 ∧ c ≠ 0 ∧ ∀ i, a * ev (prim r) i = c * ev r i := by
  by_cases g0 : gcdR r = 0
  · refine ⟨1, 1, by decide, by decide, fun i => ?_⟩
    unfold prim
    rw [if_pos g0]
  · refine ⟨(gcdR r : Nat), signR r, by omega, ?_, fun i => ?_⟩
    · rcases sgn_one r with q | q <;> rw [q] <;> decide
    · unfold prim ev
      rw [if_neg g0, List.getD_eq_getElem?_getD, List.getD_eq_getElem?_getD, List.getElem?_map]
      cases e : r[i]? with
      | none => simp
      | some x =>
        show ((gcdR r : Nat) : Int) * ((signR r * x) / ((gcdR r : Nat) : Int)) = signR r * x
        obtain ⟨c, hc⟩ := gcd_dvd (List.mem_of_getElem? e)
        rw [Int.mul_ediv_cancel']
        exact ⟨signR r * c, by rw [hc, Int.mul_left_comm]⟩
theorem ev_prim {r : Row} {i : Nat} : ev (prim r) i = 0 ↔ ev r i = 0 := prim_zero i
theorem prim_pos {r : Row} {n : Nat} (h : leadN r = some n) : 0 < ev (prim r) n := by
  obtain ⟨h1, h2⟩ := lead_some.mp h
  have g0 : gcdR r ≠ 0 := fun q => by
    have hn : n < r.length := by
      rcases Nat.lt_or_ge n r.length with q | q
      · exact q
      · exact absurd (ev_out q) h1
    have e : ev r n = r[n] := by unfold ev; rw [List.getD_eq_getElem?_getD, List.getElem?_eq_getElem hn]; rfl
    exact h1 (e.trans (gcd_zero q (List.getElem_mem hn)))
  have hn : n < r.length := by
    rcases Nat.lt_or_ge n r.length with q | q
    · exact q
    · exact absurd (ev_out q) h1
  have e : r[n]? = some (ev r n) := by unfold ev; rw [List.getD_eq_getElem?_getD, List.getElem?_eq_getElem hn]; rfl
  have fx : r.find? (· ≠ 0) = some (ev r n) := by
    have q : leadN r = some n := h
    unfold leadN at q
    obtain ⟨_, q1, q2⟩ := List.findIdx?_eq_some_iff_getElem.mp q
    rw [List.find?_eq_some_iff_getElem]
    refine ⟨by simpa using h1, n, hn, ?_, fun j hj => by simpa using q2 j hj⟩
    rw [List.getElem?_eq_getElem hn] at e
    exact Option.some.inj e
  have sg : 0 < signR r * ev r n := by
    unfold signR
    rw [fx]
    show 0 < (if ev r n > 0 then (1 : Int) else -1) * ev r n
    split
    · omega
    · omega
  have val : ev (prim r) n = (signR r * ev r n) / ((gcdR r : Nat) : Int) := by
    unfold prim
    rw [if_neg g0]
    show (List.map _ r).getD n 0 = _
    rw [List.getD_eq_getElem?_getD, List.getElem?_map, e]
    rfl
  rw [val]
  obtain ⟨c, hc⟩ := gcd_dvd (List.mem_of_getElem? e)
  have gp : (0 : Int) < ((gcdR r : Nat) : Int) := by omega
  rw [hc, Int.mul_left_comm, Int.mul_ediv_cancel_left _ (by omega)]
  rw [hc, Int.mul_left_comm, Int.mul_comm] at sg
  exact Int.pos_of_mul_pos_left sg gp
theorem wo_lin {r o : Row} {n : Nat} (hl : r.length = o.length) (h : leadN o = some n) : ∃ a c d : Int, a ≠ 0 ∧ c ≠ 0 ∧ (∀ i, a * ev (wo r o) i = c * ev r i - d * ev o i) ∧ ev (wo r o) n = 0 ∧ (ev r n = 0 → wo r o = r) := by
  have on : ev o n ≠ 0 := (lead_some.mp h).1
  have hw : wo r o = if r.getD n 0 = 0 then r else prim (List.zipWith (fun x m => x * o.getD n 0 - m * r.getD n 0) r o) := by
    unfold wo
    rw [h]
  by_cases z : ev r n = 0
  · have e : wo r o = r := by rw [hw]; exact if_pos z
    refine ⟨1, 1, 0, by decide, by decide, fun i => ?_, ?_, fun _ => e⟩
    · rw [e]; omega
    · rw [e]; exact z
  · have e : wo r o = prim (List.zipWith (fun x m => x * o.getD n 0 - m * r.getD n 0) r o) := by rw [hw]; exact if_neg z
    have ez : ∀ i, ev (List.zipWith (fun x m => x * o.getD n 0 - m * r.getD n 0) r o) i = ev r i * ev o n - ev o i * ev r n := fun i => by
      by_cases hi : i < r.length
      · show (List.zipWith _ r o).getD i 0 = _
        rw [List.getD_eq_getElem?_getD, List.getElem?_zipWith, List.getElem?_eq_getElem hi, List.getElem?_eq_getElem (show i < o.length by omega)]
        show r[i] * ev o n - o[i] * ev r n = _
        have e1 : ev r i = r[i] := by unfold ev; rw [List.getD_eq_getElem?_getD, List.getElem?_eq_getElem hi]; rfl
        have e2 : ev o i = o[i]'(by omega) := by unfold ev; rw [List.getD_eq_getElem?_getD, List.getElem?_eq_getElem (show i < o.length by omega)]; rfl
        rw [e1, e2]
      · rw [ev_out (by rw [List.length_zipWith]; omega), ev_out (show r.length ≤ i by omega), ev_out (show o.length ≤ i by omega)]
        simp
    obtain ⟨a, c, a0, c0, hp⟩ := prim_lin (List.zipWith (fun x m => x * o.getD n 0 - m * r.getD n 0) r o)
    refine ⟨a, c * ev o n, c * ev r n, a0, Int.mul_ne_zero c0 on, fun i => ?_, ?_, fun q => absurd q z⟩
    · rw [e, hp i, ez i, Int.mul_sub, Int.mul_assoc, Int.mul_assoc, Int.mul_comm (ev o n) (ev r i), Int.mul_comm (ev r n) (ev o i)]
    · rw [e, ev_prim, ez n, Int.mul_comm, Int.sub_self]
/-! reduced systems -/
structure RS (w : Nat) (rs : List Row) : Prop where
  len : ∀ o ∈ rs, o.length = w
  ld : ∀ o ∈ rs, ∃ n, leadN o = some n ∧ 0 < ev o n
  red : rs.Pairwise (fun a b => leadD a < leadD b ∧ ev b (leadD a) = 0 ∧ ev a (leadD b) = 0)
theorem RS.lead {w : Nat} {rs : List Row} (h : RS w rs) {o : Row} (ho : o ∈ rs) : leadN o = some (leadD o) ∧ 0 < ev o (leadD o) := by
  obtain ⟨n, h1, h2⟩ := h.ld o ho
  rw [leadD_of h1]
  exact ⟨h1, h2⟩
theorem pw_of {α : Type} {R : α → α → Prop} {l : List α} (h : l.Pairwise R) : ∀ {a b : α}, a ∈ l → b ∈ l → a = b ∨ R a b ∨ R b a := by
  induction h with
  | nil => intro a b ha; cases ha
  | cons hx _ ih =>
    intro a b ha hb
    rcases List.mem_cons.mp ha with e | e
    · rcases List.mem_cons.mp hb with f | f
      · exact .inl (e.trans f.symm)
      · exact .inr (.inl (by rw [e]; exact hx b f))
    · rcases List.mem_cons.mp hb with f | f
      · exact .inr (.inr (by rw [f]; exact hx a e))
      · exact ih e f
theorem RS.zero {w : Nat} {rs : List Row} (h : RS w rs) {a b : Row} (ha : a ∈ rs) (hb : b ∈ rs) (ne : a ≠ b) : ev b (leadD a) = 0 := by
  rcases pw_of h.red ha hb with q | q | q
  · exact absurd q ne
  · exact q.2.1
  · exact q.2.2
theorem sum_upd {f g : Row → Int} {c : Int} {r : Row} : ∀ {rs : List Row}, rs.Nodup → r ∈ rs → (rs.map (fun o => (if o = r then f o + c else f o) * g o)).sum = (rs.map (fun o => f o * g o)).sum + c * g r
  | [], _, h => by cases h
  | o :: rs, nd, h => by
    obtain ⟨n1, n2⟩ := List.nodup_cons.mp nd
    rw [List.map_cons, List.map_cons, List.sum_cons, List.sum_cons]
    rcases List.mem_cons.mp h with e | e
    · subst e
      have q : ∀ x ∈ rs, (fun o => (if o = r then f o + c else f o) * g o) x = (fun o => f o * g o) x := fun x hx => by
        show (if x = r then f x + c else f x) * g x = f x * g x
        rw [if_neg (fun z => n1 (by rw [← z]; exact hx))]
      rw [List.map_congr_left q, if_pos rfl, Int.add_mul]
      omega
    · rw [sum_upd n2 e, if_neg (fun z => n1 (by rw [z]; exact e))]
      omega
theorem sum_one {f : Row → Int} {r : Row} : ∀ {rs : List Row}, rs.Nodup → r ∈ rs → (∀ o ∈ rs, o ≠ r → f o = 0) → (rs.map f).sum = f r
  | [], _, h, _ => by cases h
  | o :: rs, nd, h, z => by
    obtain ⟨n1, n2⟩ := List.nodup_cons.mp nd
    rw [List.map_cons, List.sum_cons]
    rcases List.mem_cons.mp h with e | e
    · subst e
      have q : ∀ rs : List Row, (∀ x ∈ rs, f x = 0) → (rs.map f).sum = 0 := by
        intro rs
        induction rs with
        | nil => intro _; rfl
        | cons y rs ih => intro hz; rw [List.map_cons, List.sum_cons, hz y (List.mem_cons_self ..), ih fun x hx => hz x (List.mem_cons_of_mem _ hx)]; rfl
      rw [q rs fun x hx => z x (List.mem_cons_of_mem _ hx) fun w => n1 (by rw [← w]; exact hx)]
      omega
    · rw [sum_one n2 e fun x hx => z x (List.mem_cons_of_mem _ hx), z o (List.mem_cons_self ..) fun w => n1 (by rw [w]; exact e)]
      omega
theorem sum_ne {f : Row → Int} : ∀ {rs : List Row}, (rs.map f).sum ≠ 0 → ∃ o ∈ rs, f o ≠ 0
  | [], h => absurd rfl h
  | o :: rs, h => by
    by_cases z : f o = 0
    · obtain ⟨x, hx, q⟩ := sum_ne (f := f) (rs := rs) (fun w => h (by rw [List.map_cons, List.sum_cons, z, w]; rfl))
      exact ⟨x, List.mem_cons_of_mem _ hx, q⟩
    · exact ⟨o, List.mem_cons_self .., z⟩
theorem RS.nodup {w : Nat} {rs : List Row} (h : RS w rs) : rs.Nodup := h.red.imp fun q e => by rw [e] at q; omega
theorem coefs {rs : List Row} (nd : rs.Nodup) {u : Vec} (k : InSp (· ∈ rs) u) : ∃ c : Row → Int, ∀ i, u i = (rs.map fun o => c o * ev o i).sum := by
  induction k with
  | zero =>
    refine ⟨fun _ => 0, fun i => ?_⟩
    have q : ∀ rs : List Row, (rs.map fun o => (0 : Int) * ev o i).sum = 0 := by
      intro rs
      induction rs with
      | nil => rfl
      | cons y rs ih => rw [List.map_cons, List.sum_cons, ih]; simp
    rw [q]
  | @add u c r _ m ih =>
    obtain ⟨f, hf⟩ := ih
    refine ⟨fun o => if o = r then f o + c else f o, fun i => ?_⟩
    show u i + c * ev r i = _
    rw [sum_upd (g := fun o => ev o i) nd m, hf i]
/-- what lies in the span of a reduced system has its lead among the leads -/
theorem RS.key {w : Nat} {rs : List Row} (h : RS w rs) {v : Row} {n : Nat} (hv : QS (· ∈ rs) (ev v)) (hn : leadN v = some n) : ∃ o ∈ rs, leadD o = n := by
  obtain ⟨m, m0, k⟩ := hv
  obtain ⟨c, hc⟩ := coefs h.nodup k
  obtain ⟨v1, v2⟩ := lead_some.mp hn
  have ne : (rs.map fun o => c o * ev o n).sum ≠ 0 := by
    rw [← hc n]
    exact Int.mul_ne_zero m0 v1
  obtain ⟨o, ho, hon⟩ := sum_ne ne
  have co : c o ≠ 0 := fun z => hon (by rw [z]; simp)
  have on : ev o n ≠ 0 := fun z => hon (by rw [z]; simp)
  obtain ⟨l1, l2⟩ := h.lead ho
  obtain ⟨l3, l4⟩ := lead_some.mp l1
  refine ⟨o, ho, ?_⟩
  have a1 : leadD o ≤ n := by
    rcases Nat.lt_or_ge n (leadD o) with q | q
    · exact absurd (l4 n q) on
    · exact q
  have at_ : m * ev v (leadD o) = c o * ev o (leadD o) := by
    rw [hc (leadD o)]
    exact sum_one (f := fun x => c x * ev x (leadD o)) h.nodup ho fun x hx hne => by
      show c x * ev x (leadD o) = 0
      rw [h.zero ho hx (Ne.symm hne)]
      simp
  have a2 : n ≤ leadD o := by
    rcases Nat.lt_or_ge (leadD o) n with q | q
    · exfalso
      rw [v2 _ q] at at_
      have z : c o * ev o (leadD o) = 0 := by rw [← at_]; simp
      rcases Int.mul_eq_zero.mp z with q' | q'
      · exact co q'
      · exact l3 q'
    · exact q
  omega
/-! added -/
theorem lead_ne_zero {r : Row} {n : Nat} (h : leadN r = some n) : leadN r ≠ none := by rw [h]; exact fun q => by cases q
theorem woAll_facts {w : Nat} {rs : List Row} (h : RS w rs) : ∀ (part : List Row), (∀ o ∈ part, o ∈ rs) → ∀ r : Row, r.length = w → (woAll part r).length = w ∧
    (∀ S : Row → Prop, (∀ o ∈ rs, S o) → QS S (ev r) → QS S (ev (woAll part r))) ∧ (∀ S : Row → Prop, (∀ o ∈ rs, S o) → QS S (ev (woAll part r)) → QS S (ev r)) ∧
    (∀ o ∈ rs, (o ∈ part ∨ ev r (leadD o) = 0) → ev (woAll part r) (leadD o) = 0) := by
  intro part
  induction part with
  | nil => exact fun _ r hr => ⟨hr, fun _ _ q => q, fun _ _ q => q, fun o _ q => q.elim (fun z => nomatch z) id⟩
  | cons o part ih =>
    intro hp r hr
    have ho := hp o (List.mem_cons_self ..)
    obtain ⟨l1, l2⟩ := h.lead ho
    have hl : r.length = o.length := hr.trans (h.len o ho).symm
    obtain ⟨a, c, d, a0, c0, e1, e2, e3⟩ := wo_lin hl l1
    obtain ⟨i1, i2, i3, i4⟩ := ih (fun x hx => hp x (List.mem_cons_of_mem _ hx)) (wo r o) ((len_wo hl).trans hr)
    refine ⟨i1, fun S hS q => i2 S hS (QS.lin a0 e1 q (QS.mem (hS o ho))), fun S hS q => ?_, fun x hx q => i4 x hx ?_⟩
    · refine QS.lin (x := ev r) (y := ev (wo r o)) (z := ev o) (a := c) (c := a) (d := -d) c0 (fun i => ?_) (i3 S hS q) (QS.mem (hS o ho))
      have := e1 i
      rw [Int.neg_mul]
      omega
    · by_cases hxo : x = o
      · subst hxo
        exact .inr e2
      · rcases q with q | q
        · rcases List.mem_cons.mp q with z | z
          · exact absurd z hxo
          · exact .inl z
        · refine .inr ?_
          have := e1 (leadD x)
          rw [q, h.zero hx ho hxo] at this
          have z : a * ev (wo r o) (leadD x) = 0 := by rw [this]; simp
          rcases Int.mul_eq_zero.mp z with z | z
          · exact absurd z a0
          · exact z
theorem rest_facts {w : Nat} {rs : List Row} (h : RS w rs) {r : Row} (hr : r.length = w) : (restOf rs r).length = w ∧
    (∀ S : Row → Prop, (∀ o ∈ rs, S o) → (QS S (ev r) ↔ QS S (ev (restOf rs r)))) ∧ ∀ o ∈ rs, ev (restOf rs r) (leadD o) = 0 := by
  obtain ⟨i1, i2, i3, i4⟩ := woAll_facts h rs (fun _ q => q) r hr
  obtain ⟨a, c, a0, c0, e⟩ := prim_lin (woAll rs r)
  refine ⟨(len_prim _).trans i1, fun S hS => ⟨fun q => ?_, fun q => i3 S hS ?_⟩, fun o ho => ev_prim.mpr (i4 o ho (.inl ho))⟩
  · exact QS.div a0 (((i2 S hS q).smul c).cg fun i => (e i).symm)
  · exact QS.div c0 ((q.smul a).cg fun i => e i)
theorem wo_rest {w : Nat} {rs : List Row} (h : RS w rs) {t o : Row} {l : Nat} (ht : t.length = w) (hl : leadN t = some l) (hz : ∀ o ∈ rs, ev t (leadD o) = 0) (ho : o ∈ rs) :
    (wo o t).length = w ∧ leadN (wo o t) = some (leadD o) ∧ ev (wo o t) l = 0 ∧ (∀ x ∈ rs, x ≠ o → ev (wo o t) (leadD x) = 0) ∧ leadD o ≠ l := by
  obtain ⟨l1, l2⟩ := h.lead ho
  obtain ⟨l3, l4⟩ := lead_some.mp l1
  obtain ⟨t3, t4⟩ := lead_some.mp hl
  have hlen : o.length = t.length := (h.len o ho).trans ht.symm
  obtain ⟨a, c, d, a0, c0, e1, e2, e3⟩ := wo_lin hlen hl
  have nel : leadD o ≠ l := fun q => t3 (by rw [← q]; exact hz o ho)
  have zero : ∀ {i : Nat}, ev o i = 0 → ev t i = 0 → ev (wo o t) i = 0 := fun {i} q1 q2 => by
    have := e1 i
    rw [q1, q2] at this
    have z : a * ev (wo o t) i = 0 := by rw [this]; simp
    rcases Int.mul_eq_zero.mp z with z | z
    · exact absurd z a0
    · exact z
  refine ⟨(len_wo hlen).trans (h.len o ho), ?_, e2, fun x hx ne => zero (h.zero hx ho ne) (hz x hx), nel⟩
  rcases Nat.lt_or_ge l (leadD o) with q | q
  · rw [e3 (l4 l q)]
    exact l1
  · rw [lead_some]
    refine ⟨fun z => ?_, fun j hj => zero (l4 j hj) (t4 j (by omega))⟩
    have := e1 (leadD o)
    rw [z, hz o ho] at this
    have z2 : c * ev o (leadD o) = 0 := by omega
    rcases Int.mul_eq_zero.mp z2 with z | z
    · exact c0 z
    · exact l3 z
theorem QS.prim {S : Row → Prop} {r : Row} : QS S (ev (prim r)) ↔ QS S (ev r) := by
  obtain ⟨a, c, a0, c0, e⟩ := prim_lin r
  exact ⟨fun q => QS.div c0 ((q.smul a).cg fun i => e i), fun q => QS.div a0 ((q.smul c).cg fun i => (e i).symm)⟩
theorem adds_RS {w : Nat} {rs out : List Row} {r : Row} (h : RS w rs) (hr : r.length = w) (ha : Adds rs r out) :
    RS w out ∧ (∀ v, QS (· ∈ out) v ↔ QS (fun x => x ∈ rs ∨ x = r) v) ∧ ((out.length = rs.length ∧ QS (· ∈ rs) (ev r)) ∨ (out.length = rs.length + 1 ∧ ¬ QS (· ∈ rs) (ev r))) := by
  obtain ⟨t1, t2, t3⟩ := rest_facts h hr
  rcases ha with ⟨ln, rfl⟩ | ⟨ln, hp, hs⟩
  · have inS : QS (· ∈ out) (ev r) := (t2 _ fun _ q => q).mpr (QS.zero.cg fun i => (lead_none.mp ln i).symm)
    refine ⟨h, fun v => ⟨fun q => q.trans fun x hx => QS.mem (.inl hx), fun q => q.trans fun x hx => ?_⟩, .inl ⟨rfl, inS⟩⟩
    rcases hx with hx | rfl
    · exact QS.mem hx
    · exact inS
  · obtain ⟨t, et⟩ : ∃ t, t = restOf rs r := ⟨_, rfl⟩
    rw [← et] at t1 t2 t3 ln hp
    obtain ⟨l, hl⟩ := Option.ne_none_iff_exists'.mp ln
    have wr := fun {o : Row} (ho : o ∈ rs) => wo_rest h t1 hl t3 ho
    have np : ∀ o ∈ rs, leadN (Aon.prim (wo o t)) = some (leadD o) := fun o ho => (lead_prim _).trans (wr ho).2.1
    have nd : ∀ o ∈ rs, leadD (Aon.prim (wo o t)) = leadD o := fun o ho => leadD_of (np o ho)
    have td : leadD (Aon.prim t) = l := leadD_of ((lead_prim t).trans hl)
    have mem : ∀ {x : Row}, x ∈ out ↔ (∃ o ∈ rs, Aon.prim (wo o t) = x) ∨ x = Aon.prim t := fun {x} => by
      rw [hp.mem_iff, List.mem_append, List.mem_map, List.mem_singleton]
    have nel : ∀ o ∈ rs, leadD o ≠ l := fun o ho => (wr ho).2.2.2.2
    have pn : out.Pairwise (fun a b => leadD a ≠ leadD b ∧ ev b (leadD a) = 0 ∧ ev a (leadD b) = 0) := by
      refine (hp.pairwise_iff (fun q => ⟨Ne.symm q.1, q.2.2, q.2.1⟩)).mpr ?_
      rw [List.pairwise_append]
      refine ⟨?_, List.pairwise_singleton _ _, ?_⟩
      · rw [List.pairwise_map]
        refine h.red.imp_of_mem fun {a b} ha hb q => ?_
        rw [nd a ha, nd b hb]
        have ne : a ≠ b := fun z => by rw [z] at q; omega
        exact ⟨by omega, ev_prim.mpr ((wr hb).2.2.2.1 a ha ne), ev_prim.mpr ((wr ha).2.2.2.1 b hb (Ne.symm ne))⟩
      · intro a ha b hb
        obtain ⟨o, ho, rfl⟩ := List.mem_map.mp ha
        rw [List.mem_singleton.mp hb, nd o ho, td]
        exact ⟨nel o ho, ev_prim.mpr (t3 o ho), ev_prim.mpr (wr ho).2.2.1⟩
    have toOut : ∀ x, x ∈ rs ∨ x = t → QS (· ∈ out) (ev x) := fun x hx => by
      have ht : QS (· ∈ out) (ev t) := QS.prim.mp (QS.mem (mem.mpr (.inr rfl)))
      rcases hx with hx | rfl
      · obtain ⟨a, c, d, a0, c0, e1, _, _⟩ := wo_lin ((h.len x hx).trans t1.symm) hl
        have hw : QS (· ∈ out) (ev (wo x t)) := QS.prim.mp (QS.mem (mem.mpr (.inl ⟨x, hx, rfl⟩)))
        refine QS.lin (x := ev x) (y := ev (wo x t)) (z := ev t) (a := c) (c := a) (d := -d) c0 (fun i => ?_) hw ht
        have := e1 i
        rw [Int.neg_mul]
        omega
      · exact ht
    refine ⟨⟨fun x hx => ?_, fun x hx => ?_, ?_⟩, fun v => ⟨fun q => q.trans fun x hx => ?_, fun q => q.trans fun x hx => ?_⟩, .inr ⟨?_, fun q => ?_⟩⟩
    · rcases mem.mp hx with ⟨o, ho, rfl⟩ | rfl
      · exact (len_prim _).trans (wr ho).1
      · exact (len_prim _).trans t1
    · rcases mem.mp hx with ⟨o, ho, rfl⟩ | rfl
      · exact ⟨_, np o ho, prim_pos (wr ho).2.1⟩
      · exact ⟨l, (lead_prim t).trans hl, prim_pos hl⟩
    · refine (hs.and pn).imp fun q => ?_
      exact ⟨by omega, q.2.2.1, q.2.2.2⟩
    · have tS : QS (fun x => x ∈ rs ∨ x = r) (ev t) := (t2 _ fun _ q => .inl q).mp (QS.mem (.inr rfl))
      rcases mem.mp hx with ⟨o, ho, rfl⟩ | rfl
      · obtain ⟨a, c, d, a0, c0, e1, _, _⟩ := wo_lin ((h.len o ho).trans t1.symm) hl
        exact QS.prim.mpr (QS.lin a0 e1 (QS.mem (.inl ho)) tS)
      · exact QS.prim.mpr tS
    · rcases hx with hx | rfl
      · exact toOut x (.inl hx)
      · have q : QS (fun y => y ∈ rs ∨ y = t) (ev x) := (t2 _ fun _ z => .inl z).mpr (QS.mem (.inr rfl))
        exact q.trans toOut
    · rw [hp.length_eq, List.length_append, List.length_map]
      rfl
    · obtain ⟨o, ho, e⟩ := h.key ((t2 _ fun _ z => z).mp q) hl
      exact nel o ho e
/-- what added wants known -/
theorem adds_pre {w : Nat} {rs : List Row} {r : Row} (h : RS w rs) (hr : r.length = w) : leadN (restOf rs r) ≠ none → ∀ o ∈ rs, leadN (wo o (restOf rs r)) ≠ none := fun ln o ho => by
  obtain ⟨t1, t2, t3⟩ := rest_facts h hr
  obtain ⟨l, hl⟩ := Option.ne_none_iff_exists'.mp ln
  rw [(wo_rest h t1 hl t3 ho).2.1]
  exact fun q => by cases q
/-! echelon systems, and how many rows they have -/
structure Ech (rs : List Row) : Prop where
  ld : ∀ o ∈ rs, leadN o ≠ none
  red : rs.Pairwise (fun a b => leadD a < leadD b)
theorem RS.ech {w : Nat} {rs : List Row} (h : RS w rs) : Ech rs := ⟨fun o ho => by rw [(h.lead ho).1]; exact fun q => (by cases q), h.red.imp fun q => q.1⟩
theorem Ech.key {rs : List Row} (h : Ech rs) {v : Row} {n : Nat} (hv : QS (· ∈ rs) (ev v)) (hn : leadN v = some n) : ∃ o ∈ rs, leadD o = n := by
  obtain ⟨m, m0, k⟩ := hv
  have nd : rs.Nodup := h.red.imp fun q e => by rw [e] at q; omega
  obtain ⟨c, hc⟩ := coefs nd k
  obtain ⟨v1, v2⟩ := lead_some.mp hn
  clear k nd
  -- the first row with a part
  have main : ∀ rs : List Row, Ech rs → (∀ i, m * ev v i = (rs.map fun o => c o * ev o i).sum) → ∃ o ∈ rs, leadD o = n := by
    intro rs
    induction rs with
    | nil =>
      intro _ e
      have := e n
      simp only [List.map_nil, List.sum_nil] at this
      exact absurd this (Int.mul_ne_zero m0 v1)
    | cons o rs ih =>
      intro hE e
      obtain ⟨p1, p2⟩ := List.pairwise_cons.mp hE.red
      have hE' : Ech rs := ⟨fun x hx => hE.ld x (List.mem_cons_of_mem _ hx), p2⟩
      by_cases co : c o = 0
      · obtain ⟨x, hx, q⟩ := ih hE' fun i => by rw [e i, List.map_cons, List.sum_cons, co]; simp
        exact ⟨x, List.mem_cons_of_mem _ hx, q⟩
      · refine ⟨o, List.mem_cons_self .., ?_⟩
        obtain ⟨l, hl⟩ := Option.ne_none_iff_exists'.mp (hE.ld o (List.mem_cons_self ..))
        obtain ⟨o3, o4⟩ := lead_some.mp hl
        have ol := leadD_of hl
        have zr : ∀ i, i ≤ l → (rs.map fun x => c x * ev x i).sum = 0 := fun i hi => by
          by_cases z : (rs.map fun x => c x * ev x i).sum = 0
          · exact z
          · exfalso
            obtain ⟨x, hx, q⟩ := sum_ne (f := fun x => c x * ev x i) z
            obtain ⟨lx, hlx⟩ := Option.ne_none_iff_exists'.mp (hE.ld x (List.mem_cons_of_mem _ hx))
            have := p1 x hx
            rw [ol, leadD_of hlx] at this
            exact q (by show c x * ev x i = 0; rw [(lead_some.mp hlx).2 i (by omega)]; simp)
        have low : ∀ i, i < l → ev v i = 0 := fun i hi => by
          have := e i
          rw [List.map_cons, List.sum_cons, zr i (by omega), o4 i hi] at this
          have z : m * ev v i = 0 := by rw [this]; simp
          rcases Int.mul_eq_zero.mp z with z | z
          · exact absurd z m0
          · exact z
        have atl : ev v l ≠ 0 := fun z => by
          have := e l
          rw [List.map_cons, List.sum_cons, zr l (Nat.le_refl _), z] at this
          have z2 : c o * ev o l = 0 := by
            have h2 : m * 0 = c o * ev o l + 0 := this
            omega
          rcases Int.mul_eq_zero.mp z2 with z | z
          · exact co z
          · exact o3 z
        rw [ol]
        have := lead_some.mpr ⟨atl, low⟩
        rw [hn] at this
        exact (Option.some.inj this).symm
  exact main rs h hc
theorem nodup_le : ∀ {a b : List Nat}, a.Nodup → (∀ x ∈ a, x ∈ b) → a.length ≤ b.length
  | [], _, _, _ => Nat.zero_le _
  | x :: a, b, nd, h => by
    obtain ⟨n1, n2⟩ := List.nodup_cons.mp nd
    have hx := h x (List.mem_cons_self ..)
    have q := nodup_le (a := a) (b := b.erase x) n2 fun y hy => by
      rw [List.mem_erase_of_ne (fun z => n1 (by rw [← z]; exact hy))]
      exact h y (List.mem_cons_of_mem _ hy)
    rw [List.length_erase_of_mem hx] at q
    have := List.length_pos_of_mem hx
    rw [List.length_cons]
    omega
theorem Ech.le {a b : List Row} (ha : Ech a) (hb : Ech b) (h : ∀ r ∈ a, QS (· ∈ b) (ev r)) : a.length ≤ b.length := by
  have nd : (a.map leadD).Nodup := by
    rw [List.nodup_iff_pairwise_ne, List.pairwise_map]
    exact ha.red.imp fun q => by omega
  have q := nodup_le (b := b.map leadD) nd fun n hn => by
    obtain ⟨r, hr, rfl⟩ := List.mem_map.mp hn
    obtain ⟨l, hl⟩ := Option.ne_none_iff_exists'.mp (ha.ld r hr)
    obtain ⟨o, ho, e⟩ := hb.key (h r hr) hl
    rw [leadD_of hl]
    exact List.mem_map.mpr ⟨o, ho, e⟩
  rw [List.length_map, List.length_map] at q
  exact q
theorem Ech.eq {a b : List Row} (ha : Ech a) (hb : Ech b) (h : ∀ v, QS (· ∈ a) v ↔ QS (· ∈ b) v) : a.length = b.length :=
  Nat.le_antisymm (ha.le hb fun r hr => (h _).mp (QS.mem hr)) (hb.le ha fun r hr => (h _).mpr (QS.mem hr))
theorem ev_range {n : Nat} {f : Nat → Int} {i : Nat} (h : i < n) : ev ((List.range n).map f) i = f i := by
  unfold ev
  rw [List.getD_eq_getElem?_getD, List.getElem?_map, List.getElem?_range h]
  rfl

/-! ### reduced rows without common factors are told by their span -/
theorem gcd_great {p q : Nat} : ∀ {r : Row} {g : Nat}, (∀ x ∈ r, (p : Int) ∣ (q : Int) * x) → p ∣ q * g → p ∣ q * r.foldl (fun g x => Int.gcd g x) g
  | [], _, _, h => h
  | y :: r, g, hx, h => gcd_great (r := r) (fun x hx' => hx x (List.mem_cons_of_mem _ hx')) (by
      have hy := hx y (List.mem_cons_self ..)
      have e : q * Int.gcd (g : Int) y = Nat.gcd (q * g) (q * y.natAbs) := by rw [Nat.gcd_mul_left]; rfl
      rw [e]
      refine Nat.dvd_gcd h ?_
      have z := Int.natAbs_dvd_natAbs.mpr hy
      rwa [Int.natAbs_natCast, Int.natAbs_mul, Int.natAbs_natCast] at z)
theorem row_ext {a b : Row} (hl : a.length = b.length) (h : ∀ i, ev a i = ev b i) : a = b := by
  refine List.ext_getElem hl fun i h1 h2 => ?_
  have z := h i
  unfold ev at z
  rw [List.getD_eq_getElem?_getD, List.getD_eq_getElem?_getD, List.getElem?_eq_getElem h1, List.getElem?_eq_getElem h2] at z
  exact z
theorem mem_ev {r : Row} {x : Int} (h : x ∈ r) : ∃ i, x = ev r i := by
  obtain ⟨i, hi⟩ := List.mem_iff_getElem?.mp h
  exact ⟨i, (getD_of hi).symm⟩
theorem ev_mem {r : Row} {i : Nat} (h : i < r.length) : ev r i ∈ r := by
  unfold ev
  rw [List.getD_eq_getElem?_getD, List.getElem?_eq_getElem h]
  exact List.getElem_mem h
theorem uniq_dvd {o o' : Row} {p q : Nat} (g1 : gcdR o = 1) (e : ∀ i, (q : Int) * ev o i = (p : Int) * ev o' i) : p ∣ q := by
  have z := gcd_great (p := p) (q := q) (r := o) (g := 0) (fun x hx => by
    obtain ⟨i, rfl⟩ := mem_ev hx
    rw [e i]
    exact Int.dvd_mul_right ..) (by rw [Nat.mul_zero]; exact Nat.dvd_zero _)
  rw [show o.foldl (fun g x => Int.gcd g x) 0 = 1 from g1, Nat.mul_one] at z
  exact z
theorem uniq_row {o o' : Row} {n : Nat} (hl : o.length = o'.length) (p0 : 0 < ev o n) (q0 : 0 < ev o' n) (g1 : gcdR o = 1) (g2 : gcdR o' = 1) (e : ∀ i, ev o' n * ev o i = ev o n * ev o' i) : o = o' := by
  obtain ⟨p, ep⟩ : ∃ p : Nat, ev o n = (p : Int) := ⟨(ev o n).toNat, by omega⟩
  obtain ⟨q, eq⟩ : ∃ q : Nat, ev o' n = (q : Int) := ⟨(ev o' n).toNat, by omega⟩
  rw [ep, eq] at e
  rw [ep] at p0
  rw [eq] at q0
  have h1 : p ∣ q := uniq_dvd g1 e
  have h2 : q ∣ p := uniq_dvd g2 fun i => (e i).symm
  obtain rfl : p = q := Nat.dvd_antisymm h1 h2
  exact row_ext hl fun i => Int.eq_of_mul_eq_mul_left (by omega) (e i)
theorem gcd_pos_of {r : Row} {n : Nat} (h : leadN r = some n) : gcdR r ≠ 0 := fun z => by
  obtain ⟨h1, _⟩ := lead_some.mp h
  refine h1 ?_
  by_cases hn : n < r.length
  · exact gcd_zero z (ev_mem hn)
  · exact ev_out (by omega)
theorem gcd_prim {r : Row} (h : gcdR r ≠ 0) : gcdR (prim r) = 1 := by
  obtain ⟨g, eg⟩ : ∃ g, g = gcdR r := ⟨_, rfl⟩
  obtain ⟨d, ed⟩ : ∃ d, d = gcdR (prim r) := ⟨_, rfl⟩
  have key : d * g ∣ 1 * gcdR r := gcd_great (r := r) (g := 0) (fun x hx => by
    have hg : ((gcdR r : Nat) : Int) ∣ signR r * x := Int.dvd_trans (gcd_dvd hx) (Int.dvd_mul_left ..)
    have hd : ((d : Nat) : Int) ∣ signR r * x / ((gcdR r : Nat) : Int) := by
      rw [ed]
      refine gcd_dvd ?_
      unfold prim
      rw [if_neg h]
      exact List.mem_map.mpr ⟨x, hx, rfl⟩
    obtain ⟨k, hk⟩ := hd
    have e1 : signR r * x = ((gcdR r : Nat) : Int) * (((d : Nat) : Int) * k) := by rw [← hk, Int.mul_ediv_cancel' hg]
    have e2 : x = signR r * (((gcdR r : Nat) : Int) * (((d : Nat) : Int) * k)) := by
      rw [← e1, ← Int.mul_assoc]
      rcases sgn_one r with z | z <;> rw [z] <;> simp
    refine ⟨signR r * k, ?_⟩
    rw [e2, eg, Int.natCast_mul, Int.natCast_one, Int.one_mul]
    simp only [Int.mul_assoc, Int.mul_comm, Int.mul_left_comm]) (by simp)
  rw [Nat.one_mul, ← eg] at key
  rw [← ed]
  have g0 : 0 < g := by omega
  obtain ⟨k, hk⟩ := key
  have h3 : g * (d * k) = g * 1 := by rw [Nat.mul_one]; conv => rhs; rw [hk]
                                      rw [Nat.mul_comm d g, Nat.mul_assoc]
  have h4 := Nat.eq_of_mul_eq_mul_left g0 h3
  exact Nat.eq_one_of_mul_eq_one_right h4
theorem sorted_ext {f : Row → Nat} : ∀ {a b : List Row}, a.Pairwise (fun x y => f x < f y) → b.Pairwise (fun x y => f x < f y) → (∀ x, x ∈ a ↔ x ∈ b) → a = b
  | [], [], _, _, _ => rfl
  | [], y :: b, _, _, h => nomatch (h y).mpr (List.mem_cons_self ..)
  | x :: a, [], _, _, h => nomatch (h x).mp (List.mem_cons_self ..)
  | x :: a, y :: b, ha, hb, h => by
    rw [List.pairwise_cons] at ha hb
    have exy : x = y := by
      rcases List.mem_cons.mp ((h x).mp (List.mem_cons_self ..)) with e | e
      · exact e
      · rcases List.mem_cons.mp ((h y).mpr (List.mem_cons_self ..)) with e2 | e2
        · exact e2.symm
        · have := ha.1 y e2
          have := hb.1 x e
          omega
    subst exy
    congr 1
    refine sorted_ext ha.2 hb.2 fun z => ⟨fun hz => ?_, fun hz => ?_⟩
    · rcases List.mem_cons.mp ((h z).mp (List.mem_cons_of_mem _ hz)) with e | e
      · subst e
        have := ha.1 z hz
        omega
      · exact e
    · rcases List.mem_cons.mp ((h z).mpr (List.mem_cons_of_mem _ hz)) with e | e
      · subst e
        have := hb.1 z hz
        omega
      · exact e
theorem RS.same_row {w : Nat} {a b : List Row} (ha : RS w a) (hb : RS w b) (hs : ∀ v, QS (· ∈ a) v ↔ QS (· ∈ b) v) {o o' : Row} (ho : o ∈ a) (ho' : o' ∈ b) (hl : leadD o = leadD o') (g1 : gcdR o = 1) (g2 : gcdR o' = 1) : o = o' := by
  obtain ⟨l1, p1⟩ := ha.lead ho
  obtain ⟨l2, p2⟩ := hb.lead ho'
  rw [← hl] at p2 l2
  have L1 := ha.len o ho
  have L2 := hb.len o' ho'
  refine uniq_row (L1.trans L2.symm) p1 p2 g1 g2 fun i => ?_
  obtain ⟨v, hv⟩ : ∃ v : Row, v = (List.range w).map fun i => ev o' (leadD o) * ev o i - ev o (leadD o) * ev o' i := ⟨_, rfl⟩
  have evv : ∀ i, ev v i = ev o' (leadD o) * ev o i - ev o (leadD o) * ev o' i := fun i => by
    by_cases hi : i < w
    · rw [hv, ev_range hi]
    · rw [hv, ev_out (by rw [List.length_map, List.length_range]; omega), ev_out (r := o) (i := i) (by omega), ev_out (r := o') (i := i) (by omega)]
      simp
  have vin : QS (· ∈ a) (ev v) := (((QS.mem ho).smul (ev o' (leadD o))).plus (((hs _).mpr (QS.mem ho')).smul (-ev o (leadD o)))).cg fun i => by
    rw [evv i, Int.neg_mul]
    omega
  cases lv : leadN v with
  | none =>
    have := (lead_none.mp lv) i
    rw [evv i] at this
    omega
  | some n =>
    exfalso
    obtain ⟨x, hx, xl⟩ := ha.key vin lv
    obtain ⟨y, hy, yl⟩ := hb.key ((hs _).mp vin) lv
    refine (lead_some.mp lv).1 ?_
    rw [evv n]
    by_cases e1 : x = o
    · have en : n = leadD o := by rw [← xl, e1]
      rw [en, Int.mul_comm, Int.sub_self]
    · have z1 := ha.zero hx ho e1
      rw [xl] at z1
      have e2 : y ≠ o' := fun e => e1 (by
        rcases pw_of ha.red hx ho with q | q | q
        · exact q
        · rw [xl, hl, ← e, yl] at q
          omega
        · rw [xl, hl, ← e, yl] at q
          omega)
      have z2 := hb.zero hy ho' e2
      rw [yl] at z2
      rw [z1, z2]
      simp
theorem RS.uniq {w : Nat} {a b : List Row} (ha : RS w a) (hb : RS w b) (ga : ∀ o ∈ a, gcdR o = 1) (gb : ∀ o ∈ b, gcdR o = 1) (hs : ∀ v, QS (· ∈ a) v ↔ QS (· ∈ b) v) : a = b := by
  refine sorted_ext (f := leadD) (ha.red.imp fun q => q.1) (hb.red.imp fun q => q.1) fun x => ⟨fun hx => ?_, fun hx => ?_⟩
  · obtain ⟨y, hy, e⟩ := hb.key ((hs _).mp (QS.mem hx)) (ha.lead hx).1
    rw [ha.same_row hb hs hx hy e.symm (ga x hx) (gb y hy)]
    exact hy
  · obtain ⟨y, hy, e⟩ := ha.key ((hs _).mpr (QS.mem hx)) (hb.lead hx).1
    rw [← ha.same_row hb hs hy hx e (ga y hy) (gb x hx)]
    exact hy
theorem RS.le_w {w : Nat} {a : List Row} (h : RS w a) : a.length ≤ w := by
  have q := nodup_le (a := a.map leadD) (b := List.range w) (by
    rw [List.nodup_iff_pairwise_ne, List.pairwise_map]
    exact h.red.imp fun q => by omega) fun x hx => by
      obtain ⟨o, ho, rfl⟩ := List.mem_map.mp hx
      rw [List.mem_range]
      have l1 := (h.lead ho).2
      by_cases z : leadD o < w
      · exact z
      · rw [ev_out (by rw [h.len o ho]; omega)] at l1
        omega
  rwa [List.length_map, List.length_range] at q
theorem adds_gcd {w : Nat} {rs out : List Row} {r : Row} (h : RS w rs) (hr : r.length = w) (hg : ∀ o ∈ rs, gcdR o = 1) (ha : Adds rs r out) : ∀ o ∈ out, gcdR o = 1 := by
  have pre := adds_pre h hr
  rcases ha with ⟨_, rfl⟩ | ⟨ln, hp, _⟩
  · exact hg
  · intro o ho
    have key : ∀ x : Row, leadN x ≠ none → gcdR (prim x) = 1 := fun x hx => by
      cases e : leadN x with
      | none => exact absurd e hx
      | some n => exact gcd_prim (gcd_pos_of e)
    rcases List.mem_append.mp (hp.mem_iff.mp ho) with q | q
    · obtain ⟨x, hx, rfl⟩ := List.mem_map.mp q
      exact key _ (pre ln x hx)
    · rw [List.mem_singleton.mp q]
      exact key _ ln

/-! ### is_row with both answers; reduced, a sharper bound -/
def EB (B : Nat) : Nat → Nat
  | 0 => 1
  | 1 => B
  | f + 2 => B + (f + 2) * (EB B (f + 1) + 1)
theorem EB_step {B : Nat} (b0 : 0 < B) : ∀ f : Nat, EB B f ≤ EB B (f + 1)
  | 0 => b0
  | f + 1 => by
    show EB B (f + 1) ≤ B + (f + 2) * (EB B (f + 1) + 1)
    have : 1 * (EB B (f + 1) + 1) ≤ (f + 2) * (EB B (f + 1) + 1) := Nat.mul_le_mul_right _ (by omega)
    omega
theorem EB_mono {B f g : Nat} (b0 : 0 < B) (h : f ≤ g) : EB B f ≤ EB B g := by
  induction h with
  | refl => exact Nat.le_refl _
  | step _ ih => exact Nat.le_trans ih (EB_step b0 _)
theorem EB_pos {B : Nat} (b0 : 0 < B) (f : Nat) : 0 < EB B f := Nat.lt_of_lt_of_le (show 0 < 1 by decide) (EB_mono b0 (f := 0) (Nat.zero_le f))
theorem adds_small {w B C : Nat} {rs out : List Row} {r : Row} (h : RS w rs) (hr : r.length = w) (sr : Small r B) (so : ∀ o ∈ rs, Small o C) (ha : Adds rs r out) : (out = rs) ∨ (out.length = rs.length + 1 ∧ (∀ o ∈ out, Small o (B + (rs.length + 1) * (C + 1))) ∧ (rs = [] → ∀ o ∈ out, Small o B)) := by
  rcases ha with ⟨_, e⟩ | ⟨ln, hp, _⟩
  · exact .inl e
  · obtain ⟨w1, w2⟩ := woAll_inv (rs := rs) (C := C) (n := w) (fun o ho => ⟨h.len o ho, so o ho⟩) hr sr
    have r2 : Small (restOf rs r) (B + rs.length * (C + 1)) := small_prim w2
    have rm : (rs.length + 1) * (C + 1) = rs.length * (C + 1) + (C + 1) := Nat.succ_mul ..
    refine .inr ⟨by rw [hp.length_eq, List.length_append, List.length_map]; rfl, fun o ho => ?_, fun e o ho => ?_⟩
    · rcases List.mem_append.mp (hp.mem_iff.mp ho) with q | q
      · obtain ⟨x, hx, rfl⟩ := List.mem_map.mp q
        exact small_mono (small_prim (small_wo (so x hx) r2)) (by omega)
      · rw [List.mem_singleton.mp q]
        exact small_mono (small_prim r2) (by omega)
    · subst e
      rcases List.mem_append.mp (hp.mem_iff.mp ho) with q | q
      · cases q
      · rw [List.mem_singleton.mp q]
        exact small_prim (small_prim sr)
theorem QS.iff_of {S T : Row → Prop} (h1 : ∀ r, S r → QS T (ev r)) (h2 : ∀ r, T r → QS S (ev r)) (v : Vec) : QS S v ↔ QS T v := ⟨fun q => q.trans h1, fun q => q.trans h2⟩
/-- what reduced gives -/
structure Reds (w B : Nat) (rows out : List Row) : Prop where
  rs : RS w out
  span : ∀ v, QS (· ∈ out) v ↔ QS (· ∈ rows) v
  small : ∀ o ∈ out, Small o (EB B out.length)
  le : out.length ≤ rows.length
  gcd : ∀ o ∈ out, gcdR o = 1
theorem reds_nil {w B : Nat} : Reds w B [] [] := ⟨⟨(fun _ z => nomatch z), (fun _ z => nomatch z), .nil⟩, fun _ => Iff.rfl, (fun _ z => nomatch z), Nat.le_refl _, (fun _ z => nomatch z)⟩
theorem reds_snoc {w B : Nat} {rows out out' : List Row} {r : Row} (h : Reds w B rows out) (hr : r.length = w) (sr : Small r B) (ha : Adds out r out') : Reds w B (rows ++ [r]) out' := by
  obtain ⟨a1, a2, a3⟩ := adds_RS h.rs hr ha
  have mem : ∀ x, x ∈ rows ++ [r] ↔ x ∈ rows ∨ x = r := fun x => by rw [List.mem_append, List.mem_singleton]
  refine ⟨a1, fun v => (a2 v).trans (QS.iff_of (fun x hx => ?_) (fun x hx => ?_) v), ?_, ?_, adds_gcd h.rs hr h.gcd ha⟩
  · rcases hx with hx | rfl
    · exact ((h.span _).mp (QS.mem hx)).trans fun y hy => QS.mem ((mem y).mpr (.inl hy))
    · exact QS.mem ((mem x).mpr (.inr rfl))
  · rcases (mem x).mp hx with hx | rfl
    · exact ((h.span _).mpr (QS.mem hx)).trans fun y hy => QS.mem (.inl hy)
    · exact QS.mem (.inr rfl)
  · rcases adds_small h.rs hr sr h.small ha with rfl | ⟨e, q, q1⟩
    · exact h.small
    · rw [e]
      cases el : out.length with
      | zero => exact q1 (List.eq_nil_of_length_eq_zero el)
      | succ f => rw [el] at q; exact q
  · rw [List.length_append]
    have := h.le
    show _ ≤ rows.length + 1
    rcases a3 with q | q <;> omega
theorem reds_uniq {w B B' : Nat} {rows rows' out out' : List Row} (h : Reds w B rows out) (h' : Reds w B' rows' out') (e : ∀ v, QS (· ∈ rows) v ↔ QS (· ∈ rows') v) : out = out' :=
  h.rs.uniq h'.rs h.gcd h'.gcd fun v => (h.span v).trans ((e v).trans (h'.span v).symm)
section
variable {P : Program} {w : World} {K : PySem.W.Frag} {mg : Str → Option Value} {base : Heap}
/-- what is no row of n numbers -/
inductive NoRow (K : PySem.W.Frag) (H : Hp) (n : Nat) : V → Prop where
  | kind {v : V} {t : Value} (ty : TyX K H v t) (k : PySem.W.kitOne K t (.type "tuple") = some false) : NoRow K H n v
  | len {p : Addr} {xs : List V} (e : H p = some (.tup xs)) (h : xs.length ≠ n) : NoRow K H n (.ref p)
  | item {p : Addr} {xs : List V} (e : H p = some (.tup xs)) (h : xs.length = n) (h0 : 0 < n) (h1 : n ≤ 1000) (k : ∀ H', Same H H' → ∀ x ∈ xs, NoInt K H' x) : NoRow K H n (.ref p)
def spRowG (K : PySem.W.Frag) : Sp := fun vs H Q _ => ∃ (v : V) (n : Nat), vs = [v, .int (n : Nat)] ∧ ((∃ (p : Addr) (r : Row), v = .ref p ∧ TupAt H p r ∧ r.length = n ∧ r.length ≤ 1000 ∧ ∀ H', Same H H' → Q (.bl true) H') ∨ (NoRow K H n v ∧ ∀ H', Same H H' → Q (.bl false) H'))
theorem ok_IsRowG {f : Addr} {fd : FuncData} (F : Fun K "is_row" "is_row" sIsRow f fd) (T : TxRow mg) (GI : Has P w K mg base CX0 1 "is_integer" PIsInt (spIsInt K)) : FnOk P w K mg base CX0 2 f fd PIsRow (spRowG K) := by
  refine F.ok scIsRow (fun vs H Q E h => ?_) (fun cdv A outer s H vs Q E hr h => ?_)
  · obtain ⟨v, n, rfl, _⟩ := h
    rfl
  · obtain ⟨v, n, rfl, h⟩ := h
    refine ⟨_, (pss_one (ps_ret (pe_and (pe_callB call_isi (by rfl) T.n_isinstance bb_isinstance (pa_cons (pv 0) (pa_cons (pe_bltn (v := .ty "tuple") (by rfl) T.n_tuple bb_tuple rfl) pa_nil))) (pe_and (pe_cmpR op_eq (pe_callB call_len_seq (by rfl) T.n_len bb_len (pa_cons (pv 0) pa_nil)) (pv 1) (nomark _)) (pe_one (pe_callB (cr_all rfl) (by rfl) T.n_all bb_all (pa_cons (pe_lc (own := [("one", 2)]) (g := gName 2) (tt := tYes) rfl scIsRow.nd (pi_tup (pv 0)) (blkOk_by (own := [("one", 2)]) (N := NIsRow) (sc := (defScope sIsRow)) (by decide +kernel)) (fun _ _ _ _ _ => (pg_name (i := 2) scIsRow.nd rfl (Or.inl rfl))) (fun _ _ _ _ _ => pts_nil) (fun _ _ _ _ _ => (pe_callH GI hr rfl pass0 (pa_cons (pv 2) pa_nil)))) pa_nil))))))), ?_⟩
    rcases h with ⟨p, r, rfl, hp, hn, hl, k⟩ | ⟨h, k⟩
    · refine ⟨_, rfl, _, _, _, _, _, rfl, .ty _, .base (.tup hp), kit_ty (r := true) (by decide +kernel), _, rfl, ?_⟩
      refine ⟨_, rfl, p, _, rfl, .inr (SqT.of hp), _, rfl, rfl, ?_⟩
      rw [List.length_map, hn]
      refine ⟨true, by rw [decide_eq_true rfl], ?_⟩
      refine ⟨_, rfl, p, rfl, ⟨_, SqT.of hp⟩, fun D hD => ?_⟩
      refine lc_map (walk_tup (K := K) (a := p) (xs := r.map V.int)) (fun _ => V.bl true) hD (by rw [List.length_map]; exact hl) (fun H' s' => SqT.of (s' _ _ hp)) ?_ ?_
      · rintro i x H3 H4 kk hi s3 ⟨rfl, hxi⟩ kc
        obtain ⟨z, hz, rfl⟩ := int_at hxi
        exact ⟨rfl, _, rfl, _, rfl, .inl ⟨z, rfl, kc _ (Same.refl _)⟩⟩
      · intro H3 s3 e3
        refine ⟨D, (List.range (r.map V.int).length).map (fun _ => true), rfl, SqL.of (by rw [e3, List.map_map]; rfl), ?_⟩
        have ea : ((List.range (r.map V.int).length).map (fun _ => true)).all id = true := by
          rw [List.all_eq_true]
          intro b hb
          obtain ⟨_, _, rfl⟩ := List.mem_map.mp hb
          rfl
        rw [ea]
        exact k _ s3
    · cases h with
      | kind ty kt => exact ⟨_, rfl, _, _, _, _, _, rfl, .ty _, ty, kt, _, rfl, k _ (Same.refl _)⟩
      | @len p xs e ne =>
        refine ⟨_, rfl, _, _, _, _, _, rfl, .ty _, .base (.tup e), kit_ty (r := true) (by decide +kernel), _, rfl, ?_⟩
        refine ⟨_, rfl, p, _, rfl, .inr (SqT.of e), _, rfl, rfl, ?_⟩
        refine ⟨false, by rw [decide_eq_false fun z => ne (by injection z with z; omega)], ?_⟩
        exact k _ (Same.refl _)
      | @item p xs e hn h0 h1 ki =>
        refine ⟨_, rfl, _, _, _, _, _, rfl, .ty _, .base (.tup e), kit_ty (r := true) (by decide +kernel), _, rfl, ?_⟩
        refine ⟨_, rfl, p, _, rfl, .inr (SqT.of e), _, rfl, rfl, ?_⟩
        rw [hn]
        refine ⟨true, by rw [decide_eq_true rfl], ?_⟩
        refine ⟨_, rfl, p, rfl, ⟨_, SqT.of e⟩, fun D hD => ?_⟩
        refine lc_map (walk_tup (K := K) (a := p) (xs := xs)) (fun _ => V.bl false) hD (by omega) (fun H' s' => SqT.of (s' _ _ e)) ?_ ?_
        · rintro i x H3 H4 kk hi s3 ⟨rfl, hxi⟩ kc
          exact ⟨rfl, _, rfl, _, rfl, .inr ⟨ki _ s3 x (List.mem_of_getElem? hxi), kc _ (Same.refl _)⟩⟩
        · intro H3 s3 e3
          refine ⟨D, (List.range xs.length).map (fun _ => false), rfl, SqL.of (by rw [e3, List.map_map]; rfl), ?_⟩
          have ea : ((List.range xs.length).map (fun _ => false)).all id = false := by
            rw [List.all_eq_false]
            exact ⟨false, List.mem_map.mpr ⟨0, List.mem_range.mpr (by omega), rfl⟩, by decide⟩
          rw [ea]
          exact k _ s3
def spRed : Sp := fun vs H Q _ => ∃ (R : Addr) (n : Nat) (xs : List V) (rows : List Row) (B : Nat), vs = [.ref R, .int (n : Nat)] ∧ H R = some (.lst xs) ∧ RowsIn H xs rows ∧ (∀ r ∈ rows, r.length = n ∧ Small r B) ∧ n ≤ 100 ∧ rows.length < 60 ∧ 0 < B ∧ B ≤ 8000 ∧ EB B (min rows.length (n + 1)) ≤ 9000 ∧
  ∀ (L : Addr) (ys : List V) (out : List Row) (H' : Hp), Same H H' → H L = none → H' L = some (.lst ys) → RowsIn H' ys out → Reds n B rows out → Q (.ref L) H'
theorem ok_Red {f : Addr} {fd : FuncData} (F : Fun K "reduced" "reduced" sRed f fd) (T : TxRow mg) (GR : Has P w K mg base CX0 2 "is_row" PIsRow (spRowG K)) (GA : Has P w K mg base CX0 5 "added" PAdded (spAdded K)) : FnOk P w K mg base CX0 6 f fd PRed spRed := by
  refine F.ok scRed (fun vs H Q E h => ?_) (fun cdv A outer s H vs Q E hr h => ?_)
  · obtain ⟨R, n, xs, rows, B, rfl, _⟩ := h
    rfl
  · obtain ⟨R, n, xs, rows, B, rfl, hR, hx, hrow, hn, h60, b0, b8, eb, k⟩ := h
    have hr2 := hr.mono (j := 2) (by decide)
    refine ⟨_, (pss_cons (ps_set (i := 2) scRed.nd rfl (Or.inl rfl) (pe_lst pa_nil))
  (pss_cons (ps_for PassesOwn.never rfl (pi_list (pv 0)) (pg_name (i := 3) scRed.nd rfl (Or.inl rfl))
  (pss_cons (ps_if (pt_not (pt_val (pe_callH GR hr2 rfl pass0 (pa_cons (pv 3) (pa_cons (pv 1) pa_nil)))))
  (pss_one ps_never)
  pss_nil)
  (pss_one (ps_set (i := 2) scRed.nd rfl (Or.inl rfl) (pe_callH GA hr rfl pass0 (pa_cons (pv 2) (pa_cons (pv 3) pa_nil)))))))
  (pss_one (ps_ret (pv 2))))), ?_⟩
    have lx : xs.length = rows.length := Paired.length hx
    refine ⟨(by show 0 ≤ sizeLine; decide), fun L0 hL0 => ?_⟩
    have s0 := same_new (o := .lst []) hL0
    refine ⟨_, rfl, R, rfl, ⟨_, SqL.of (s0 _ _ hR)⟩, for_list (K := K) (a := R) (xs := xs) (fun i σ H' => Same H H' ∧ ∃ (L : Addr) (ys : List V) (out : List Row) (x : Option V), σ = [some (.ref R), some (.int (n : Nat)), some (.ref L), x] ∧ H L = none ∧ H' L = some (.lst ys) ∧ RowsIn H' ys out ∧ Reds n B (rows.take i) out) ?_ (fun i σ H' _ h' => SqL.of (h'.1 _ _ hR)) ?_ ?_⟩
    · exact ⟨s0, L0, [], [], none, rfl, hL0, upd_same, .nil, reds_nil⟩
    · rintro i v σ H1 hv ⟨s1, L, ys, out, x, rfl, L0', hL, hy, hR1⟩
      obtain ⟨r, hri, q, rfl, hq⟩ := Paired.at hx hv
      have hi : i < rows.length := (List.getElem?_eq_some_iff.mp hri).1
      obtain ⟨r1, r2⟩ := hrow r (List.mem_of_getElem? hri)
      refine ⟨_, rfl, _, rfl, _, n, rfl, .inl ⟨q, r, rfl, s1 _ _ hq, r1, by omega, fun H2 s2 => ⟨true, rfl, ?_⟩⟩⟩
      have s12 := s1.trans s2
      have le := hR1.le
      rw [List.length_take, Nat.min_eq_left (Nat.le_of_lt hi)] at le
      have lw := hR1.rs.le_w
      have b1 : B + (out.length + 1) * (EB B out.length + 1) ≤ 9000 := by
        cases el : out.length with
        | zero => show B + (0 + 1) * (1 + 1) ≤ 9000; omega
        | succ f => exact Nat.le_trans (EB_mono b0 (f := f + 2) (g := min rows.length (n + 1)) (by omega)) eb
      refine ⟨_, rfl, _, rfl, L, q, ys, out, r, B, EB B out.length, rfl, s2 _ _ hL, hy.same (TSame.of s2), s12 _ _ hq, fun o ho => ⟨by rw [hR1.rs.len o ho, r1], hR1.small o ho, by rw [(hR1.rs.lead ho).1]; exact fun z => (by cases z)⟩, by omega, by omega, r2, b0, EB_pos b0 _, b1, adds_pre hR1.rs r1, fun L' ys' out' H3 s3 fr hL' hy' ha => ?_⟩
      refine ⟨s12.trans s3, L', ys', out', _, rfl, ?_, hL', hy', by rw [take_snoc hri]; exact reds_snoc hR1 r1 r2 ha⟩
      rcases fr with rfl | fr
      · exact L0'
      · exact s12.free fr
    · rintro σ H1 ⟨s1, L, ys, out, x, rfl, L0', hL, hy, hR1⟩
      rw [lx, List.take_length] at hR1
      exact ⟨_, rfl, k L ys out H1 s1 L0' hL hy hR1⟩
end

/-! ### own __len__, __bool__, __contains__, __eq__, __or__ of an instance: the rules -/
section
variable {X : Cx}
theorem run_own {k : Nat} {f : Addr} {fd : FuncData} {ps : List Str} {sp : Sp} {pins : List (Addr × Obj)} {σ : L2.St} {H : Hp} {s : Shared} {Q : VK} {us : List Value} {vs : List V} {A' : Around} {E' : Value → Shared → Prop} (F : FnOk X.prog X.w X.K X.mg X.base CX0 k f fd ps sp) (hr : Room k A') (hf : A'.frames = X.A.frames)
    (hb : Binds X.K fd ps []) (I : Inv X pins σ H s) (r : Vals vs us) (h : sp vs H Q E0) : wpAny (model X.prog X.w) A' (call (.ref f) us) (EP X pins σ Q) E' s := by
  have hl : us.length = ps.length := by rw [← r.length]; exact F.len _ _ _ _ h
  have e0 := I.env0
  have hb' := hb s us I.kIn (by rw [List.append_nil]; exact hl)
  rw [List.append_nil] at hb'
  refine wpAny_call (codeAny_mono (F.run A' X.stack s H ⟨us, []⟩ us vs Q E0 hr ⟨hf.trans e0.frames, e0.mod, e0.bs, e0.bsz, e0.funs, e0.frf, e0.hok, e0.bare⟩ hb' r h) fun r s' hq => ?_)
  cases r with
  | error e => exact False.elim hq
  | ok fl =>
    cases fl with
    | ret u => exact I.after hq
    | next => exact False.elim hq
    | brk => exact False.elim hq
    | cont => exact False.elim hq
/-- len(o) -/
def rLenO (C : Addr) (sp : Sp) : List V → Hp → VK → Prop := fun xs H Q => ∃ a dx fs, xs = [.ref a] ∧ H a = some (.ins C dx fs) ∧ sp [.ref a] H (fun v H' => ∃ n : Nat, v = .int (n : Nat) ∧ n < 1000000 ∧ Q (.int (n : Nat)) H') E0
theorem call_lenO {k : Nat} {C : Addr} {ps : List Str} {sp : Sp} (M : HasM X.prog X.w X.K X.mg X.base CX0 k C "__len__" ps sp) (hr : Room (k + 1) X.A) : CallR X (.builtin "len") (rLenO C sp) := by
  intro pins s σ H xs us Q I r h
  obtain ⟨f, fd, hm, F, hb⟩ := M.ex
  obtain ⟨a, dx, fs, rfl, ha, hq⟩ := h
  obtain ⟨u, rfl, ru⟩ := vals1 r
  obtain rfl : u = Value.ref a := ru
  obtain ⟨mA, J, _⟩ := ins_get I.hok ha
  obtain ⟨od, J, _⟩ := J.look
  obtain ⟨m, hF⟩ := I.fr
  refine PySem.W.len_K hF I.ok.mod.kin J hm.at_ hm.fn (wpAny_mono (run_own (A' := X.A.in1) F hr.in1 rfl hb I r hq) (fun v s' hv => ?_) fun _ _ z => z)
  obtain ⟨w, H', I', rw', n, rfl, hn, q⟩ := hv
  obtain ⟨t, rfl⟩ := rw'
  exact ⟨⟨by omega, by omega⟩, .int (n : Nat), H', I'.tok _, ⟨_, rfl⟩, q⟩
/-- x in o -/
def rInO (C : Addr) (sp : Sp) : R2 := fun x y H Q => ∃ a dx fs, y = .ref a ∧ H a = some (.ins C dx fs) ∧ sp [.ref a, x] H (fun v H' => ∃ b, v = .bl b ∧ Q (.bl b) H') E0
theorem op_inO {k : Nat} {C : Addr} {ps : List Str} {sp : Sp} (M : HasM X.prog X.w X.K X.mg X.base CX0 k C "__contains__" ps sp) (hr : Room k X.A) : OpR X (compareOp .In) (rInO C sp) := by
  intro pins s σ H x y v u Q I rx ry h
  obtain ⟨f, fd, hm, F, hb⟩ := M.ex
  obtain ⟨a, dx, fs, rfl, ha, hq⟩ := h
  obtain rfl : u = Value.ref a := ry
  obtain ⟨mA, J, _⟩ := ins_get I.hok ha
  obtain ⟨od, J, _⟩ := J.look
  obtain ⟨m, hF⟩ := I.fr
  refine PySem.W.in_K hF I.ok.mod.kin J hm.at_ hm.fn (wpAny_mono (run_own (A' := X.A) (vs := [.ref a, x]) F hr rfl hb I (.cons rfl (.cons rx .nil)) hq) (fun w s' hv => ?_) fun _ _ z => z)
  obtain ⟨w, H', I', rw', b, rfl, q⟩ := hv
  cases rw'
  exact wpAny_pure ⟨.bl b, H', I', rfl, q⟩
/-- o | p, both of one class -/
def rOrO (C : Addr) (sp : Sp) : R2 := fun x y H Q => ∃ a b dx dy fs gs, x = .ref a ∧ y = .ref b ∧ H a = some (.ins C dx fs) ∧ H b = some (.ins C dy gs) ∧ sp [.ref a, .ref b] H (fun v H' => (∃ c, v = .ref c) ∧ Q v H') E0
theorem op_orO {k : Nat} {C : Addr} {ps : List Str} {sp : Sp} (M : HasM X.prog X.w X.K X.mg X.base CX0 k C "__or__" ps sp) (hs : PySem.W.selfFirst X.K C = true) (hr : Room k X.A) : OpR X (binaryOp .BitOr) (rOrO C sp) := by
  intro pins s σ H x y v u Q I rx ry h
  obtain ⟨f, fd, hm, F, hb⟩ := M.ex
  obtain ⟨a, b, dx, dy, fs, gs, rfl, rfl, ha, hb', hq⟩ := h
  obtain rfl : v = Value.ref a := rx
  obtain rfl : u = Value.ref b := ry
  obtain ⟨mA, J, _⟩ := ins_get I.hok ha
  obtain ⟨od, J, _⟩ := J.look
  obtain ⟨mB, J', _⟩ := ins_get I.hok hb'
  obtain ⟨od', J', _⟩ := J'.look
  obtain ⟨m, hF⟩ := I.fr
  refine PySem.W.binop_K hF I.ok.mod.kin J J'.type hs hm.at_ hm.fn (wpAny_mono (run_own (A' := X.A) (vs := [.ref a, .ref b]) F hr rfl hb I (.cons rfl (.cons rfl .nil)) hq) (fun w s' hv => ?_) fun _ _ z => z)
  obtain ⟨w, H', I', rw', ⟨c, rfl⟩, q⟩ := hv
  cases rw'
  exact ⟨.ref c, H', I', rfl, q⟩
/-- o == p, both of one class -/
def rEqO (C : Addr) (sp : Sp) : R2 := fun x y H Q => ∃ a b dx dy fs gs, x = .ref a ∧ y = .ref b ∧ H a = some (.ins C dx fs) ∧ H b = some (.ins C dy gs) ∧ sp [.ref a, .ref b] H (fun v H' => ∃ c, v = .bl c ∧ Q (.bl c) H') E0
theorem op_eqO {k : Nat} {C : Addr} {ps : List Str} {sp : Sp} (M : HasM X.prog X.w X.K X.mg X.base CX0 k C "__eq__" ps sp) (hr : Room k X.A) : OpR X (compareOp .Eq) (rEqO C sp) := by
  intro pins s σ H x y v u Q I rx ry h
  obtain ⟨f, fd, hm, F, hb⟩ := M.ex
  obtain ⟨a, b, dx, dy, fs, gs, rfl, rfl, ha, hb', hq⟩ := h
  obtain rfl : v = Value.ref a := rx
  obtain rfl : u = Value.ref b := ry
  obtain ⟨mA, J, _⟩ := ins_get I.hok ha
  obtain ⟨od, J, _⟩ := J.look
  obtain ⟨mB, J', _⟩ := ins_get I.hok hb'
  obtain ⟨od', J', _⟩ := J'.look
  obtain ⟨m, hF⟩ := I.fr
  show wpAny (model X.prog X.w) X.A (richCompare .Eq (.ref a) (.ref b)) _ _ _
  refine PySem.W.cmp_K (op := .Eq) (tb := .ref C) hr.units0 hF I.ok.mod.kin J J'.type (by simp [PySem.W.notFirst]) hm.at_ hm.fn (wpAny_mono (run_own (A' := X.A) (vs := [.ref a, .ref b]) F hr rfl hb I (.cons rfl (.cons rfl .nil)) hq) (fun w s' hv => ?_) fun _ _ z => z)
  obtain ⟨w, H', I', rw', c, rfl, q⟩ := hv
  cases rw'
  exact ⟨.bl c, H', I', rfl, q⟩
/-- bool(o) -/
def rBoolO (C : Addr) (sp : Sp) : V → Hp → (Bool → Hp → Prop) → Prop := fun x H Q => ∃ a dx fs, x = .ref a ∧ H a = some (.ins C dx fs) ∧ sp [.ref a] H (fun v H' => ∃ c, v = .bl c ∧ Q c H') E0
theorem truthO {k : Nat} {C : Addr} {ps : List Str} {sp : Sp} {A' : Around} {pins : List (Addr × Obj)} {s : Shared} {σ : L2.St} {H : Hp} {x : V} {u : Value} {Q : Bool → Hp → Prop} {E : Value → Shared → Prop} (M : HasM X.prog X.w X.K X.mg X.base CX0 k C "__bool__" ps sp) (hr : Room k A') (hf : A'.frames = X.A.frames)
    (I : Inv X pins σ H s) (rx : RelV x u) (h : rBoolO C sp x H Q) : wpAny (model X.prog X.w) A' (truthy u) (fun b s' => ∃ H', Inv X pins σ H' s' ∧ Q b H') E s := by
  obtain ⟨f, fd, hm, F, hb⟩ := M.ex
  obtain ⟨a, dx, fs, rfl, ha, hq⟩ := h
  obtain rfl : u = Value.ref a := rx
  obtain ⟨mA, J, _⟩ := ins_get I.hok ha
  obtain ⟨od, J, _⟩ := J.look
  obtain ⟨m, hF⟩ := I.fr
  refine PySem.W.truthy_K hF I.ok.mod.kin J hm.at_ hm.fn (wpAny_mono (run_own (A' := A') (vs := [.ref a]) F hr hf hb I (.cons rfl .nil) hq) (fun w s' hv => ?_) fun _ _ z => z)
  obtain ⟨w, H', I', rw', c, rfl, q⟩ := hv
  cases rw'
  exact ⟨H', I', q⟩
end

/-! ### more of own objects: !=, bool(o), == with any value, t * n -/
section
open Builtin
variable {prog : Program} {w : World} {M : Model} {A : Around} {E : Value → Shared → Prop} {s : Shared} {K : PySem.W.Frag} {x C f : Addr} {ox : PySem.Obj} {od : Option PySem.Obj} {b tb : Value}
theorem bind_one (self : Value) : bindSpecial (.builtin "object.__ne__") self = pure (.builtin "object.__ne__", [self]) := PySem.F.slot_enumerate_ne.bind self
theorem boundB {name : Str} {id : String} {args : List Value} {Q : Option Value → Shared → Prop} (Z : K.In s.heap) (I : PySem.W.InstAt s.heap x ox C od) (hs : PySem.W.findIn K (.ref C) name = some (some (.builtin id))) (hb : ∀ self, bindSpecial (.builtin id) self = pure (.builtin id, [self]))
    (h : wpAny M A (call (.builtin id) (.ref x :: args)) (fun v => Q (some v)) E s) : wpAny M A (callSpecialIfBound? (.ref x) name args) Q E s := by
  simp only [callSpecialIfBound?, bindSpecialIfBound?]
  refine wpAny_holding (wpAny_bind (wpAny_bind (wpAny_bind (I.type.here ((PySem.W.looks_findIn Z hs).here ?_)))))
  have last : wpAny M A (call (.builtin id) ([.ref x] ++ args) >>= fun v => pure (some v)) Q E s := wpAny_bind (wpAny_mono h (fun _ _ q => wpAny_pure q) fun _ _ q => q)
  refine wpAny_bind (wpAny_askSetting (wpAny_ite ?_))
  split
  · exact wpAny_bind ((PySem.W.Looks.of_pure (hb _)).here (wpAny_pure (by exact last)))
  · exact wpAny_tryCatch (wpAny_bind ((PySem.W.Looks.of_pure (hb _)).here (wpAny_pure (by exact last))))
theorem ne_own {Q : Value → Shared → Prop} (hu : A.in1.units < cLine) (hu0 : A.units < cLine) (Z : K.In s.heap) (I : PySem.W.InstAt s.heap x ox C od) (hb : PySem.W.Looks (model prog w) s.heap (typeOf b) tb) (hn : PySem.W.notFirst K C tb = true)
    (hs : PySem.W.findIn K (.ref C) "__ne__" = some (some (.builtin "object.__ne__"))) (hm : PySem.W.mroIn K C (.type "object") = some true) (he : PySem.W.findIn K (.ref C) "__eq__" = some (some (.ref f))) (hf : PySem.W.isFn K (.ref f) = true)
    (h : wpAny (model prog w) A.in1 (call (.ref f) [.ref x, b]) (fun v s' => ∃ c, v = .bool c ∧ Q (.bool (!c)) s') E s) : wpAny (model prog w) A (richCompare .NotEq (.ref x) b) Q E s := by
  have one : wpAny (model prog w) A (tryCompare (.ref x) "__ne__" b) (fun r s' => ∃ v, r = some v ∧ Q v s') E s := by
    unfold tryCompare
    refine wpAny_bind (boundB Z I hs bind_one ?_)
    refine wpAny_call (codeAny_call_builtin PySem.F.slot_enumerate_ne.plain PySem.F.cmpEntry_ne (PySem.W.check_slot PySem.F.cmpKind_ne PySem.F.cmpSplit_ne (I.type.andThen (PySem.W.looks_mroIn Z hm)) (PySem.F.cmpArgs_ne _ _) ?_))
    unfold Builtin.«object.__ne__»
    refine wpAny_bind (m := slotArgs "__ne__" 1 _) (wpAny_pure ?_)
    refine wpAny_bind (m := cRoomFor _ _) (wpAny_cRoomFor hu ?_)
    refine wpAny_bind (m := callSpecialIfBound? (.ref x) (Str.ofString "__eq__") _) (PySem.W.ifBound_K Z I he hf (wpAny_mono h (fun r s' hr => ?_) fun _ _ q => q))
    obtain ⟨c, rfl, q⟩ := hr
    refine wpAny_bind (m := truthy (.bool _)) (wpAny_truthy_bool ?_)
    exact wpAny_pure (wpAny_pure ⟨_, rfl, q⟩)
  unfold richCompare
  simp only [oneThing_ref]
  refine wpAny_holding (wpAny_bind (wpAny_cRoomFor hu0 ?_))
  refine wpAny_bind (I.type.here (wpAny_bind (hb.here ?_)))
  have fin : ∀ (r : Option Value) (s' : Shared) (k : Sem Value), (∃ v, r = some v ∧ Q v s') → wpAny (model prog w) A (match r with | some v => pure v | none => k) Q E s' := fun r s' k z => by
    obtain ⟨v, rfl, hq⟩ := z
    exact wpAny_pure hq
  split
  · rename_i q
    have e : PySem.W.subIn K tb (.ref C) = some false := by
      rcases Bool.or_eq_true_iff.mp hn with e | e
      · rw [beq_iff_eq.mp e] at q
        simp at q
      · exact beq_iff_eq.mp e
    refine wpAny_bind ((PySem.W.looks_subIn Z e).here ?_)
    simp only [Bool.false_eq_true, if_false]
    refine wpAny_bind (wpAny_mono one (fun r s' z => ?_) fun _ _ q => q)
    obtain ⟨v, rfl, hq⟩ := z
    exact wpAny_pure hq
  · refine wpAny_bind (wpAny_pure ?_)
    simp only [Bool.false_eq_true, if_false]
    refine wpAny_bind (wpAny_mono one (fun r s' z => ?_) fun _ _ q => q)
    obtain ⟨v, rfl, hq⟩ := z
    exact wpAny_pure hq
theorem bool_own {Q : Value → Shared → Prop} (h : wpAny (model prog w) A.in1.in1 (truthy b) (fun c s' => Q (.bool c) s') E s) : wpAny (model prog w) A (call (.type "bool") [b]) Q E s := by
  refine callType_newIn PySem.F.called_bool PySem.F.newNe_bool (PySem.F.typeCall_bool_1 b) (PySem.F.newCall_bool_1 b) (fun obj => PySem.F.args_object_init_2 obj b) PySem.F.entry_bool_new (S := fun A' R s' => wpAny (model prog w) A'.in1 (truthy b) (fun c s' => R (.ok (.ret (.bool c))) s') (fun e s' => R (.error e) s') s') (MeetsIn.of_wp fun A' R s' hs => ?_) ?_
  · obtain ⟨hp, g, d, tk, os⟩ := s'
    have f1 := PySem.F.conv_sub_bool
    repeat (any_goals (first | assumption | (refine wpAny_bind (m := truthy b) (wpAny_mono hs (fun _ _ q => ?_) fun _ _ q => q)) | wp_step))
    all_goals first | exact ⟨_, rfl, q⟩ | exact wpAny_pure ⟨_, rfl, q⟩ | skip
  · exact wpAny_mono h (fun c s' q => ⟨typeIs_bool _ _, q⟩) fun _ _ q => q
end
section
variable {X : Cx}
/-- what is asked of an own class beside Cls -/
structure ClsT (K : PySem.W.Frag) (C : Addr) : Prop where
  cl : Cls K C
  ca : PySem.W.findIn K (.ref C) "__class__" = some (some (.builtin "object.__class__"))
  cg : PySem.W.specialIn K (.builtin "object.__class__") "__get__" = some (some (.builtin "getset_descriptor.__get__"))
  ct : PySem.W.takesIn K (.builtin "object.__class__") = some true
  mo : PySem.W.mroIn K C (.type "object") = some true
  mc : PySem.W.kitOne K (.ref C) (.ref C) = some true
theorem ClsT.ty {K : PySem.W.Frag} {C a dx : Addr} {H : Hp} {fs : List (Str × V)} (c : ClsT K C) (e : H a = some (.ins C dx fs)) : TyX K H (.ref a) (.ref C) := .base (.ins e c.cl c.ca c.cg c.ct c.mo)
theorem kit_self (K : PySem.W.Frag) (C : Addr) : PySem.W.kitOne K (.ref C) (.ref C) = some true := by
  unfold PySem.W.kitOne
  rw [if_pos (by simp)]
theorem kit_no {K : PySem.W.Frag} {C : Addr} {T : String} (hd : PySem.W.hasDictIn K C = true) (ty : PySem.W.typeIn K (.ref C) = some (.type "type")) (nf : PySem.W.notFirst K C (.type T) = true) : PySem.W.kitOne K (.type T) (.ref C) = some false := by
  obtain ⟨cd, hc, _⟩ := PySem.W.any_some hd
  unfold PySem.W.kitOne PySem.W.kitCls
  rw [if_neg (by simp)]
  simp only [hc, ty]
  rw [if_pos (by simp)]
  rcases Bool.or_eq_true_iff.mp nf with e | e
  · exact absurd (beq_iff_eq.mp e) (by simp)
  · exact beq_iff_eq.mp e
/-- o == y, whatever y is -/
def rEqX (K : PySem.W.Frag) (C : Addr) (sp : Sp) : R2 := fun x y H Q => ∃ a dx fs t, x = .ref a ∧ H a = some (.ins C dx fs) ∧ TyX K H y t ∧ PySem.W.notFirst K C t = true ∧ sp [.ref a, y] H (fun v H' => ∃ c, v = .bl c ∧ Q (.bl c) H') E0
theorem op_eqX {k : Nat} {C : Addr} {ps : List Str} {sp : Sp} (M : HasM X.prog X.w X.K X.mg X.base CX0 k C "__eq__" ps sp) (hr : Room k X.A) : OpR X (compareOp .Eq) (rEqX X.K C sp) := by
  intro pins s σ H x y v u Q I rx ry h
  obtain ⟨f, fd, hm, F, hb⟩ := M.ex
  obtain ⟨a, dx, fs, t, rfl, ha, ty, nf, hq⟩ := h
  obtain rfl : v = Value.ref a := rx
  obtain ⟨mA, J, _⟩ := ins_get I.hok ha
  obtain ⟨od, J, _⟩ := J.look
  obtain ⟨m, hF⟩ := I.fr
  obtain ⟨P, Z, p, _⟩ := kit_of I ry ty
  show wpAny (model X.prog X.w) X.A (richCompare .Eq (.ref a) u) _ _ _
  refine PySem.W.cmp_K (op := .Eq) (tb := t) hr.units0 hF I.ok.mod.kin J (Z.ty _ _ I.kIn p) nf hm.at_ hm.fn (wpAny_mono (run_own (A' := X.A) (vs := [.ref a, y]) F hr rfl hb I (.cons rfl (.cons ry .nil)) hq) (fun w s' hv => ?_) fun _ _ z => z)
  obtain ⟨w, H', I', rw', c, rfl, q⟩ := hv
  cases rw'
  exact ⟨.bl c, H', I', rfl, q⟩
/-- o != p, both of one class, by object.__ne__ -/
def rNeO (C : Addr) (sp : Sp) : R2 := fun x y H Q => ∃ a b dx dy fs gs, x = .ref a ∧ y = .ref b ∧ H a = some (.ins C dx fs) ∧ H b = some (.ins C dy gs) ∧ sp [.ref a, .ref b] H (fun v H' => ∃ c, v = .bl c ∧ Q (.bl (!c)) H') E0
theorem op_neO {k : Nat} {C : Addr} {ps : List Str} {sp : Sp} (M : HasM X.prog X.w X.K X.mg X.base CX0 k C "__eq__" ps sp) (ne : PySem.W.findIn X.K (.ref C) "__ne__" = some (some (.builtin "object.__ne__"))) (mo : PySem.W.mroIn X.K C (.type "object") = some true) (hr : Room (k + 1) X.A) : OpR X (compareOp .NotEq) (rNeO C sp) := by
  intro pins s σ H x y v u Q I rx ry h
  obtain ⟨f, fd, hm, F, hb⟩ := M.ex
  obtain ⟨a, b, dx, dy, fs, gs, rfl, rfl, ha, hb', hq⟩ := h
  obtain rfl : v = Value.ref a := rx
  obtain rfl : u = Value.ref b := ry
  obtain ⟨mA, J, _⟩ := ins_get I.hok ha
  obtain ⟨od, J, _⟩ := J.look
  obtain ⟨mB, J', _⟩ := ins_get I.hok hb'
  obtain ⟨od', J', _⟩ := J'.look
  show wpAny (model X.prog X.w) X.A (richCompare .NotEq (.ref a) (.ref b)) _ _ _
  refine ne_own (tb := .ref C) hr.in1.units0 hr.units0 I.kIn J J'.type (by simp [PySem.W.notFirst]) ne mo hm.at_ hm.fn (wpAny_mono (run_own (A' := X.A.in1) (vs := [.ref a, .ref b]) F hr.in1 rfl hb I (.cons rfl (.cons rfl .nil)) hq) (fun w s' hv => ?_) fun _ _ z => z)
  obtain ⟨w, H', I', rw', c, rfl, q⟩ := hv
  cases rw'
  exact ⟨c, rfl, .bl (!c), H', I', rfl, q⟩
/-- bool(o) -/
def rBoolC (C : Addr) (sp : Sp) : List V → Hp → VK → Prop := fun xs H Q => ∃ x, xs = [x] ∧ rBoolO C sp x H fun c H' => Q (.bl c) H'
theorem call_boolO {k : Nat} {C : Addr} {ps : List Str} {sp : Sp} (M : HasM X.prog X.w X.K X.mg X.base CX0 k C "__bool__" ps sp) (hr : Room (k + 2) X.A) : CallR X (.type "bool") (rBoolC C sp) := by
  intro pins s σ H xs us Q I r h
  obtain ⟨x, rfl, h⟩ := h
  obtain ⟨u, rfl, ru⟩ := vals1 r
  refine bool_own (wpAny_mono (truthO M hr.in1.in1 rfl I ru h) (fun c s' ⟨H', I', q⟩ => ⟨.bl c, H', I', rfl, q⟩) fun _ _ z => z)
/-- the truth of o -/
theorem tru_O {k : Nat} {C : Addr} {ps : List Str} {sp : Sp} (M : HasM X.prog X.w X.K X.mg X.base CX0 k C "__bool__" ps sp) (hr : Room k X.A) : TruR X (rBoolO C sp) := by
  intro pins s σ H x u Q I ru h
  exact truthO M hr rfl I ru h
/-- not o -/
theorem pe_notO {e : Expr} {te : TE} {pos : Pos} {r : V → Hp → (Bool → Hp → Prop) → Prop} (he : PE X e te) (hr : TruR X r) : PE X (.UnaryOp .Not e pos) (fun σ H Q => te σ H fun x H' => r x H' fun c H2 => Q (.bl (!c)) H2) := by
  refine ⟨fun pins s σ H Q I h => ?_⟩
  refine PyProof.Rows.UnaryOp_ (thn (he.run pins s σ H _ I h) fun v s1 ⟨x, H1, I1, r1, q1⟩ => ?_)
  exact PyProof.Rows.not_of (wpAny_mono (hr pins s1 σ H1 x v _ I1 r1 q1) (fun c s2 ⟨H2, I2, q⟩ => ⟨.bl (!c), H2, I2, rfl, q⟩) fun _ _ z => z)
/-- t * 1 is t -/
theorem tuple_mul1 (l : Addr) (items : Array Value) (n : Nat) (dd : Option Addr) (sl : Array (Option Value)) (u : Tok) : Meets (Builtin.«tuple.__mul__» ⟨[.ref l, .int 1 u], []⟩) (fun _ R s => s.heap.get? l = some { cls := .type "tuple", dict := dd, data := .seq items n, slots := sl } ∧ R (.ok (.ret (Value.ref l))) s) :=
  .of_wp fun prog w A R s h => by
    obtain ⟨hp, g, d, tk, os⟩ := s
    obtain ⟨hl, h⟩ := h
    have f1 := AutoSeq1.idx_int
    wp_walk using wpAny_loadPart' hl
    repeat (first
      | (refine wpAny_ite_false (decide_eq_false (by decide)) ?_; wp_walk using wpAny_loadPart' hl)
      | (refine wpAny_ite_true (decide_eq_true (by simp)) ?_; wp_walk using wpAny_loadPart' hl))
    exact ⟨_, rfl, h⟩
def rRepN (K : PySem.W.Frag) : R2 := fun x y H Q => ∃ l n xs, x = .ref l ∧ y = .int ((n : Nat) : Int) ∧ SqT K H l xs ∧ xs ≠ [] ∧ 1 ≤ n ∧ n ≤ 1000 ∧ xs.length ≤ 1000 ∧ ((n = 1 ∧ Q (.ref l) H) ∨ (2 ≤ n ∧ ∀ p, H p = none → Q (.ref p) (upd H p (.tup (List.replicate n xs).flatten))))
theorem op_repN : OpR X (binaryOp .Mult) (rRepN X.K) := by
  intro pins s σ H x y v u Q I rx ry h
  obtain ⟨l, n, xs, rfl, rfl, hT, hne, h1, h2, hz, q⟩ := h
  rcases q with ⟨rfl, q⟩ | ⟨h3, q⟩
  · cases rx
    obtain ⟨t, rfl⟩ := ry
    obtain ⟨its, r, ⟨⟨cls, dd, data, sl⟩, ho, hc, n, hd⟩, hs⟩ := I.tuple hT
    simp only at hc hd
    subst hc hd
    refine wpAny_binaryOp_repeat_ref (T := "tuple") (U := "int") (by decide) ⟨_, ho, rfl⟩ (fun s' => typeIs_int s' 1 t) noFill_tuple_mul F.fills_int_mul F.slot_int_rmul repeat_tuple F.slot_int_index.lookup
      (call_meets F.slot_int_rmul (typeIs_int s 1 t) F.entry_int_rmul (F.args_int_rmul_2 _ _) (int_rmul_tuple 1 t l its.toArray n dd sl)
        ⟨ho, rfl, ⟨_, ho, rfl⟩, call_meets F.slot_tuple_mul ⟨_, ho, rfl⟩ F.entry_tuple_mul (F.args_tuple_mul_2 _ _) (tuple_mul1 l its.toArray n dd sl t) ⟨ho, ?_⟩⟩)
    exact ⟨.ref l, H, I, rfl, q⟩
  · refine op_repT pins s σ H _ _ v u Q I rx ry ⟨l, n, xs, rfl, rfl, hT, hne, by omega, by omega, hz, fun p hp => ?_⟩
    rw [show ((n : Nat) : Int).toNat = n from rfl]
    exact q p hp
end

structure TxKer (mg : Str → Option Value) : Prop extends TxRow mg where
  n_range : mg "range" = none
  n_sum : mg "sum" = none
theorem bb_sum : bootBuiltins "sum" = some (.builtin "sum") := by decide +kernel
theorem atI_ev {o : Row} {c : Nat} (h : c < o.length) : atI (o.map V.int) ((c : Nat) : Int) = some (V.int (ev o c)) := atI_nat (by
  rw [List.getElem?_map, List.getElem?_eq_getElem h]
  show some (V.int o[c]) = _
  unfold ev
  rw [List.getD_eq_getElem?_getD, List.getElem?_eq_getElem h]
  rfl)

/-! ### the law's own rank, plainly -/
def thinF (r : Row) : Row := if 1 < gcdR r then r.map (· / ((gcdR r : Nat) : Int)) else r
theorem thin_lin (r : Row) : ∃ a : Int, a ≠ 0 ∧ ∀ i, a * ev (thinF r) i = ev r i := by
  by_cases g : 1 < gcdR r
  · refine ⟨(gcdR r : Nat), by omega, fun i => ?_⟩
    unfold thinF ev
    rw [if_pos g, List.getD_eq_getElem?_getD, List.getD_eq_getElem?_getD, List.getElem?_map]
    cases e : r[i]? with
    | none => simp
    | some x =>
      show ((gcdR r : Nat) : Int) * (x / ((gcdR r : Nat) : Int)) = x
      exact Int.mul_ediv_cancel' (gcd_dvd (List.mem_of_getElem? e))
  · refine ⟨1, by decide, fun i => ?_⟩
    unfold thinF
    rw [if_neg g]
    omega
theorem len_thin (r : Row) : (thinF r).length = r.length := by
  unfold thinF
  split
  · exact List.length_map ..
  · rfl
theorem small_thin {r : Row} {B : Nat} (h : Small r B) : Small (thinF r) B := by
  unfold thinF
  split
  · intro y hy
    obtain ⟨x, hx, rfl⟩ := List.mem_map.mp hy
    exact Nat.lt_of_le_of_lt (abs_div_le _ _) (h x hx)
  · exact h
/-- other, cleared at the column c by first -/
def clear (n : Nat) (first other : Row) (c : Nat) : Row := thinF ((List.range n).map fun i => ev first c * ev other i - ev other c * ev first i)
theorem clear_lin {n : Nat} {first other : Row} {c : Nat} (h1 : first.length = n) (h2 : other.length = n) : ∃ a : Int, a ≠ 0 ∧ ∀ i, a * ev (clear n first other c) i = ev first c * ev other i - ev other c * ev first i := by
  obtain ⟨a, a0, e⟩ := thin_lin ((List.range n).map fun i => ev first c * ev other i - ev other c * ev first i)
  refine ⟨a, a0, fun i => ?_⟩
  unfold clear
  rw [e i]
  by_cases hi : i < n
  · rw [ev_range hi]
  · rw [ev_out (by rw [List.length_map, List.length_range]; omega), ev_out (show first.length ≤ i by omega), ev_out (show other.length ≤ i by omega)]
    simp
theorem len_clear {n : Nat} {first other : Row} {c : Nat} : (clear n first other c).length = n := by
  unfold clear
  rw [len_thin, List.length_map, List.length_range]
theorem small_cross {n B : Nat} {first other : Row} {c : Nat} (s1 : Small first B) (s2 : Small other B) : Small ((List.range n).map fun i => ev first c * ev other i - ev other c * ev first i) (2 * B + 1) := by
  intro x hx
  obtain ⟨i, _, rfl⟩ := List.mem_map.mp hx
  have e : 2 * B + 1 = B + B + 1 := by omega
  rw [e]
  exact sub_lt (wide_lt (getD_small s1 _) (getD_small s2 _)) (wide_lt (getD_small s2 _) (getD_small s1 _))
def TB (B : Nat) : Nat → Nat
  | 0 => B
  | t + 1 => 2 * TB B t + 1
theorem TB_step (B t : Nat) : TB B t ≤ TB B (t + 1) := by show TB B t ≤ 2 * TB B t + 1; omega
theorem TB_mono {B s t : Nat} (h : s ≤ t) : TB B s ≤ TB B t := by
  induction h with
  | refl => exact Nat.le_refl _
  | step _ ih => exact Nat.le_trans ih (TB_step ..)
structure RI (n B : Nat) (rows L : List Row) (total c : Nat) : Prop where
  len : ∀ r ∈ L, r.length = n
  span : ∀ v, QS (· ∈ L) v ↔ QS (· ∈ rows) v
  tl : total ≤ L.length
  ld : ∀ j, j < total → ∃ l, leadN (L.getD j []) = some l ∧ l < c
  inc : ∀ i j, i < j → j < total → leadD (L.getD i []) < leadD (L.getD j [])
  low : ∀ j, total ≤ j → j < L.length → ∀ d, d < c → ev (L.getD j []) d = 0
  small : ∀ r ∈ L, Small r (TB B total)
theorem ri_start {n B : Nat} {rows : List Row} (h : ∀ r ∈ rows, r.length = n ∧ Small r B) : RI n B rows rows 0 0 :=
  ⟨fun r hr => (h r hr).1, fun _ => Iff.rfl, Nat.zero_le _, (fun _ z => nomatch z), (fun _ _ _ z => nomatch z), (fun _ _ _ _ z => nomatch z), fun r hr => (h r hr).2⟩
theorem ri_skip {n B : Nat} {rows L : List Row} {total c : Nat} (h : RI n B rows L total c) (z : ∀ j, total ≤ j → j < L.length → ev (L.getD j []) c = 0) : RI n B rows L total (c + 1) := by
  refine ⟨h.len, h.span, h.tl, fun j hj => ?_, h.inc, fun j h1 h2 d hd => ?_, h.small⟩
  · obtain ⟨l, e, q⟩ := h.ld j hj
    exact ⟨l, e, by omega⟩
  · by_cases e : d = c
    · rw [e]; exact z j h1 h2
    · exact h.low j h1 h2 d (by omega)
theorem mem_getD {L : List Row} {r : Row} (h : r ∈ L) : ∃ j, j < L.length ∧ L.getD j [] = r := by
  obtain ⟨j, hj, rfl⟩ := List.mem_iff_getElem.mp h
  exact ⟨j, hj, by rw [List.getD_eq_getElem?_getD, List.getElem?_eq_getElem hj]; rfl⟩
/-- a pivot g is put at total, all below it are cleared -/
theorem ri_pivot {n B : Nat} {rows L N : List Row} {total c g : Nat} (h : RI n B rows L total c) (hc : c < n) (hg : total ≤ g) (hgl : g < L.length) (hne : ev (L.getD g []) c ≠ 0) (hN : N.length = L.length)
    (hv : ∀ j, j < L.length → N.getD j [] = (if j < total then L.getD j [] else if j = total then L.getD g [] else clear n (L.getD g []) (if j = g then L.getD total [] else L.getD j []) c)) :
    RI n B rows N (total + 1) (c + 1) := by
  have lg := h.len _ (getD_mem hgl)
  have tlt : total < L.length := by omega
  have src : ∀ j, total < j → j < L.length → ∃ i, total ≤ i ∧ i < L.length ∧ N.getD j [] = clear n (L.getD g []) (L.getD i []) c := fun j h1 h2 => by
    refine ⟨if j = g then total else j, ?_, ?_, ?_⟩
    · split <;> omega
    · split <;> omega
    · rw [hv j h2, if_neg (by omega), if_neg (by omega)]
      by_cases e : j = g
      · rw [if_pos e, if_pos e]
      · rw [if_neg e, if_neg e]
  have at_t : N.getD total [] = L.getD g [] := by rw [hv total tlt, if_neg (by omega), if_pos rfl]
  have low_j : ∀ j, j < total → N.getD j [] = L.getD j [] := fun j hj => by rw [hv j (by omega), if_pos hj]
  have pivS : QS (· ∈ N) (ev (L.getD g [])) := by rw [← at_t]; exact QS.mem (getD_mem (by omega))
  have glead : leadN (L.getD g []) = some c := lead_some.mpr ⟨hne, fun d hd => h.low g hg hgl d hd⟩
  have lt_of : ∀ {r : Row}, r ∈ N → r.length = n ∧ Small r (TB B (total + 1)) := fun {r} hr => by
    obtain ⟨j, hj, rfl⟩ := mem_getD hr
    rw [hN] at hj
    rcases Nat.lt_or_ge j total with q | q
    · rw [low_j j q]
      exact ⟨h.len _ (getD_mem hj), small_mono (h.small _ (getD_mem hj)) (TB_step ..)⟩
    · by_cases e : j = total
      · rw [e, at_t]
        exact ⟨lg, small_mono (h.small _ (getD_mem hgl)) (TB_step ..)⟩
      · obtain ⟨i, i1, i2, ei⟩ := src j (by omega) hj
        rw [ei]
        exact ⟨len_clear, small_thin (small_cross (h.small _ (getD_mem hgl)) (h.small _ (getD_mem i2)))⟩
  refine ⟨fun r hr => (lt_of hr).1, fun v => ?_, by omega, fun j hj => ?_, fun i j hij hj => ?_, fun j h1 h2 d hd => ?_, fun r hr => (lt_of hr).2⟩
  · refine Iff.trans (QS.iff_of (fun x hx => ?_) (fun x hx => ?_) v) (h.span v)
    · obtain ⟨j, hj, rfl⟩ := mem_getD hx
      rw [hN] at hj
      rcases Nat.lt_or_ge j total with q | q
      · rw [low_j j q]
        exact QS.mem (getD_mem hj)
      · by_cases e : j = total
        · rw [e, at_t]
          exact QS.mem (getD_mem hgl)
        · obtain ⟨i, i1, i2, ei⟩ := src j (by omega) hj
          rw [ei]
          obtain ⟨a, a0, ea⟩ := clear_lin (c := c) lg (h.len _ (getD_mem i2))
          exact QS.lin a0 ea (QS.mem (getD_mem i2)) (QS.mem (getD_mem hgl))
    · obtain ⟨j, hj, rfl⟩ := mem_getD hx
      rcases Nat.lt_or_ge j total with q | q
      · rw [← low_j j q]
        exact QS.mem (getD_mem (by omega))
      · by_cases e : j = g
        · rw [e]
          exact pivS
        · -- where does row j stand in N?
          obtain ⟨k, k1, k2, ek⟩ : ∃ k, total < k ∧ k < L.length ∧ N.getD k [] = clear n (L.getD g []) (L.getD j []) c := by
            by_cases e2 : j = total
            · refine ⟨g, by omega, hgl, ?_⟩
              rw [hv g hgl, if_neg (by omega), if_neg (by omega), if_pos rfl, e2]
            · refine ⟨j, by omega, hj, ?_⟩
              rw [hv j hj, if_neg (by omega), if_neg e2, if_neg e]
          obtain ⟨a, a0, ea⟩ := clear_lin (c := c) lg (h.len _ (getD_mem hj))
          have hk : QS (· ∈ N) (ev (clear n (L.getD g []) (L.getD j []) c)) := by rw [← ek]; exact QS.mem (getD_mem (by omega))
          refine QS.lin (x := ev (L.getD j [])) (y := ev (clear n (L.getD g []) (L.getD j []) c)) (z := ev (L.getD g [])) (a := ev (L.getD g []) c) (c := a) (d := -(ev (L.getD j []) c)) hne (fun i => ?_) hk pivS
          have := ea i
          rw [Int.neg_mul]
          omega
  · by_cases e : j = total
    · rw [e, at_t]
      exact ⟨c, glead, by omega⟩
    · rw [low_j j (by omega)]
      obtain ⟨l, e1, e2⟩ := h.ld j (by omega)
      exact ⟨l, e1, by omega⟩
  · rw [low_j i (by omega)]
    by_cases e : j = total
    · rw [e, at_t, leadD_of glead]
      obtain ⟨l, e1, e2⟩ := h.ld i (by omega)
      rw [leadD_of e1]
      exact e2
    · rw [low_j j (by omega)]
      exact h.inc i j hij (by omega)
  · rw [hN] at h2
    obtain ⟨i, i1, i2, ei⟩ := src j (by omega) h2
    rw [ei]
    obtain ⟨a, a0, ea⟩ := clear_lin (c := c) lg (h.len _ (getD_mem i2))
    have := ea d
    have z : a * ev (clear n (L.getD g []) (L.getD i []) c) d = 0 := by
      rw [this]
      by_cases e : d = c
      · rw [e, Int.mul_comm]
        omega
      · rw [h.low i i1 i2 d (by omega), h.low g hg hgl d (by omega)]
        simp
    rcases Int.mul_eq_zero.mp z with z | z
    · exact absurd z a0
    · exact z
/-- what the rank tells -/
def Rank (rows : List Row) (total : Nat) : Prop := ∃ ech : List Row, Ech ech ∧ ech.length = total ∧ ∀ v, QS (· ∈ ech) v ↔ QS (· ∈ rows) v
theorem ri_end {n B : Nat} {rows L : List Row} {total c : Nat} (h : RI n B rows L total c) (he : n ≤ c ∨ L.length ≤ total) : Rank rows total := by
  have tl := h.tl
  have lt : (L.take total).length = total := by rw [List.length_take]; omega
  have gt : ∀ j, j < total → (L.take total).getD j [] = L.getD j [] := fun j hj => by
    rw [List.getD_eq_getElem?_getD, List.getD_eq_getElem?_getD, List.getElem?_take_of_lt hj]
  refine ⟨L.take total, ⟨fun o ho => ?_, ?_⟩, lt, fun v => Iff.trans (QS.iff_of (fun x hx => QS.mem (List.mem_of_mem_take hx)) (fun x hx => ?_) v) (h.span v)⟩
  · obtain ⟨j, hj, rfl⟩ := mem_getD ho
    rw [lt] at hj
    rw [gt j hj]
    obtain ⟨l, e, _⟩ := h.ld j hj
    rw [e]
    exact fun q => by cases q
  · rw [List.pairwise_iff_getElem]
    intro i j hi hj hij
    rw [lt] at hi hj
    have q := h.inc i j hij hj
    rw [← gt i hi, ← gt j hj, List.getD_eq_getElem?_getD, List.getD_eq_getElem?_getD, List.getElem?_eq_getElem, List.getElem?_eq_getElem] at q
    exact q
  · obtain ⟨j, hj, rfl⟩ := mem_getD hx
    rcases Nat.lt_or_ge j total with q | q
    · rw [← gt j q]
      exact QS.mem (getD_mem (by omega))
    · refine QS.zero.cg fun i => ?_
      rcases Nat.lt_or_ge i n with z | z
      · exact (h.low j q hj i (by omega)).symm
      · exact (ev_out (by rw [h.len _ (getD_mem hj)]; exact z)).symm
theorem rank_reds {w B : Nat} {rows out : List Row} {t : Nat} (h : Reds w B rows out) (k : Rank rows t) : t = out.length := by
  obtain ⟨ech, e1, e2, e3⟩ := k
  rw [← e2]
  exact e1.eq h.rs.ech fun v => (e3 v).trans (h.span v).symm
/-- there is always a reduced system -/
theorem adds_ex (rs : List Row) (r : Row) : ∃ out, Adds rs r out := by
  by_cases h : leadN (restOf rs r) = none
  · exact ⟨rs, .inl ⟨h, rfl⟩⟩
  · refine ⟨((rs.map (fun o => prim (wo o (restOf rs r)))) ++ [prim (restOf rs r)]).mergeSort fun a b => decide (leadD a ≤ leadD b), .inr ⟨h, List.mergeSort_perm .., ?_⟩⟩
    have q := List.pairwise_mergeSort (le := fun a b : Row => decide (leadD a ≤ leadD b)) (fun a b c h1 h2 => by simp only [decide_eq_true_eq] at *; omega) (fun a b => by simp only [Bool.or_eq_true, decide_eq_true_eq]; omega) ((rs.map (fun o => prim (wo o (restOf rs r)))) ++ [prim (restOf rs r)])
    exact q.imp fun h => by simpa using h
/-- rows each with a column that the ones ahead lack: as many reduced rows -/
theorem reds_free {w : Nat} : ∀ {rows : List Row} {cs : List Nat}, Paired (fun c r => r.length = w ∧ ev r c ≠ 0 ∧ ∀ g ∈ cs, g ≠ c → ev r g = 0) cs rows → cs.Nodup →
    ∀ k, k ≤ rows.length → ∃ out, RS w out ∧ (∀ v, QS (· ∈ out) v ↔ QS (· ∈ rows.take k) v) ∧ out.length = k := by
  intro rows cs hp nd k
  have lc : cs.length = rows.length := Paired.length hp
  induction k with
  | zero => exact fun _ => ⟨[], ⟨(fun _ z => nomatch z), (fun _ z => nomatch z), .nil⟩, fun _ => Iff.rfl, rfl⟩
  | succ k ih =>
    intro hk
    obtain ⟨out, o1, o2, o3⟩ := ih (by omega)
    obtain ⟨c, hc⟩ : ∃ c, cs[k]? = some c := ⟨cs[k]'(by omega), by simp [show k < cs.length by omega]⟩
    obtain ⟨r, hr, f1, f2, f3⟩ := Paired.at hp hc
    obtain ⟨out', ha⟩ := adds_ex out r
    obtain ⟨a1, a2, a3⟩ := adds_RS o1 f1 ha
    refine ⟨out', a1, fun v => (a2 v).trans ?_, ?_⟩
    · rw [take_snoc hr]
      refine QS.iff_of (fun x hx => ?_) (fun x hx => ?_) v
      · rcases hx with hx | rfl
        · exact ((o2 _).mp (QS.mem hx)).trans fun y hy => QS.mem (List.mem_append_left _ hy)
        · exact QS.mem (List.mem_append_right _ (List.mem_singleton.mpr rfl))
      · rcases List.mem_append.mp hx with hx | hx
        · exact ((o2 _).mpr (QS.mem hx)).trans fun y hy => QS.mem (.inl hy)
        · rw [List.mem_singleton.mp hx]
          exact QS.mem (.inr rfl)
    · rcases a3 with ⟨_, q⟩ | ⟨q, _⟩
      · exfalso
        have q := (o2 _).mp q
        -- all ahead are nothing at c
        have zero : ∀ {u : Vec}, InSp (· ∈ rows.take k) u → u c = 0 := fun {u} hu => by
          induction hu with
          | zero => rfl
          | @add u a x _ hx ihx =>
            show u c + a * ev x c = 0
            rw [ihx]
            obtain ⟨j, hj, e⟩ := List.mem_iff_getElem.mp hx
            rw [List.length_take] at hj
            rw [List.getElem_take] at e
            obtain ⟨g, hg⟩ : ∃ g, cs[j]? = some g := ⟨cs[j]'(by omega), by simp [show j < cs.length by omega]⟩
            obtain ⟨x', hx', g1, g2, g3⟩ := Paired.at hp hg
            rw [List.getElem?_eq_getElem (show j < rows.length by omega), e] at hx'
            cases hx'
            have ne : c ≠ g := fun z => by
              obtain ⟨hk', e1⟩ := List.getElem?_eq_some_iff.mp hc
              obtain ⟨hj', e2⟩ := List.getElem?_eq_some_iff.mp hg
              have := (List.getElem_inj (h₀ := hk') (h₁ := hj') nd).mp (by rw [e1, e2, z])
              omega
            rw [g3 c (List.mem_of_getElem? hc) ne]
            simp
        obtain ⟨m, m0, hm⟩ := q
        have := zero hm
        rcases Int.mul_eq_zero.mp this with z | z
        · exact m0 z
        · exact f2 z
      · omega
theorem rank_free {w t : Nat} {rows : List Row} {cs : List Nat} (hp : Paired (fun c r => r.length = w ∧ ev r c ≠ 0 ∧ ∀ g ∈ cs, g ≠ c → ev r g = 0) cs rows) (nd : cs.Nodup) (k : Rank rows t) : t = rows.length := by
  obtain ⟨out, o1, o2, o3⟩ := reds_free hp nd rows.length (Nat.le_refl _)
  rw [List.take_length] at o2
  obtain ⟨ech, e1, e2, e3⟩ := k
  rw [← e2, ← o3]
  exact e1.eq o1.ech fun v => (e3 v).trans (o2 v).symm

/-! ### the law's pool by cells, thin, rank -/
abbrev sPool : Stmt := topS 17
abbrev NPool : List Str := ["_law_script", "_law_k", "_law_cell", "_law_heavy", "_law_blend", "_law_seed"]
abbrev PPool : List Str := ["_law_script", "_law_k"]
theorem scPool : FnScope NPool PPool (defScope sPool) := ⟨rfl, rfl, rfl, by decide +kernel, rfl, by decide +kernel, by decide +kernel⟩
abbrev sTake : Stmt := topS 18
abbrev NTake : List Str := ["_law_pool_here", "_law_wide", "_law_result"]
abbrev PTake : List Str := ["_law_pool_here", "_law_wide"]
theorem scTake : FnScope NTake PTake (defScope sTake) := ⟨rfl, rfl, rfl, by decide +kernel, rfl, by decide +kernel, by decide +kernel⟩
abbrev sThin : Stmt := topS 19
abbrev NThin : List Str := ["_law_row", "_law_most", "_law_value", "_law_one", "_law_other"]
abbrev PThin : List Str := ["_law_row"]
theorem scThin : FnScope NThin PThin (defScope sThin) := ⟨rfl, rfl, rfl, by decide +kernel, rfl, by decide +kernel, by decide +kernel⟩
abbrev sRank : Stmt := topS 20
abbrev NRank : List Str := ["_law_rows_here", "_law_left", "_law_row", "_law_total", "_law_at", "_law_wide", "_law_good", "_law_one", "_law_first", "_law_times", "_law_other", "_law_lower", "_law_value", "_law_to"]
abbrev PRank : List Str := ["_law_rows_here"]
theorem scRank : FnScope NRank PRank (defScope sRank) := ⟨rfl, rfl, rfl, by decide +kernel, rfl, by decide +kernel, by decide +kernel⟩
theorem bb_max : bootBuiltins "max" = some (.builtin "max") := by decide +kernel
theorem bb_min : bootBuiltins "min" = some (.builtin "min") := by decide +kernel
theorem b01 (b : Bool) : 0 ≤ (if b = true then (1 : Int) else 0) ∧ (if b = true then (1 : Int) else 0) < 2 ^ 64 := by
  cases b <;> decide
def PoolB (H : Hp) (p : Addr) : Prop := ∃ h s : Int, H p = some (.lst [.int h, .int s]) ∧ 0 ≤ h ∧ 0 ≤ s ∧ s < 2147483647
section
variable {P : Program} {w : World} {K : PySem.W.Frag} {mg : Str → Option Value} {base : Heap}
def spPoolB (K : PySem.W.Frag) : Sp := fun vs H Q _ => ∃ (a : Addr) (ns : List Int) (k : Nat), vs = [.ref a, .int (k : Nat)] ∧ SqL K H a (ns.map V.int) ∧ k ≤ 10 ∧ ∀ (p : Addr) (H' : Hp), Same H H' → H p = none → PoolB H' p → Q (.ref p) H'
theorem ok_PoolB {f : Addr} {fd : FuncData} (F : Fun K "_law_pool" "_law_pool" sPool f fd) (T : TxKer mg) : FnOk P w K mg base CX0 1 f fd PPool (spPoolB K) := by
  refine F.ok scPool (fun vs H Q E h => ?_) (fun cdv A outer s H vs Q E hr h => ?_)
  · obtain ⟨a, ns, k, rfl, _⟩ := h
    rfl
  · obtain ⟨a, ns, k, rfl, hS, hk, kq⟩ := h
    refine ⟨_, (pss_cons (ps_set (i := 2) scPool.nd rfl (Or.inl rfl) pe_int)
  (pss_cons (ps_if (pt_cmpR op_lt (pv 1) (pe_callB call_len_seq (by rfl) T.n_len bb_len (pa_cons (pv 0) pa_nil)) (nomark _))
  (pss_one (ps_set (i := 2) scPool.nd rfl (Or.inl rfl) (pe_ix (r := rIxL K) ix_list (pv 0) (pv 1) (fun _ _ => rfl))))
  pss_nil)
  (pss_cons (ps_set (i := 3) scPool.nd rfl (Or.inl rfl) (pe_callB call_abs (by rfl) T.n_abs bb_abs (pa_cons (pv 2) pa_nil)))
  (pss_cons (ps_set (i := 4) scPool.nd rfl (Or.inl rfl) (pe_op op_mod (pe_op op_mul (pe_callTy call_int1 (by rfl) T.n_int bb_int (pa_cons (pe_op op_add (pe_op op_mod (pe_callTy call_int1 (by rfl) T.n_int bb_int (pa_cons (pv 2) pa_nil)) pe_int) (pe_op op_mul pe_int (pe_op op_add (pv 1) pe_int))) pa_nil)) (pe_op op_add (pv 1) pe_int)) pe_int))
  (pss_cons (ps_set (i := 5) scPool.nd rfl (Or.inl rfl) (pe_op op_mod (pe_op op_mul (pe_op op_mod (pe_callTy call_int1 (by rfl) T.n_int bb_int (pa_cons (pe_op op_mul (pv 4) (pv 4)) pa_nil)) pe_int) pe_int) pe_int))
  (pss_one (ps_ret (pe_lst (pa_cons (pe_op op_mul (pv 3) (pe_callTy call_int1 (by rfl) T.n_int bb_int (pa_cons (pe_cmpR op_ge (pv 3) (pe_op op_pow pe_int pe_int) (nomark _)) pa_nil))) (pa_cons (pv 5) pa_nil)))))))))), ?_⟩
    refine ⟨_, rfl, _, rfl, a, _, rfl, .inl hS, _, _, rfl, rfl, _, rfl, ite2 (fun hlt => ?ga) (fun hlt => ?gb)⟩
    case' ga =>
      have hlt := of_decide_eq_true hlt
      rw [List.length_map] at hlt
      obtain ⟨cell, hcell⟩ : ∃ z, ns[k]? = some z := ⟨ns[k]'(by omega), by simp [show k < ns.length by omega]⟩
      refine ⟨_, rfl, _, rfl, a, _, _, _, rfl, rfl, hS, atI_nat (by rw [List.getElem?_map, hcell]; rfl), ?_⟩
    all_goals
      refine ⟨_, rfl, _, rfl, ?_⟩
      refine ⟨_, rfl, .inl ⟨_, rfl, _, _, rfl, rfl, (show (0 : Int) < 2147483629 by decide), _, rfl, _, _, rfl, rfl, _, _, rfl, rfl, .inl ⟨by decide, by decide⟩, _, _, rfl, rfl, .inl ⟨_, rfl, _, rfl, _, _, rfl, rfl, _, _, rfl, rfl, .inr ⟨by omega, by omega⟩, _, _, rfl, rfl, (show (0 : Int) < 2147483629 by decide), ?_⟩⟩⟩
      obtain ⟨bl, ebl, bl0, bl1⟩ : ∃ bl : Int, bl = _ % 2147483629 ∧ 0 ≤ bl ∧ bl < 2147483629 := ⟨_, rfl, Int.emod_nonneg _ (by decide), Int.emod_lt_of_pos _ (by decide)⟩
      rw [← ebl]
      refine ⟨_, rfl, _, rfl, _, _, rfl, rfl, .inl ⟨by omega, by omega⟩, .inl ⟨_, rfl, _, _, rfl, rfl, (show (0 : Int) < 2147483629 by decide), _, _, rfl, rfl, .inr ⟨by decide, by decide⟩, _, _, rfl, rfl, (show (0 : Int) < 2147483647 by decide), ?_⟩⟩
      refine ⟨_, rfl, _, rfl, _, _, rfl, rfl, ⟨by decide, by decide, by decide⟩, _, _, rfl, rfl, .inr ⟨_, rfl, _, _, rfl, rfl, ?_, _, rfl, (by show 2 ≤ sizeLine; decide), fun p hp => kq p _ (same_new hp) hp ⟨_, _, upd_same, ?_, Int.emod_nonneg _ (by decide), Int.emod_lt_of_pos _ (by decide)⟩⟩⟩
      · exact .inr ⟨Int.lt_of_lt_of_le (by decide) (b01 _).1, (b01 _).2⟩
      · refine Int.mul_nonneg ?_ (b01 _).1
        split <;> omega
def spTake : Sp := fun vs H Q _ => ∃ (p : Addr) (m : Int), vs = [.ref p, .int m] ∧ PoolB H p ∧ 0 < m ∧ m ≤ 1000 ∧ ∀ (r : Int) (H' : Hp), 0 ≤ r → r < m → PoolB H' p → (∀ b o, H b = some o → b ≠ p → H' b = some o) → Q (.int r) H'
theorem ok_Take {f : Addr} {fd : FuncData} (F : Fun K "_law_take" "_law_take" sTake f fd) (T : TxKer mg) : FnOk P w K mg base CX0 1 f fd PTake spTake := by
  refine F.ok scTake (fun vs H Q E h => ?_) (fun cdv A outer s H vs Q E hr h => ?_)
  · obtain ⟨p, m, rfl, _⟩ := h
    rfl
  · obtain ⟨p, m, rfl, ⟨h0, s0, hp, hh, hs0, hs1⟩, m0, m1, kq⟩ := h
    refine ⟨_, (pss_cons (ps_if (pt_cmpR op_gt (pe_ix (r := rIxL K) ix_list (pv 0) pe_int (fun _ _ => rfl)) pe_int (nomark _))
  (pss_cons (ps_set (i := 2) scTake.nd rfl (Or.inl rfl) (pe_op op_mod (pe_callTy call_int1 (by rfl) T.n_int bb_int (pa_cons (pe_ix (r := rIxL K) ix_list (pv 0) pe_int (fun _ _ => rfl)) pa_nil)) (pv 1)))
  (pss_cons (ps_asg (pe_op op_fdiv (pe_ix (r := rIxL K) ix_list (pv 0) pe_int (fun _ _ => rfl)) (pv 1)) (pg_sub (pv 0) pe_int set_list))
  (pss_one (ps_ret (pv 2)))))
  pss_nil)
  (pss_cons (ps_asg (pe_op op_mod (pe_callTy call_int1 (by rfl) T.n_int bb_int (pa_cons (pe_op op_add (pe_op op_mul (pe_ix (r := rIxL K) ix_list (pv 0) pe_int (fun _ _ => rfl)) pe_int) pe_int) pa_nil)) pe_int) (pg_sub (pv 0) pe_int set_list))
  (pss_one (ps_ret (pe_op op_mod (pe_op op_fdiv (pe_op op_mod (pe_callTy call_int1 (by rfl) T.n_int bb_int (pa_cons (pe_op op_mul (pe_ix (r := rIxL K) ix_list (pv 0) pe_int (fun _ _ => rfl)) (pe_ix (r := rIxL K) ix_list (pv 0) pe_int (fun _ _ => rfl))) pa_nil)) pe_int) pe_int) (pv 1)))))), ?_⟩
    have set0 : ∀ x : Int, ([V.int h0, V.int s0].set 0 (V.int x)) = [V.int x, V.int s0] := fun _ => rfl
    have set1 : ∀ x : Int, ([V.int h0, V.int s0].set 1 (V.int x)) = [V.int h0, V.int x] := fun _ => rfl
    refine ⟨_, rfl, p, _, _, _, rfl, rfl, SqL.of hp, rfl, _, _, rfl, rfl, _, rfl, ite2 (fun hpos => ?_) (fun hpos => ?_)⟩
    · refine ⟨_, rfl, p, _, _, _, rfl, rfl, SqL.of hp, rfl, .inl ⟨_, rfl, _, rfl, _, _, rfl, rfl, m0, ?_⟩⟩
      refine ⟨_, rfl, p, _, _, _, rfl, rfl, SqL.of hp, rfl, _, rfl, _, _, rfl, rfl, ⟨m0, by omega⟩, _, rfl, p, _, _, 0, rfl, rfl, hp, rfl, ?_⟩
      rw [set0]
      exact ⟨_, rfl, kq _ _ (Int.emod_nonneg _ (by omega)) (Int.emod_lt_of_pos _ m0) ⟨_, s0, upd_same, Int.ediv_nonneg hh (by omega), hs0, hs1⟩ fun b o e hb => by rw [upd_ne hb]; exact e⟩
    · refine ⟨_, rfl, p, _, _, _, rfl, rfl, SqL.of hp, rfl, _, _, rfl, rfl, .inr ⟨by decide, by decide⟩, _, _, rfl, rfl, .inl ⟨_, rfl, _, _, rfl, rfl, (show (0 : Int) < 2147483647 by decide), _, rfl, p, _, _, 1, rfl, rfl, hp, rfl, ?_⟩⟩
      rw [set1]
      obtain ⟨sd, esd, sd0, sd1⟩ : ∃ sd : Int, sd = (s0 * 48271 + 12345) % 2147483647 ∧ 0 ≤ sd ∧ sd < 2147483647 := ⟨_, rfl, Int.emod_nonneg _ (by decide), Int.emod_lt_of_pos _ (by decide)⟩
      rw [← esd]
      refine ⟨_, rfl, p, _, _, _, rfl, rfl, SqL.of upd_same, rfl, _, rfl, p, _, _, _, rfl, rfl, SqL.of upd_same, rfl, _, _, rfl, rfl, .inl ⟨by omega, by omega⟩, .inl ⟨_, rfl, _, _, rfl, rfl, (show (0 : Int) < 2147483629 by decide), _, _, rfl, rfl, ⟨by decide, by decide⟩, _, rfl, _, _, rfl, rfl, m0, ?_⟩⟩
      exact kq _ _ (Int.emod_nonneg _ (by omega)) (Int.emod_lt_of_pos _ m0) ⟨h0, sd, upd_same, hh, sd0, sd1⟩ fun b o e hb => by rw [upd_ne hb]; exact e
def LstAt (H : Hp) (p : Addr) (r : Row) : Prop := H p = some (.lst (r.map V.int))
def spThin : Sp := fun vs H Q _ => ∃ (p : Addr) (r : Row), vs = [.ref p] ∧ LstAt H p r ∧ r.length ≤ 100 ∧ Small r 9000 ∧ ∀ (q : Addr) (H' : Hp), Same H H' → LstAt H' q (thinF r) → Q (.ref q) H'
theorem ok_Thin {f : Addr} {fd : FuncData} (F : Fun K "_law_thin" "_law_thin" sThin f fd) (T : TxKer mg) : FnOk P w K mg base CX0 1 f fd PThin spThin := by
  refine F.ok scThin (fun vs H Q E h => ?_) (fun cdv A outer s H vs Q E hr h => ?_)
  · obtain ⟨p, r, rfl, _⟩ := h
    rfl
  · obtain ⟨p, r, rfl, hp, hl, sm, kq⟩ := h
    refine ⟨_, (pss_cons (ps_set (i := 1) scThin.nd rfl (Or.inr rfl) pe_int)
  (pss_cons (ps_for PassesOwn.never rfl (pi_list (pv 0)) (pg_name (i := 2) scThin.nd rfl (Or.inl rfl))
  (pss_cons (ps_par (i := 3) (j := 4) (by rfl) scThin.nd rfl rfl (by decide) rfl rfl (pa_cons (pv 1) (pa_cons (pe_callB call_abs (by rfl) T.n_abs bb_abs (pa_cons (pv 2) pa_nil)) pa_nil)) (by rfl))
  (pss_cons (ps_while PassesOwn.never (pt_cmpR op_ne (pv 4) pe_int (nomark _))
  (pss_one (ps_par (i := 3) (j := 4) (by rfl) scThin.nd rfl rfl (by decide) rfl rfl (pa_cons (pv 4) (pa_cons (pe_op op_mod (pe_callTy call_int1 (by rfl) T.n_int bb_int (pa_cons (pv 3) pa_nil)) (pv 4)) pa_nil)) (by rfl))))
  (pss_one (ps_set (i := 1) scThin.nd rfl (Or.inr rfl) (pv 3))))))
  (pss_one (ps_ret (pe_ifExp (pt_cmpR op_gt (pv 1) pe_int (nomark _)) (pe_lc (own := [("_law_value", 2)]) (g := gName 2) (tt := tYes) rfl scThin.nd (pi_list (pv 0)) (blkOk_by (own := [("_law_value", 2)]) (N := NThin) (sc := (defScope sThin)) (by decide +kernel)) (fun _ _ _ _ _ => (pg_name (i := 2) scThin.nd rfl (Or.inl rfl))) (fun _ _ _ _ _ => pts_nil) (fun _ _ _ _ _ => (pe_op op_fdivW (pv 2) (pv 1)))) (pv 0)))))), ?_⟩
    have hS := SqL.of (K := K) hp
    refine ⟨_, rfl, p, rfl, ⟨_, hS⟩, for_list (K := K) (a := p) (xs := r.map V.int) (fun i σ H' => ∃ x y z : Option V, σ = [some (.ref p), some (.int ((r.take i).foldl (fun g x => Int.gcd g x) 0 : Nat)), x, y, z] ∧ H' = H) ⟨none, none, none, rfl, rfl⟩ (fun i σ H' _ ⟨_, _, _, _, e⟩ => by rw [e]; exact hS) ?_ ?_⟩
    · rintro i x σ H' hx ⟨y1, y2, y3, rfl, eH⟩
      obtain ⟨z, hz, rfl⟩ := int_at hx
      obtain ⟨g, eg⟩ : ∃ g : Nat, g = (r.take i).foldl (fun g x => Int.gcd g x) 0 := ⟨_, rfl⟩
      have fold : (r.take (i + 1)).foldl (fun g x => Int.gcd g x) 0 = Int.gcd g z := by
        rw [take_snoc hz, List.foldl_append, ← eg]
        rfl
      rw [← eg]
      refine ⟨_, rfl, _, rfl, _, rfl, _, _, rfl, ?_⟩
      rw [abs_if]
      refine ⟨fun m σ H1 => ∃ n : Nat, σ = [some (.ref p), some (.int (g : Int)), some (.int z), some (.int (n : Int)), some (.int (m : Int))] ∧ Nat.gcd n m = Int.gcd g z ∧ H1 = H, ⟨z.natAbs, g, rfl, rfl, eH⟩, ?_⟩
      rintro m σ H1 ⟨n, rfl, hg, eH1⟩
      refine ⟨_, rfl, rfl, _, rfl, ite2 (fun hne => ?_) (fun he => ?_)⟩
      · have hm : 0 < m := by
          rcases Nat.eq_zero_or_pos m with q | q
          · rw [q] at hne
            exact absurd hne (by decide)
          · exact q
        refine ⟨fun σ' H' => ∃ n' m' : Nat, m' < m ∧ σ' = [some (.ref p), some (.int (g : Int)), some (.int z), some (.int (n' : Int)), some (.int (m' : Int))] ∧ Nat.gcd n' m' = Int.gcd g z ∧ H' = H, fun σ' H' ⟨n', m', h1, h2, h3, h4⟩ => ⟨m', h1, n', h2, h3, h4⟩, ?_⟩
        refine ⟨_, rfl, _, rfl, .inl ⟨_, rfl, _, rfl, _, _, rfl, rfl, (show (0 : Int) < (m : Int) by omega), _, _, rfl, m, n % m, Nat.mod_lt _ hm, rfl, ?_, eH1⟩⟩
        rw [← hg, Nat.gcd_comm m, ← Nat.gcd_rec, Nat.gcd_comm]
      · have hm : m = 0 := by
          rcases Nat.eq_zero_or_pos m with q | q
          · exact q
          · exfalso
            apply he
            show (!decide (V.int (m : Int) = V.int 0)) = true
            rw [decide_eq_false (fun q => by injection q with q; omega)]
            rfl
        subst hm
        rw [Nat.gcd_zero_right] at hg
        subst hg
        exact ⟨_, rfl, some (.int z), some (.int ((Int.gcd g z : Nat) : Int)), some (.int 0), by rw [fold]; rfl, eH1⟩
    · rintro σ H' ⟨y1, y2, y3, rfl, rfl⟩
      rw [List.length_map, List.take_length]
      refine ⟨_, rfl, _, _, rfl, rfl, _, rfl, ite2 (fun h1 => ?_) (fun h1 => ?_)⟩
      · have g1 : 1 < gcdR r := by
          have q := of_decide_eq_true h1
          show 1 < r.foldl (fun g x => Int.gcd g x) 0
          omega
        refine ⟨_, rfl, p, rfl, ⟨_, hS⟩, fun D hD => lc_map (walk_list (K := K) (a := p) (xs := r.map V.int)) (fun i => V.int (r.getD i 0 / ((gcdR r : Nat) : Int))) hD (by rw [List.length_map]; omega) (fun H2 s2 => SqL.of (s2 _ _ hp)) ?_ ?_⟩
        · rintro i x H2 H3 kk hi s2 ⟨rfl, hx⟩ kc
          obtain ⟨z, hz', rfl⟩ := int_at hx
          refine ⟨rfl, _, rfl, _, rfl, _, _, rfl, rfl, ?_, ?_⟩
          · rcases gcd_small sm with q | q
            · exact wide_div (by show (0 : Int) < ((gcdR r : Nat) : Int); omega) (by show (((gcdR r : Nat) : Int)).natAbs < _; rw [Int.natAbs_natCast]; exact q) (by decide) (Nat.le_refl _)
            · rw [gcd_all q] at g1
              omega
          · have q := kc H3 (Same.refl _)
            rw [getD_of hz'] at q
            exact q
        · intro H2 s2 e2
          refine kq D _ s2 ?_
          show H2 D = _
          rw [e2]
          congr 2
          unfold thinF
          rw [if_pos g1, List.map_map, List.length_map]
          refine range_map r _ _ fun i x hx => ?_
          rw [getD_of hx]
          rfl
      · have g1 : ¬ 1 < gcdR r := fun q => h1 (decide_eq_true (by show (1 : Int) < ((r.foldl (fun g x => Int.gcd g x) 0 : Nat) : Int); have : 1 < r.foldl (fun g x => Int.gcd g x) 0 := q; omega))
        exact ⟨_, rfl, kq p _ (Same.refl _) (by unfold thinF; rw [if_neg g1]; exact hp)⟩
/-! rank -/
def dRows (rs : List Row) : PyData := .list (rs.map fun r => .tuple (r.map .int))
theorem dp_ints {H : Hp} : ∀ r : Row, DpAll K H (r.map V.int) (r.map PyData.int)
  | [] => .nil
  | x :: r => .cons (.int x) (dp_ints r)
theorem dp_rows {H : Hp} {p : Addr} {xs : List V} {rs : List Row} (e : H p = some (.lst xs)) (h : RowsIn H xs rs) : Dp K H (.ref p) (dRows rs) := by
  refine .lst (SqL.of e) ?_
  clear e
  induction h with
  | nil => exact .nil
  | cons r _ ih =>
    obtain ⟨a, rfl, q⟩ := r
    exact .cons (.tup (SqT.of q) (dp_ints _)) ih
theorem lay_ints : ∀ r : Row, PyData.canLayAll0 (r.map PyData.int) = true
  | [] => by simp [PyData.canLayAll0]
  | x :: r => by simp only [List.map_cons, PyData.canLayAll0, PyData.canLay0, Bool.true_and]; exact lay_ints r
theorem depth_ints : ∀ r : Row, PyData.depthAll (r.map PyData.int) = 0
  | [] => by simp [PyData.depthAll]
  | x :: r => by simp only [List.map_cons, PyData.depthAll, PyData.depth, depth_ints r]; rfl
theorem lay_rows : ∀ rs : List Row, PyData.canLayAll0 (rs.map fun r => PyData.tuple (r.map .int)) = true
  | [] => by simp [PyData.canLayAll0]
  | r :: rs => by
    simp only [List.map_cons, PyData.canLayAll0, PyData.canLay0, lay_ints r, Bool.true_and]
    exact lay_rows rs
theorem depth_rows : ∀ rs : List Row, PyData.depthAll (rs.map fun r => PyData.tuple (r.map .int)) ≤ 1
  | [] => by simp [PyData.depthAll]
  | r :: rs => by
    have := depth_rows rs
    simp only [List.map_cons, PyData.depthAll, PyData.depth, depth_ints r]
    omega
theorem shaped_rows (rs : List Row) : SeqAt.shaped (dRows rs) = true := by
  have q := depth_rows rs
  unfold SeqAt.shaped dRows
  rw [Bool.and_eq_true]
  refine ⟨by simp only [PyData.canLay0]; exact lay_rows rs, decide_eq_true ?_⟩
  simp only [PyData.depth]
  omega
theorem eqv_rows (rs : List Row) : PyData.eqv (dRows rs) (dRows rs) = true := SeqAt.eqv_refl _ (by simp only [dRows, PyData.canLay0]; exact lay_rows rs)
theorem shaped_ints (r : Row) : SeqAt.shaped (.list (r.map .int)) = true := by
  unfold SeqAt.shaped
  simp only [PyData.canLay0, PyData.depth, lay_ints, depth_ints, Bool.true_and]
  decide
theorem eqv_nil_rows (rs : List Row) : PyData.eqv (dRows rs) (.list []) = decide (rs = []) := by
  cases rs with
  | nil => rfl
  | cons r rs => rfl
theorem eqv_nil_ints (r : Row) : PyData.eqv (.list (r.map .int)) (.list []) = decide (r = []) := by
  cases r with
  | nil => rfl
  | cons x r => rfl
structure TxLaw (mg : Str → Option Value) : Prop extends TxKer mg where
  n_max : mg "max" = none
  n_min : mg "min" = none
def LL (H : Hp) (xs : List V) (rs : List Row) : Prop := Paired (fun v r => ∃ p, v = .ref p ∧ LstAt H p r) xs rs
theorem LL.same {H H' : Hp} {xs : List V} {rs : List Row} (h : LL H xs rs) (s : Same H H') : LL H' xs rs := Paired.mapP h fun _ _ ⟨p, e, q⟩ => ⟨p, e, s _ _ q⟩
theorem paired_mem {α β : Type} {F : α → β → Prop} {xs : List α} {ys : List β} (h : Paired F xs ys) {G : α → β → Prop} (k : ∀ x ∈ xs, ∀ y, F x y → G x y) : Paired G xs ys := by
  induction h with
  | nil => exact .nil
  | cons r _ ih => exact .cons (k _ (List.mem_cons_self ..) _ r) (ih fun x hx => k x (List.mem_cons_of_mem _ hx))
theorem LL.upd {H : Hp} {A : Addr} {xs : List V} {rs : List Row} {o : HO} (h : LL H xs rs) (eA : H A = some (.lst xs)) : LL (L2.upd H A o) xs rs := paired_mem h fun x hx r ⟨p, e, q⟩ => ⟨p, e, by
  have ne : p ≠ A := fun z => by
    rw [z] at q
    have q : H A = some (.lst (r.map V.int)) := q
    rw [eA] at q
    injection q with q
    injection q with q
    rw [q, e] at hx
    obtain ⟨_, _, w⟩ := List.mem_map.mp hx
    cases w
  show L2.upd H A o p = _
  rw [upd_ne ne]
  exact q⟩
theorem LL.ne {H : Hp} {A : Addr} {xs : List V} {rs : List Row} (h : LL H xs rs) (eA : H A = some (.lst xs)) {i : Nat} {p : Addr} (hx : xs[i]? = some (.ref p)) : p ≠ A := fun z => by
  obtain ⟨r, hr, q, e, w⟩ := Paired.at h hx
  cases e
  rw [z] at w
  have w : H A = some (.lst (r.map V.int)) := w
  rw [eA] at w
  injection w with w
  injection w with w
  have := List.mem_of_getElem? hx
  rw [w] at this
  obtain ⟨_, _, w⟩ := List.mem_map.mp this
  cases w
theorem Paired.set {α β : Type} {F : α → β → Prop} {xs : List α} {ys : List β} (h : Paired F xs ys) {a : α} {b : β} (r : F a b) : ∀ i, Paired F (xs.set i a) (ys.set i b) := by
  induction h with
  | nil => exact fun _ => .nil
  | cons r' t ih =>
    intro i
    cases i with
    | zero => exact .cons r t
    | succ i => exact .cons r' (ih i)
theorem ll_at {H : Hp} {xs : List V} {rs : List Row} (h : LL H xs rs) {i : Nat} (hi : i < rs.length) : ∃ p, xs[i]? = some (.ref p) ∧ LstAt H p (rs.getD i []) := by
  have lx : xs.length = rs.length := Paired.length h
  obtain ⟨r, hr, p, e, q⟩ := Paired.at h (i := i) (x := xs[i]'(by omega)) (List.getElem?_eq_getElem (by omega))
  exact ⟨p, by rw [List.getElem?_eq_getElem (by omega), e], by rw [List.getD_eq_getElem?_getD, hr]; exact q⟩
theorem getD_set {L : List Row} {i j : Nat} {r : Row} (h : i < L.length) : (L.set i r).getD j [] = if j = i then r else L.getD j [] := by
  rw [List.getD_eq_getElem?_getD, List.getD_eq_getElem?_getD, List.getElem?_set]
  by_cases e : i = j
  · subst e
    rw [if_pos rfl, if_pos h, if_pos rfl]
    rfl
  · rw [if_neg e, if_neg (Ne.symm e)]
theorem ix_nat {n i : Nat} (h : i < n) : ixN n ((i : Nat) : Int) = some i := by
  unfold ixN
  rw [if_pos (by omega), if_pos (by omega), Int.toNat_natCast]
theorem piv_form {L : List Row} {n total c g j : Nat} (hg : total ≤ g) (hj : j < L.length) :
    (if total < j ∧ j < L.length then clear n (L.getD g []) (if j = g then L.getD total [] else if j = total then L.getD g [] else L.getD j []) c else (if j = g then L.getD total [] else if j = total then L.getD g [] else L.getD j [])) =
    (if j < total then L.getD j [] else if j = total then L.getD g [] else clear n (L.getD g []) (if j = g then L.getD total [] else L.getD j []) c) := by
  by_cases e1 : j < total
  · have a1 : ¬ (total < j ∧ j < L.length) := by omega
    have a2 : ¬ j = g := by omega
    have a3 : ¬ j = total := by omega
    rw [if_neg a1, if_neg a2, if_neg a3, if_pos e1]
  · by_cases e2 : j = total
    · have a1 : ¬ (total < j ∧ j < L.length) := by omega
      rw [if_neg a1, if_neg e1, if_pos e2, if_pos e2]
      by_cases e3 : j = g
      · rw [if_pos e3, ← e3, e2]
      · rw [if_neg e3]
    · have a1 : total < j ∧ j < L.length := by omega
      rw [if_pos a1, if_neg e1, if_neg e2, if_neg e2]
def spRank : Sp := fun vs H Q _ => ∃ (R : Addr) (n : Nat) (xs : List V) (rows : List Row) (B : Nat), vs = [.ref R] ∧ H R = some (.lst xs) ∧ RowsIn H xs rows ∧ (∀ r ∈ rows, r.length = n ∧ Small r B) ∧ n ≤ 100 ∧ rows.length ≤ 100 ∧ 0 < B ∧ TB B (rows.length - 1) ≤ 9000 ∧
  ∀ (t : Nat) (H' : Hp), Same H H' → Aon.Rank rows t → Q (.int (t : Nat)) H'
theorem ok_Rank {f : Addr} {fd : FuncData} (F : Fun K "_law_rank" "_law_rank" sRank f fd) (T : TxKer mg) (GT : Has P w K mg base CX0 1 "_law_thin" PThin spThin) : FnOk P w K mg base CX0 2 f fd PRank spRank := by
  refine F.ok scRank (fun vs H Q E h => ?_) (fun cdv A outer s H vs Q E hr h => ?_)
  · obtain ⟨R, n, xs, rows, B, rfl, _⟩ := h
    rfl
  · obtain ⟨R, n, xs, rows, B, rfl, hR, hx, hrow, hn, h60, b0, eb, kq⟩ := h
    refine ⟨_, (pss_cons (ps_set (i := 1) scRank.nd rfl (Or.inr rfl) (pe_lc (own := [("_law_row", 2)]) (g := gName 2) (tt := tYes) rfl scRank.nd (pi_list (pv 0)) (blkOk_by (own := [("_law_row", 2)]) (N := NRank) (sc := (defScope sRank)) (by decide +kernel)) (fun _ _ _ _ _ => (pg_name (i := 2) scRank.nd rfl (Or.inl rfl))) (fun _ _ _ _ _ => pts_nil) (fun _ _ _ _ _ => (pe_callTy (r := rListOf K) call_list_of (by rfl) T.n_list bb_list (pa_cons (pv 2) pa_nil)))))
  (pss_cons (ps_asg (pe_tup (pa_cons pe_int (pa_cons pe_int pa_nil))) (pg_tup (by rfl) (pgs_cons (pg_name (i := 3) scRank.nd rfl (Or.inl rfl)) (pgs_cons (pg_name (i := 4) scRank.nd rfl (Or.inr rfl)) pgs_nil))))
  (pss_cons (ps_set (i := 5) scRank.nd rfl (Or.inl rfl) (pe_ifExp (pt_cmpR (op_neD hr.units) (pv 0) (pe_lst pa_nil) (nomark _)) (pe_callB call_len_seq (by rfl) T.n_len bb_len (pa_cons (pe_ix (r := rIxL K) ix_list (pv 0) pe_int (fun _ _ => rfl)) pa_nil)) pe_int))
  (pss_cons (ps_while PassesOwn.never (PW.pt (pw_and (pt_cmpR op_lt (pv 4) (pv 5) (nomark _)) (pw_and1 (pt_cmpR op_lt (pv 3) (pe_callB call_len_seq (by rfl) T.n_len bb_len (pa_cons (pv 1) pa_nil)) (nomark _)))))
  (pss_cons (ps_setLc (i := 6) (own := [("_law_one", 7)]) (g := gName 7) rfl scRank.nd rfl rfl (sw_true rfl rfl rfl (by decide +kernel)) (pi_range2 (by rfl) T.n_range (pa_cons (pv 3) (pa_cons (pe_callB call_len_seq (by rfl) T.n_len bb_len (pa_cons (pv 1) pa_nil)) pa_nil))) (blkOk_by (own := [("_law_one", 7)]) (N := NRank) (sc := (defScope sRank)) (by decide +kernel)) (fun _ _ _ _ _ => (pg_name (i := 7) scRank.nd rfl (Or.inl rfl))) (fun _ _ _ _ _ => (pts_one (pt_cmpR op_ne (pe_ix (r := rIxL K) ix_list (pe_ix (r := rIxL K) ix_list (pv 1) (pv 7) (fun _ _ => rfl)) (pv 4) (fun _ _ => rfl)) pe_int (nomark _)))) (fun _ _ _ _ _ => (pv 7)))
  (pss_cons (ps_if (pt_cmpR (op_neD hr.units) (pv 6) (pe_lst pa_nil) (nomark _))
  (pss_cons (ps_asg (pe_tup (pa_cons (pe_ix (r := rIxL K) ix_list (pv 1) (pe_ix (r := rIxL K) ix_list (pv 6) pe_int (fun _ _ => rfl)) (fun _ _ => rfl)) (pa_cons (pe_ix (r := rIxL K) ix_list (pv 1) (pv 3) (fun _ _ => rfl)) pa_nil))) (pg_tup (by rfl) (pgs_cons (pg_sub (pv 1) (pv 3) set_list) (pgs_cons (pg_sub (pv 1) (pe_ix (r := rIxL K) ix_list (pv 6) pe_int (fun _ _ => rfl)) set_list) pgs_nil))))
  (pss_cons (ps_set (i := 8) scRank.nd rfl (Or.inr rfl) (pe_ix (r := rIxL K) ix_list (pv 1) (pv 3) (fun _ _ => rfl)))
  (pss_cons (ps_for PassesOwn.never rfl (pi_range2 (by rfl) T.n_range (pa_cons (pe_op op_add (pv 3) pe_int) (pa_cons (pe_callB call_len_seq (by rfl) T.n_len bb_len (pa_cons (pv 1) pa_nil)) pa_nil))) (pg_name (i := 7) scRank.nd rfl (Or.inl rfl))
  (pss_cons (ps_set (i := 9) scRank.nd rfl (Or.inr rfl) (pe_ix (r := rIxL K) ix_list (pe_ix (r := rIxL K) ix_list (pv 1) (pv 7) (fun _ _ => rfl)) (pv 4) (fun _ _ => rfl)))
  (pss_cons (ps_set (i := 10) scRank.nd rfl (Or.inr rfl) (pe_ix (r := rIxL K) ix_list (pv 1) (pv 7) (fun _ _ => rfl)))
  (pss_cons (ps_set (i := 11) scRank.nd rfl (Or.inr rfl) (pe_lc (own := [("_law_value", 12)]) (g := gName 12) (tt := tYes) rfl scRank.nd (pi_list (pv 8)) (blkOk_by (own := [("_law_value", 12)]) (N := NRank) (sc := (defScope sRank)) (by decide +kernel)) (fun _ _ _ _ _ => (pg_name (i := 12) scRank.nd rfl (Or.inl rfl))) (fun _ _ _ _ _ => pts_nil) (fun _ _ _ _ _ => (pe_op op_mulW (pv 9) (pv 12)))))
  (pss_one (ps_asg (pe_callH GT hr rfl pass0 (pa_cons (pe_lc (own := [("_law_to", 13)]) (g := gName 13) (tt := tYes) rfl scRank.nd (pi_range1 (by rfl) T.n_range (pa_cons (pv 5) pa_nil)) (blkOk_by (own := [("_law_to", 13)]) (N := NRank) (sc := (defScope sRank)) (by decide +kernel)) (fun _ _ _ _ _ => (pg_name (i := 13) scRank.nd rfl (Or.inl rfl))) (fun _ _ _ _ _ => pts_nil) (fun _ _ _ _ _ => (pe_op op_sub (pe_op op_mulW (pe_ix (r := rIxL K) ix_list (pv 8) (pv 4) (fun _ _ => rfl)) (pe_ix (r := rIxL K) ix_list (pv 10) (pv 13) (fun _ _ => rfl))) (pe_ix (r := rIxL K) ix_list (pv 11) (pv 13) (fun _ _ => rfl))))) pa_nil)) (pg_sub (pv 1) (pv 7) set_list)))))))
  (pss_one (ps_set (i := 3) scRank.nd rfl (Or.inl rfl) (pe_op op_add (pv 3) pe_int))))))
  pss_nil)
  (pss_one (ps_set (i := 4) scRank.nd rfl (Or.inr rfl) (pe_op op_add (pv 4) pe_int))))))
  (pss_one (ps_ret (pv 3))))))), ?_⟩
    have lx : xs.length = rows.length := Paired.length hx
    -- left
    refine ⟨_, rfl, R, rfl, ⟨_, SqL.of hR⟩, fun A hA => ?_⟩
    refine lc_it (walk_list (K := K) (a := R) (xs := xs)) (fun i H' => Same H H' ∧ ∃ ys, H' A = some (.lst ys) ∧ LL H' ys (rows.take i)) ⟨same_new hA, [], upd_same, .nil⟩ (fun i H' _ h' => SqL.of (h'.1 _ _ hR)) ?_ ?_
    · rintro i x H1 H2 hi ⟨s1, ys, eA, hy⟩ ⟨rfl, hxi⟩
      obtain ⟨r, hri, q, rfl, hq⟩ := Paired.at hx hxi
      have lys : ys.length = (rows.take i).length := Paired.length hy
      rw [List.length_take] at lys
      refine ⟨rfl, _, rfl, q, _, rfl, .inr (SqT.of (s1 _ _ hq)), fun l hl => ?_⟩
      have s2 := same_new (o := .lst (r.map V.int)) hl
      have eA2 := s2 _ _ eA
      refine ⟨ys, eA2, small1000 (by omega), fun b o e => by rw [upd_ne (ne_of_none e hA)]; exact s2 b o (s1 b o e), _, upd_same, ?_⟩
      have lA : l ≠ A := fun z => by rw [z, eA] at hl; cases hl
      rw [take_snoc hri]
      refine Paired.snocP ((hy.same s2).upd eA2) ⟨l, rfl, ?_⟩
      show upd (upd _ l _) A _ l = _
      rw [upd_ne lA, upd_same]
    rintro H1 ⟨s1, ys, eA, hy⟩
    rw [lx, List.take_length] at hy
    -- total, at = 0, 0
    refine ⟨(by show 2 ≤ sizeLine; decide), fun T0 hT0 => ⟨T0, _, rfl, SqT.of upd_same, rfl, _, _, rfl, _, _, rfl, rfl, ?_⟩⟩
    have s2 := same_new (o := .tup [.int 0, .int 0]) hT0
    -- wide
    refine ⟨_, rfl, (by show 0 ≤ sizeLine; decide), fun N0 hN0 => ?_⟩
    have s3 := s2.trans (same_new (o := .lst []) hN0)
    refine ⟨_, _, dp_rows ((s1.trans s3) _ _ hR) (hx.same (TSame.of (s1.trans s3))), .lst (SqL.of upd_same) .nil, shaped_rows _, by decide, _, rfl, ?_⟩
    rw [eqv_nil_rows]
    obtain ⟨H3, eH3⟩ : ∃ H3, H3 = upd (upd H1 T0 (.tup [.int 0, .int 0])) N0 (.lst []) := ⟨_, rfl⟩
    rw [← eH3] at s3 ⊢
    have s13 := s1.trans s3
    have eA3 := s3 _ _ eA
    have hy3 := hy.same s3
    refine ite2 (fun hne => ?ga) (fun hnil => ?gb)
    case' ga =>
      have ne : rows ≠ [] := fun z => by rw [z] at hne; exact absurd hne (by decide)
      obtain ⟨p0, e0, t0⟩ : ∃ p, xs[0]? = some (.ref p) ∧ TupAt H p (rows.getD 0 []) := by
        obtain ⟨p, e, q, _⟩ := rows_at hx (i := 0) (x := xs[0]'(by rw [lx]; exact List.length_pos_iff.mpr ne)) (List.getElem?_eq_getElem (by rw [lx]; exact List.length_pos_iff.mpr ne))
        exact ⟨p, by rw [List.getElem?_eq_getElem (by rw [lx]; exact List.length_pos_iff.mpr ne), e], q⟩
      have l0 : (rows.getD 0 []).length = n := (hrow _ (getD_mem (List.length_pos_iff.mpr ne))).1
      refine ⟨_, rfl, R, _, _, _, rfl, rfl, SqL.of (s13 _ _ hR), atI_nat (j := 0) e0, p0, _, rfl, .inr (SqT.of (s13 _ _ t0)), ?_⟩
      rw [List.length_map, l0]
      have hwd : rows = [] ∨ n = n := .inr rfl
    case' gb =>
      have ne : rows = [] := by
        by_cases z : rows = []
        · exact z
        · exact absurd (by rw [decide_eq_false z]; rfl) hnil
      have hwd : rows = [] ∨ 0 = n := .inl ne
    all_goals
      refine ⟨fun m σ H' => ∃ (wd total at_ : Nat) (L : List Row) (zs : List V) (x2 x6 x7 x8 x9 x10 x11 x12 x13 : Option V), m = wd - at_ ∧ (rows = [] ∨ wd = n) ∧ σ = [some (.ref R), some (.ref A), x2, some (.int (total : Nat)), some (.int (at_ : Nat)), some (.int (wd : Nat)), x6, x7, x8, x9, x10, x11, x12, x13] ∧
        Same H H' ∧ H' A = some (.lst zs) ∧ LL H' zs L ∧ RI n B rows L total at_ ∧ L.length = rows.length, ⟨_, _, 0, 0, rows, ys, none, none, none, none, none, none, none, none, none, rfl, hwd, rfl, s13, eA3, hy3, ri_start hrow, rfl⟩, ?_⟩
      rintro m σ H4 ⟨wd, total, at_, L, zs, x2, x6, x7, x8, x9, x10, x11, x12, x13, rfl, hwd, rfl, s4, eA4, hL4, ri, lL⟩
      have lz : zs.length = L.length := Paired.length hL4
      refine ⟨_, rfl, _, rfl, _, _, rfl, rfl, _, rfl, ite2 (fun h1 => ?_) (fun h1 => ?_)⟩
      · have h1 := of_decide_eq_true h1
        refine ⟨_, rfl, _, rfl, A, _, rfl, .inl (SqL.of eA4), _, _, rfl, rfl, _, rfl, ite2 (fun h2 => ?_) (fun h2 => ?_)⟩
        · have h2 := of_decide_eq_true h2
          have tl : total < L.length := by omega
          have rne : rows ≠ [] := fun z => by rw [lL, z] at tl; cases tl
          have wn : wd = n := hwd.resolve_left rne
          subst wn
          have ac : at_ < wd := by omega
          refine ⟨fun σ' H' => ∃ (total' : Nat) (L : List Row) (zs : List V) (x2 x6 x7 x8 x9 x10 x11 x12 x13 : Option V), σ' = [some (.ref R), some (.ref A), x2, some (.int (total' : Nat)), some (.int ((at_ + 1 : Nat) : Int)), some (.int (wd : Nat)), x6, x7, x8, x9, x10, x11, x12, x13] ∧
            Same H H' ∧ H' A = some (.lst zs) ∧ LL H' zs L ∧ RI wd B rows L total' (at_ + 1) ∧ L.length = rows.length, ?_, ?_⟩
          · rintro σ' H' ⟨total', L', zs', y2, y6, y7, y8, y9, y10, y11, y12, y13, e1, e2, e3, e4, e5, e6⟩
            exact ⟨wd - (at_ + 1), by omega, wd, total', at_ + 1, L', zs', y2, y6, y7, y8, y9, y10, y11, y12, y13, rfl, .inr rfl, e1, e2, e3, e4, e5, e6⟩
          · have m1 : TB B total ≤ 9000 := Nat.le_trans (TB_mono (by omega)) eb
            have sL : ∀ j, j < L.length → (L.getD j []).length = wd ∧ Small (L.getD j []) (TB B total) := fun j hj => ⟨ri.len _ (getD_mem hj), ri.small _ (getD_mem hj)⟩
            have tb0 : 0 < TB B total := Nat.lt_of_lt_of_le b0 (TB_mono (s := 0) (Nat.zero_le _))
            have bad : ∀ (j : Nat), (!decide (V.int (ev (L.getD j []) at_) = V.int 0)) = decide (ev (L.getD j []) at_ ≠ 0) := fun j => by
              by_cases q : ev (L.getD j []) at_ = 0
              · rw [q]; rfl
              · rw [decide_eq_false (fun z => by injection z with z; exact q z), decide_eq_true q]; rfl
            -- good
            refine ⟨_, rfl, _, rfl, A, _, rfl, .inl (SqL.of eA4), _, _, rfl, ⟨by omega, by omega, by rw [lz]; omega, by rw [lz]; omega⟩, fun D hD => ?_⟩
            obtain ⟨gl, egl⟩ : ∃ gl : Nat → List Int, gl = fun i => ((List.range i).filter fun k => decide (ev (L.getD (total + k) []) at_ ≠ 0)).map fun k => ((total + k : Nat) : Int) := ⟨_, rfl⟩
            have DA : D ≠ A := fun z => by rw [z, eA4] at hD; cases hD
            refine lc_range (lo := (total : Int)) (n := ((zs.length : Int) - (total : Int)).toNat) (fun i H' => Same H4 H' ∧ H' D = some (.lst ((gl i).map V.int)) ∧ (gl i).length ≤ i) ⟨same_new hD, by rw [egl]; exact upd_same, by rw [egl]; exact Nat.le_refl _⟩ ?_ ?_
            · rintro i H5 hi ⟨s5, eD5, lg⟩
              have hj : total + i < L.length := by omega
              obtain ⟨q, hq, hlq⟩ := ll_at hL4 hj
              have hlq5 := s5 _ _ hlq
              refine ⟨rfl, _, rfl, _, rfl, A, _, _, _, rfl, rfl, SqL.of (s5 _ _ eA4), at_of (j := total + i) (by omega) hq, _, rfl, q, _, _, _, rfl, rfl, SqL.of hlq5, atI_ev (by rw [(sL _ hj).1]; exact ac), rfl, _, rfl, ?_⟩
              rw [bad]
              have gs : gl (i + 1) = gl i ++ (if ev (L.getD (total + i) []) at_ ≠ 0 then [((total + i : Nat) : Int)] else []) := by
                rw [egl]
                show List.map _ (List.filter _ (List.range (i + 1))) = _
                rw [List.range_succ, List.filter_append, List.map_append]
                congr 1
                by_cases z : ev (L.getD (total + i) []) at_ = 0
                · rw [if_neg (fun w => w z), List.filter_cons, decide_eq_false (fun w => w z)]
                  rfl
                · rw [if_pos z, List.filter_cons, decide_eq_true z]
                  rfl
              refine ite2 (fun hne => ?_) (fun hne => ?_)
              · have hne := of_decide_eq_true hne
                rw [if_pos hne] at gs
                refine ⟨_, rfl, _, eD5, small1000 (by rw [List.length_map]; omega), fun b o e => by rw [upd_ne (ne_of_none e hD)]; exact s5 b o e, ?_, ?_⟩
                · rw [upd_same, gs, List.map_append]
                  rfl
                · rw [gs, List.length_append]
                  show (gl i).length + 1 ≤ i + 1
                  omega
              · have hne : ¬ ev (L.getD (total + i) []) at_ ≠ 0 := fun z => hne (decide_eq_true z)
                rw [if_neg hne, List.append_nil] at gs
                exact ⟨s5, by rw [gs]; exact eD5, by rw [gs]; omega⟩
            rintro H5 ⟨s5, eD5, lg⟩
            have cnt : ((zs.length : Int) - (total : Int)).toNat = L.length - total := by omega
            rw [cnt] at eD5 lg
            obtain ⟨G, eG⟩ : ∃ G, G = gl (L.length - total) := ⟨_, rfl⟩
            rw [← eG] at eD5 lg
            -- good != []
            refine ⟨_, rfl, (by show 0 ≤ sizeLine; decide), fun N1 hN1 => ?_⟩
            have s6 := same_new (o := .lst []) hN1
            refine ⟨_, _, .lst (SqL.of (s6 _ _ eD5)) (dp_ints _), .lst (SqL.of upd_same) .nil, shaped_ints _, by decide, _, rfl, ?_⟩
            rw [eqv_nil_ints]
            obtain ⟨H6, eH6⟩ : ∃ H6, H6 = upd H5 N1 (.lst []) := ⟨_, rfl⟩
            rw [← eH6] at s6 ⊢
            have s46 := s5.trans s6
            have eA6 := s46 _ _ eA4
            have eD6 := s6 _ _ eD5
            have hL6 := hL4.same s46
            refine ite2 (fun hG => ?_) (fun hG => ?_)
            · have Gne : G ≠ [] := fun z => by rw [z] at hG; exact absurd hG (by decide)
              obtain ⟨g, hg0, hgt, hgl, hgne⟩ : ∃ g : Nat, G[0]? = some ((g : Nat) : Int) ∧ total ≤ g ∧ g < L.length ∧ ev (L.getD g []) at_ ≠ 0 := by
                cases e : G with
                | nil => exact absurd e Gne
                | cons x r =>
                  have hm : x ∈ G := by rw [e]; exact List.mem_cons_self ..
                  rw [eG, egl] at hm
                  obtain ⟨k, hk, rfl⟩ := List.mem_map.mp hm
                  obtain ⟨k1, k2⟩ := List.mem_filter.mp hk
                  exact ⟨total + k, rfl, by omega, by have := List.mem_range.mp k1; omega, of_decide_eq_true k2⟩
              obtain ⟨pg, hpg, lpg⟩ := ll_at hL6 hgl
              obtain ⟨pt, hpt, lpt⟩ := ll_at hL6 tl
              have aG : atI (G.map V.int) 0 = some (V.int ((g : Nat) : Int)) := atI_nat (j := 0) (by rw [List.getElem?_map, hg0]; rfl)
              -- swap
              refine ⟨_, rfl, _, rfl, D, _, _, _, rfl, rfl, SqL.of eD6, aG, A, _, _, _, rfl, rfl, SqL.of eA6, atI_nat hpg, _, rfl, _, rfl, A, _, _, _, rfl, rfl, SqL.of eA6, atI_nat hpt, (by show 2 ≤ sizeLine; decide), fun T1 hT1 => ?_⟩
              have s7 := same_new (o := .tup [.ref pg, .ref pt]) hT1
              have eA7 := s7 _ _ eA6
              have eD7 := s7 _ _ eD6
              refine ⟨T1, _, rfl, SqT.of upd_same, rfl, _, _, rfl, _, rfl, _, rfl, A, _, _, total, rfl, rfl, eA7, ix_nat (by omega), _, _, rfl, _, rfl, _, rfl, D, _, _, _, rfl, rfl, SqL.of (by rw [upd_ne DA]; exact eD7), aG, A, _, _, g, rfl, rfl, upd_same, ix_nat (by rw [List.length_set]; omega), rfl, ?_⟩
              obtain ⟨L1, eL1⟩ : ∃ L1, L1 = (L.set total (L.getD g [])).set g (L.getD total []) := ⟨_, rfl⟩
              obtain ⟨z1, ez1⟩ : ∃ z1, z1 = (zs.set total (V.ref pg)).set g (V.ref pt) := ⟨_, rfl⟩
              have lL1 : L1.length = L.length := by rw [eL1, List.length_set, List.length_set]
              have lz1 : z1.length = L.length := by rw [ez1, List.length_set, List.length_set]; exact lz
              have gL1 : ∀ j, L1.getD j [] = if j = g then L.getD total [] else if j = total then L.getD g [] else L.getD j [] := fun j => by
                rw [eL1, getD_set (by rw [List.length_set]; exact hgl)]
                by_cases e : j = g
                · rw [if_pos e, if_pos e]
                · rw [if_neg e, if_neg e, getD_set tl]
              rw [← ez1]
              obtain ⟨H8, eH8⟩ : ∃ H8, H8 = upd (upd (upd H6 T1 (.tup [.ref pg, .ref pt])) A (.lst (zs.set total (.ref pg)))) A (.lst z1) := ⟨_, rfl⟩
              rw [← eH8]
              have eA8 : H8 A = some (.lst z1) := by rw [eH8]; exact upd_same
              have k8 : ∀ b o, H6 b = some o → b ≠ A → H8 b = some o := fun b o e hb => by
                rw [eH8, upd_ne hb, upd_ne hb]
                exact s7 b o e
              have hL8 : LL H8 z1 L1 := by
                have q : LL H8 zs L := paired_mem hL6 fun x hx r ⟨p, e, q⟩ => ⟨p, e, k8 _ _ q (by
                  obtain ⟨i, hi⟩ := List.mem_iff_getElem?.mp hx
                  rw [e] at hi
                  exact hL6.ne eA6 hi)⟩
                rw [ez1, eL1]
                exact Paired.set (Paired.set q ⟨pg, rfl, k8 _ _ lpg (hL6.ne eA6 hpg)⟩ total) ⟨pt, rfl, k8 _ _ lpt (hL6.ne eA6 hpt)⟩ g
              have s48 : Same H H8 := fun b o e => k8 b o (s46 b o (s4 b o e)) (ne_of_none e hA)
              -- first
              have hft : ∃ pf, z1[total]? = some (.ref pf) ∧ LstAt H8 pf (L.getD g []) := by
                obtain ⟨pf, e1, e2⟩ := ll_at hL8 (i := total) (by omega)
                rw [gL1] at e2
                refine ⟨pf, e1, ?_⟩
                by_cases e : total = g
                · rw [if_pos e] at e2
                  rw [← e]
                  exact e2
                · rw [if_neg e, if_pos rfl] at e2
                  exact e2
              obtain ⟨pf, hpf, lpf⟩ := hft
              have pfA : pf ≠ A := hL8.ne eA8 hpf
              refine ⟨_, rfl, _, rfl, A, _, _, _, rfl, rfl, SqL.of eA8, atI_nat hpf, ?_⟩
              obtain ⟨fr, efr⟩ : ∃ fr, fr = L.getD g [] := ⟨_, rfl⟩
              rw [← efr] at lpf
              have lfr : fr.length = wd := by rw [efr]; exact (sL g hgl).1
              have sfr : Small fr (TB B total) := by rw [efr]; exact (sL g hgl).2
              have sL1 : ∀ j, j < L.length → (L1.getD j []).length = wd ∧ Small (L1.getD j []) (TB B total) := fun j hj => by
                rw [gL1]
                split
                · exact sL _ tl
                · split
                  · exact sL _ hgl
                  · exact sL _ hj
              -- the loop
              refine ⟨_, rfl, _, _, rfl, rfl, _, rfl, A, _, rfl, .inl (SqL.of eA8), _, _, rfl, ⟨by omega, by omega, by omega, by omega⟩, ?_⟩
              refine for_range (lo := (total : Int) + 1) (n := ((z1.length : Int) - ((total : Int) + 1)).toNat) (fun i σ H' => Same H H' ∧ ∃ (zz : List V) (LN : List Row) (y7 y9 y10 y11 y12 y13 : Option V), σ = [some (.ref R), some (.ref A), x2, some (.int (total : Nat)), some (.int (at_ : Nat)), some (.int (wd : Nat)), some (.ref D), y7, some (.ref pf), y9, y10, y11, y12, y13] ∧
                H' A = some (.lst zz) ∧ LL H' zz LN ∧ LstAt H' pf fr ∧ LN.length = L.length ∧ ∀ j, j < L.length → LN.getD j [] = if total < j ∧ j < total + 1 + i then clear wd fr (L1.getD j []) at_ else L1.getD j []) ?_ ?_ ?_
              · refine ⟨s48, z1, L1, _, _, _, _, _, _, rfl, eA8, hL8, lpf, lL1, fun j hj => ?_⟩
                rw [if_neg (by omega)]
              · rintro i σ H9 hi ⟨s9, zz, LN, y7, y9, y10, y11, y12, y13, rfl, eA9, hL9, lf9, lLN, gLN⟩
                have hj : total + 1 + i < L.length := by omega
                have m2 : 2 * TB B total + 1 ≤ 9000 := Nat.le_trans (TB_mono (s := total + 1) (by omega)) eb
                have lzz : zz.length = LN.length := Paired.length hL9
                obtain ⟨po, hpo, lpo⟩ := ll_at hL9 (i := total + 1 + i) (by omega)
                rw [gLN _ hj, if_neg (by omega)] at lpo
                obtain ⟨ot, eot⟩ : ∃ ot, ot = L1.getD (total + 1 + i) [] := ⟨_, rfl⟩
                rw [← eot] at lpo
                obtain ⟨lot, sot⟩ := sL1 _ hj
                rw [← eot] at lot sot
                have ato : atI zz ((total : Int) + 1 + (i : Int)) = some (.ref po) := at_of (j := total + 1 + i) (by omega) hpo
                refine ⟨_, rfl, _, rfl, A, _, _, _, rfl, rfl, SqL.of eA9, ato, _, rfl, po, _, _, _, rfl, rfl, SqL.of lpo, atI_ev (by rw [lot]; exact ac), ?_⟩
                refine ⟨_, rfl, _, rfl, A, _, _, _, rfl, rfl, SqL.of eA9, ato, ?_⟩
                -- lower
                refine ⟨_, rfl, pf, rfl, ⟨_, SqL.of lf9⟩, fun D1 hD1 => ?_⟩
                refine lc_map (walk_list (K := K) (a := pf) (xs := fr.map V.int)) (fun i => V.int (ev ot at_ * ev fr i)) hD1 (by rw [List.length_map, lfr]; omega) (fun H' s' => SqL.of (s' _ _ lf9)) ?_ ?_
                · rintro k x H10 H11 kk hk s10 ⟨rfl, hxk⟩ kc
                  obtain ⟨z, hz, rfl⟩ := int_at hxk
                  refine ⟨rfl, _, rfl, _, rfl, _, _, rfl, rfl, wide_mul (getD_small sot _) (sfr _ (List.mem_of_getElem? hz)) tb0 tb0 (by omega), ?_⟩
                  have q := kc _ (Same.refl _)
                  rw [show ev fr k = z from getD_of hz] at q
                  exact q
                intro H10 s10 e10
                rw [List.length_map, lfr] at e10
                have e10 : H10 D1 = some (.lst (((List.range wd).map fun i => ev ot at_ * ev fr i).map V.int)) := by rw [e10, List.map_map]; rfl
                have lf10 := s10 _ _ lf9
                have lo10 := s10 _ _ lpo
                have eA10 := s10 _ _ eA9
                -- the new row
                refine ⟨_, rfl, (wd : Int), rfl, by omega, by omega, fun D2 hD2 => ?_⟩
                rw [Int.toNat_natCast]
                refine lc_map (walk_range (lo := 0) (n := wd)) (fun i => V.int (ev fr at_ * ev ot i - ev ot at_ * ev fr i)) hD2 (by omega) (fun _ _ => trivial) ?_ ?_
                · rintro k x H11 H12 kk hk s11 ⟨rfl, rfl⟩ kc
                  have ek : (0 : Int) + ((k : Nat) : Int) = ((k : Nat) : Int) := Int.zero_add _
                  have a1 : atI (fr.map V.int) ((at_ : Nat) : Int) = some (V.int (ev fr at_)) := atI_ev (by rw [lfr]; exact ac)
                  have a2 : atI (ot.map V.int) (0 + ((k : Nat) : Int)) = some (V.int (ev ot k)) := by rw [ek]; exact atI_ev (by rw [lot]; exact hk)
                  have a3 : atI (((List.range wd).map fun i => ev ot at_ * ev fr i).map V.int) (0 + ((k : Nat) : Int)) = some (V.int (ev ot at_ * ev fr k)) := by
                    rw [ek, atI_ev (by rw [List.length_map, List.length_range]; exact hk), ev_range hk]
                  refine ⟨rfl, _, rfl, _, rfl, pf, _, _, _, rfl, rfl, SqL.of (s11 _ _ lf10), a1, _, rfl, _, rfl, po, _, _, _, rfl, rfl, SqL.of (s11 _ _ lo10), a2, _, _, rfl, rfl, wide_mul (getD_small sfr _) (getD_small sot _) tb0 tb0 (by omega), _, rfl, _, rfl, D1, _, _, _, rfl, rfl, SqL.of (s11 _ _ e10), a3, _, _, rfl, rfl, kc _ (Same.refl _)⟩
                intro H11 s11 e11
                have e11 : LstAt H11 D2 ((List.range wd).map fun i => ev fr at_ * ev ot i - ev ot at_ * ev fr i) := by
                  show H11 D2 = _
                  rw [e11, List.map_map]
                  rfl
                have sx := small_cross (n := wd) (c := at_) sfr sot
                refine ⟨D2, _, rfl, e11, by rw [List.length_map, List.length_range]; exact hn, small_mono sx m2, fun q H12 s12 eq12 => ?_⟩
                have s912 := (s10.trans s11).trans s12
                have eA12 := s912 _ _ eA9
                refine ⟨_, rfl, _, rfl, A, _, _, total + 1 + i, rfl, rfl, eA12, ?_, ?_⟩
                · rw [show (total : Int) + 1 + (i : Int) = ((total + 1 + i : Nat) : Int) by omega]
                  exact ix_nat (by omega)
                have qA : q ≠ A := fun z => by
                  have w : H12 A = some (.lst ((thinF ((List.range wd).map fun i => ev fr at_ * ev ot i - ev ot at_ * ev fr i)).map V.int)) := by rw [← z]; exact eq12
                  rw [eA12] at w
                  injection w with w
                  injection w with w
                  have := List.mem_of_getElem? hpo
                  rw [w] at this
                  obtain ⟨_, _, w⟩ := List.mem_map.mp this
                  cases w
                refine ⟨fun b o e => by rw [upd_ne (ne_of_none e hA)]; exact s912 b o (s9 b o e), zz.set (total + 1 + i) (.ref q), LN.set (total + 1 + i) (clear wd fr ot at_), _, _, _, _, _, _, rfl, upd_same, ?_, ?_, by rw [List.length_set]; exact lLN, fun j hj' => ?_⟩
                · refine Paired.set ((hL9.same s912).upd eA12) ⟨q, rfl, ?_⟩ _
                  show upd H12 A _ q = _
                  rw [upd_ne qA]
                  exact eq12
                · show upd H12 A _ pf = _
                  rw [upd_ne pfA]
                  exact s912 _ _ lf9
                · rw [getD_set (by omega), gLN j hj']
                  by_cases e : j = total + 1 + i
                  · rw [if_pos e, if_pos (by omega), e, eot]
                  · rw [if_neg e]
                    by_cases e2 : total < j ∧ j < total + 1 + i
                    · rw [if_pos e2, if_pos (by omega)]
                    · rw [if_neg e2, if_neg (by omega)]
              · rintro σ H9 ⟨s9, zz, LN, y7, y9, y10, y11, y12, y13, rfl, eA9, hL9, lf9, lLN, gLN⟩
                have cnt2 : total + 1 + ((z1.length : Int) - ((total : Int) + 1)).toNat = L.length := by omega
                rw [cnt2] at gLN
                have RI2 := ri_pivot (N := LN) (g := g) ri ac hgt hgl hgne lLN fun j hj => by
                  rw [gLN j hj, gL1 j, efr]
                  exact piv_form hgt hj
                refine ⟨_, rfl, _, _, rfl, rfl, ?_⟩
                refine ⟨_, rfl, _, _, rfl, rfl, total + 1, LN, zz, _, _, _, _, _, _, _, _, _, rfl, s9, eA9, hL9, RI2, lLN.trans lL⟩
            · have Ge : G = [] := by
                by_cases z : G = []
                · exact z
                · exact absurd (by rw [decide_eq_false z]; rfl) hG
              have RI2 := ri_skip ri fun j h3 h4 => by
                by_cases z : ev (L.getD j []) at_ = 0
                · exact z
                · exfalso
                  have : ((total + (j - total) : Nat) : Int) ∈ G := by
                    rw [eG, egl]
                    refine List.mem_map.mpr ⟨j - total, List.mem_filter.mpr ⟨List.mem_range.mpr (by omega), ?_⟩, rfl⟩
                    rw [show total + (j - total) = j by omega]
                    exact decide_eq_true z
                  rw [Ge] at this
                  cases this
              exact ⟨_, rfl, _, _, rfl, rfl, total, L, zs, _, _, _, _, _, _, _, _, _, rfl, s4.trans s46, eA6, hL6, RI2, lL⟩
        · have h2 : ¬ total < L.length := fun z => h2 (decide_eq_true (by rw [lz]; omega))
          exact ⟨_, rfl, kq total H4 s4 (ri_end ri (.inr (by omega)))⟩
      · have h1 : ¬ at_ < wd := fun z => h1 (decide_eq_true (by omega))
        refine ⟨_, rfl, kq total H4 s4 (ri_end ri ?_)⟩
        rcases hwd with z | z
        · right
          rw [lL, z]
          exact Nat.zero_le _
        · left
          omega
end

/-! ### the class Space -/
abbrev sIterR : Stmt := topS 14
abbrev NIterR : List Str := ["width", "rows"]
abbrev PIterR : List Str := ["width", "rows"]
theorem scIterR : FnScope NIterR PIterR (defScope sIterR) := ⟨rfl, rfl, rfl, by decide +kernel, rfl, by decide +kernel, by decide +kernel⟩
abbrev sSpIni : Stmt := inClass (topS 15) 0
abbrev NSpIni : List Str := ["self", "width", "rows"]
abbrev PSpIni : List Str := ["self", "width", "rows"]
theorem scSpIni : FnScope NSpIni PSpIni (defScope sSpIni) := ⟨rfl, rfl, rfl, by decide +kernel, rfl, by decide +kernel, by decide +kernel⟩
abbrev sSpWid : Stmt := inClass (topS 15) 1
abbrev NSpWid : List Str := ["self"]
abbrev PSpWid : List Str := ["self"]
theorem scSpWid : FnScope NSpWid PSpWid (defScope sSpWid) := ⟨rfl, rfl, rfl, by decide +kernel, rfl, by decide +kernel, by decide +kernel⟩
abbrev sSpRows : Stmt := inClass (topS 15) 2
abbrev NSpRows : List Str := ["self"]
abbrev PSpRows : List Str := ["self"]
theorem scSpRows : FnScope NSpRows PSpRows (defScope sSpRows) := ⟨rfl, rfl, rfl, by decide +kernel, rfl, by decide +kernel, by decide +kernel⟩
abbrev sSpLen : Stmt := inClass (topS 15) 3
abbrev NSpLen : List Str := ["self"]
abbrev PSpLen : List Str := ["self"]
theorem scSpLen : FnScope NSpLen PSpLen (defScope sSpLen) := ⟨rfl, rfl, rfl, by decide +kernel, rfl, by decide +kernel, by decide +kernel⟩
abbrev sSpBool : Stmt := inClass (topS 15) 4
abbrev NSpBool : List Str := ["self"]
abbrev PSpBool : List Str := ["self"]
theorem scSpBool : FnScope NSpBool PSpBool (defScope sSpBool) := ⟨rfl, rfl, rfl, by decide +kernel, rfl, by decide +kernel, by decide +kernel⟩
abbrev sSpIn : Stmt := inClass (topS 15) 5
abbrev NSpIn : List Str := ["self", "value"]
abbrev PSpIn : List Str := ["self", "value"]
theorem scSpIn : FnScope NSpIn PSpIn (defScope sSpIn) := ⟨rfl, rfl, rfl, by decide +kernel, rfl, by decide +kernel, by decide +kernel⟩
abbrev sSpEq : Stmt := inClass (topS 15) 6
abbrev NSpEq : List Str := ["self", "other"]
abbrev PSpEq : List Str := ["self", "other"]
theorem scSpEq : FnScope NSpEq PSpEq (defScope sSpEq) := ⟨rfl, rfl, rfl, by decide +kernel, rfl, by decide +kernel, by decide +kernel⟩
abbrev sSpChk : Stmt := inClass (topS 15) 7
abbrev NSpChk : List Str := ["self", "other"]
abbrev PSpChk : List Str := ["self", "other"]
theorem scSpChk : FnScope NSpChk PSpChk (defScope sSpChk) := ⟨rfl, rfl, rfl, by decide +kernel, rfl, by decide +kernel, by decide +kernel⟩
abbrev sSpOr : Stmt := inClass (topS 15) 8
abbrev NSpOr : List Str := ["self", "other"]
abbrev PSpOr : List Str := ["self", "other"]
theorem scSpOr : FnScope NSpOr PSpOr (defScope sSpOr) := ⟨rfl, rfl, rfl, by decide +kernel, rfl, by decide +kernel, by decide +kernel⟩
abbrev sSpWith : Stmt := inClass (topS 15) 9
abbrev NSpWith : List Str := ["self", "other", "row"]
abbrev PSpWith : List Str := ["self", "other"]
theorem scSpWith : FnScope NSpWith PSpWith (defScope sSpWith) := ⟨rfl, rfl, rfl, by decide +kernel, rfl, by decide +kernel, by decide +kernel⟩
def spF (n : Nat) (L : Addr) : List (Str × V) := [("length", .int (n : Nat)), ("basis", .ref L)]
structure TxS (K : PySem.W.Frag) (C : Addr) : Prop extends ClsT K C where
  nL : NoAttr K C "length"
  nB : NoAttr K C "basis"
  ne : PySem.W.findIn K (.ref C) "__ne__" = some (some (.builtin "object.__ne__"))
  sf : PySem.W.selfFirst K C = true
def SpaceAt (C : Addr) (H : Hp) (S L : Addr) (n : Nat) (out : List Row) : Prop := ∃ (dx : Addr) (ys : List V), H S = some (.ins C dx (spF n L)) ∧ H L = some (.lst ys) ∧ RowsIn H ys out
theorem SpaceAt.same {C : Addr} {H H' : Hp} {S L : Addr} {n : Nat} {out : List Row} (h : SpaceAt C H S L n out) (s : Same H H') : SpaceAt C H' S L n out := let ⟨dx, ys, e1, e2, e3⟩ := h; ⟨dx, ys, s _ _ e1, s _ _ e2, e3.same (TSame.of s)⟩
/-- a basis whose rows have B bits -/
structure Bas (n B : Nat) (out : List Row) : Prop where
  rs : RS n out
  gcd : ∀ o ∈ out, gcdR o = 1
  small : ∀ o ∈ out, Small o B
theorem eqv_int_list : ∀ a b : Row, PyData.eqvAll (a.map .int) (b.map .int) = decide (a = b)
  | [], [] => by simp [PyData.eqvAll]
  | [], y :: b => by simp [PyData.eqvAll]
  | x :: a, [] => by simp [PyData.eqvAll]
  | x :: a, y :: b => by
    simp only [List.map_cons, PyData.eqvAll, PyData.eqv, eqv_int_list a b, List.cons.injEq, Bool.decide_and]
    congr 1
theorem eqv_row_list : ∀ a b : List Row, PyData.eqvAll (a.map fun r => PyData.tuple (r.map .int)) (b.map fun r => PyData.tuple (r.map .int)) = decide (a = b)
  | [], [] => by simp [PyData.eqvAll]
  | [], y :: b => by simp [PyData.eqvAll]
  | x :: a, [] => by simp [PyData.eqvAll]
  | x :: a, y :: b => by
    simp only [List.map_cons, PyData.eqvAll, PyData.eqv, eqv_int_list, eqv_row_list a b, List.cons.injEq, Bool.decide_and]
theorem eqv_rows_iff (a b : List Row) : PyData.eqv (dRows a) (dRows b) = decide (a = b) := by
  unfold dRows
  simp only [PyData.eqv, eqv_row_list]
theorem rest_none {w : Nat} {rs : List Row} (h : RS w rs) {r : Row} (hr : r.length = w) : leadN (restOf rs r) = none ↔ QS (· ∈ rs) (ev r) := by
  obtain ⟨out, ha⟩ := adds_ex rs r
  obtain ⟨_, _, a3⟩ := adds_RS h hr ha
  have len : ∀ x : List Row, x.length ≠ x.length + 1 := fun x => by omega
  rcases ha with ⟨h1, h2⟩ | ⟨h1, hp, _⟩
  · rcases a3 with q | q
    · exact ⟨fun _ => q.2, fun _ => h1⟩
    · rw [h2] at q
      exact absurd q.1 (len _)
  · rcases a3 with q | q
    · have := hp.length_eq
      rw [List.length_append, List.length_map] at this
      have e : out.length = rs.length + 1 := this
      omega
    · exact ⟨fun z => absurd z h1, fun z => absurd z q.2⟩
section
variable {P : Program} {w : World} {K : PySem.W.Frag} {mg : Str → Option Value} {base : Heap} {C : Addr}
def spIterR : Sp := fun vs H Q _ => ∃ (R : Addr) (n : Nat) (xs : List V) (rows : List Row) (B : Nat), vs = [.int (n : Nat), .ref R] ∧ 0 < n ∧ H R = some (.lst xs) ∧ RowsIn H xs rows ∧ (∀ r ∈ rows, r.length = n ∧ Small r B) ∧ n ≤ 100 ∧ rows.length < 60 ∧ 0 < B ∧ B ≤ 8000 ∧ EB B (min rows.length (n + 1)) ≤ 9000 ∧
  ∀ (L : Addr) (ys : List V) (out : List Row) (H' : Hp), Same H H' → H L = none → H' L = some (.lst ys) → RowsIn H' ys out → Reds n B rows out → Q (.ref L) H'
theorem ok_IterR {f : Addr} {fd : FuncData} (F : Fun K "iter_rows" "iter_rows" sIterR f fd) (T : TxRow mg) (GI : Has P w K mg base CX0 1 "is_integer" PIsInt (spIsInt K)) (GR : Has P w K mg base CX0 6 "reduced" PRed spRed) : FnOk P w K mg base CX0 7 f fd PIterR spIterR := by
  refine F.ok scIterR (fun vs H Q E h => ?_) (fun cdv A outer s H vs Q E hr h => ?_)
  · obtain ⟨R, n, xs, rows, B, rfl, _⟩ := h
    rfl
  · obtain ⟨R, n, xs, rows, B, rfl, n0, hR, hx, hrow, hn, h60, b0, b8, eb, k⟩ := h
    have hr1 := hr.mono (j := 1) (by decide)
    refine ⟨_, (pss_cons (ps_if (PW.pt (pw_or (pt_not (pt_val (pe_callH GI hr1 rfl pass0 (pa_cons (pv 0) pa_nil)))) (pw_or1 (pt_cmpR op_lt (pv 0) pe_int (nomark _)))))
  (pss_one ps_never)
  pss_nil)
  (pss_one (ps_ret (pe_callH GR hr rfl pass0 (pa_cons (pv 1) (pa_cons (pv 0) pa_nil)))))), ?_⟩
    refine ⟨_, rfl, _, rfl, .inl ⟨_, rfl, true, rfl, ?_⟩⟩
    refine iteE rfl ⟨_, rfl, _, _, rfl, rfl, _, rfl, iteE (decide_eq_false (by omega)) ?_⟩
    exact ⟨_, rfl, _, rfl, R, n, xs, rows, B, rfl, hR, hx, hrow, hn, h60, b0, b8, eb, k⟩
def spSpIni (C : Addr) : Sp := fun vs H Q _ => ∃ (S R dx : Addr) (n : Nat) (xs : List V) (rows : List Row) (B : Nat), vs = [.ref S, .int (n : Nat), .ref R] ∧ H S = some (.ins C dx []) ∧ 0 < n ∧ H R = some (.lst xs) ∧ RowsIn H xs rows ∧ (∀ r ∈ rows, r.length = n ∧ Small r B) ∧ n ≤ 100 ∧ rows.length < 60 ∧ 0 < B ∧ B ≤ 8000 ∧ EB B (min rows.length (n + 1)) ≤ 9000 ∧
  ∀ (L : Addr) (out : List Row) (H' : Hp), (∀ b o, H b = some o → b ≠ S → H' b = some o) → H L = none → SpaceAt C H' S L n out → Reds n B rows out → Q .non H'
theorem lb_ne : ¬ (("length" : Str) = "basis") := by decide +kernel
theorem putF_sp (n : Nat) (L : Addr) : putF "basis" (.ref L) (putF "length" (.int (n : Nat)) []) = spF n L := by
  show (if ("length" : Str) = "basis" then [(("length" : Str), V.ref L)] else (("length" : Str), V.int (n : Nat)) :: putF "basis" (V.ref L) []) = _
  rw [if_neg lb_ne]
  rfl
theorem ok_SpIni {f : Addr} {fd : FuncData} (F : Fun K "__init__" "Space.__init__" sSpIni f fd) (TS : TxS K C) (GI : Has P w K mg base CX0 7 "iter_rows" PIterR spIterR) : FnOk P w K mg base CX0 8 f fd PSpIni (spSpIni C) := by
  refine F.ok scSpIni (fun vs H Q E h => ?_) (fun cdv A outer s H vs Q E hr h => ?_)
  · obtain ⟨S, R, dx, n, xs, rows, B, rfl, _⟩ := h
    rfl
  · obtain ⟨S, R, dx, n, xs, rows, B, rfl, eS, n0, hR, hx, hrow, hn, h60, b0, b8, eb, k⟩ := h
    refine ⟨_, (pss_cons (ps_fld (pv 0) (pv 1) rfl)
  (pss_one (ps_fld (pv 0) (pe_callH GI hr rfl pass0 (pa_cons (pv 1) (pa_cons (pv 2) pa_nil))) rfl))), ?_⟩
    have RS0 : R ≠ S := ne_of hR eS fun z => by cases z
    refine ⟨_, rfl, _, rfl, S, C, dx, [], rfl, eS, TS.cl, TS.nL, (by show 0 < 1000; decide), ?_⟩
    obtain ⟨H1, eH1⟩ : ∃ H1, H1 = upd H S (.ins C dx (putF "length" (.int (n : Nat)) [])) := ⟨_, rfl⟩
    have ts : TSame H H1 := fun b ys e => by rw [eH1, upd_ne (ne_of e eS fun z => by cases z)]; exact e
    have eS1 : H1 S = some (.ins C dx (putF "length" (.int (n : Nat)) [])) := by rw [eH1, upd_same]
    have oth : ∀ b o, H b = some o → b ≠ S → H1 b = some o := fun b o e hb => by rw [eH1, upd_ne hb]; exact e
    rw [← eH1]
    refine ⟨_, rfl, _, rfl, R, n, xs, rows, B, rfl, n0, oth _ _ hR RS0, hx.same ts, hrow, hn, h60, b0, b8, eb, fun L ys out H2 s2 fr eL hy hRd => ?_⟩
    have LS : L ≠ S := fun z => by rw [z, eS1] at fr; cases fr
    refine ⟨_, rfl, S, C, dx, _, rfl, s2 _ _ eS1, TS.cl, TS.nB, (by show 1 < 1000; decide), ?_⟩
    have eS2 := s2 _ _ eS1
    refine k L out _ (fun b o e hb => by rw [upd_ne hb]; exact s2 _ _ (oth b o e hb)) ?_ ⟨dx, ys, by rw [upd_same, putF_sp], by rw [upd_ne LS]; exact eL, hy.same fun b zs e => by rw [upd_ne (ne_of e eS2 fun z => by cases z)]; exact e⟩ hRd
    rw [eH1, upd_ne LS] at fr
    exact fr
/-! what is asked of a space -/
def spWidS (C : Addr) : Sp := fun vs H Q _ => ∃ (S L : Addr) (n : Nat) (out : List Row), vs = [.ref S] ∧ SpaceAt C H S L n out ∧ Q (.int (n : Nat)) H
theorem ok_SpWid {f : Addr} {fd : FuncData} (F : Fun K "width" "Space.width" sSpWid f fd) (TS : TxS K C) : FnOk P w K mg base CX0 1 f fd PSpWid (spWidS C) := by
  refine F.ok scSpWid (fun vs H Q E h => ?_) (fun cdv A outer s H vs Q E hr h => ?_)
  · obtain ⟨S, L, n, out, rfl, _⟩ := h
    rfl
  · obtain ⟨S, L, n, out, rfl, ⟨dx, ys, e1, e2, e3⟩, k⟩ := h
    refine ⟨_, (pss_one (ps_ret (pe_fld (pv 0) rfl))), ?_⟩
    exact ⟨_, rfl, S, C, dx, _, _, rfl, e1, TS.cl, TS.nL, rfl, k⟩
def spRowsS (C : Addr) : Sp := fun vs H Q _ => ∃ (S L : Addr) (n : Nat) (out : List Row), vs = [.ref S] ∧ SpaceAt C H S L n out ∧ ∀ (l : Addr) (ys : List V), H l = none → RowsIn H ys out → Q (.ref l) (upd H l (.lst ys))
theorem ok_SpRows {f : Addr} {fd : FuncData} (F : Fun K "rows" "Space.rows" sSpRows f fd) (T : TxRow mg) (TS : TxS K C) : FnOk P w K mg base CX0 1 f fd PSpRows (spRowsS C) := by
  refine F.ok scSpRows (fun vs H Q E h => ?_) (fun cdv A outer s H vs Q E hr h => ?_)
  · obtain ⟨S, L, n, out, rfl, _⟩ := h
    rfl
  · obtain ⟨S, L, n, out, rfl, ⟨dx, ys, e1, e2, e3⟩, k⟩ := h
    refine ⟨_, (pss_one (ps_ret (pe_callTy call_list_of (by rfl) T.n_list bb_list (pa_cons (pe_fld (pv 0) rfl) pa_nil)))), ?_⟩
    exact ⟨_, rfl, S, C, dx, _, _, rfl, e1, TS.cl, TS.nB, rfl, L, _, rfl, .inl (SqL.of e2), fun l hl => k l ys hl e3⟩
def spLenSp (C : Addr) : Sp := fun vs H Q _ => ∃ (S L : Addr) (n : Nat) (out : List Row), vs = [.ref S] ∧ SpaceAt C H S L n out ∧ Q (.int (out.length : Nat)) H
theorem ok_SpLen {f : Addr} {fd : FuncData} (F : Fun K "__len__" "Space.__len__" sSpLen f fd) (T : TxRow mg) (TS : TxS K C) : FnOk P w K mg base CX0 1 f fd PSpLen (spLenSp C) := by
  refine F.ok scSpLen (fun vs H Q E h => ?_) (fun cdv A outer s H vs Q E hr h => ?_)
  · obtain ⟨S, L, n, out, rfl, _⟩ := h
    rfl
  · obtain ⟨S, L, n, out, rfl, ⟨dx, ys, e1, e2, e3⟩, k⟩ := h
    refine ⟨_, (pss_one (ps_ret (pe_callB call_len_seq (by rfl) T.n_len bb_len (pa_cons (pe_fld (pv 0) rfl) pa_nil)))), ?_⟩
    refine ⟨_, rfl, S, C, dx, _, _, rfl, e1, TS.cl, TS.nB, rfl, L, _, rfl, .inl (SqL.of e2), ?_⟩
    rw [show ys.length = out.length from Paired.length e3]
    exact k
def spBoolSp (C : Addr) : Sp := fun vs H Q _ => ∃ (S L : Addr) (n : Nat) (out : List Row), vs = [.ref S] ∧ SpaceAt C H S L n out ∧ Q (.bl (decide (0 < out.length))) H
theorem ok_SpBool {f : Addr} {fd : FuncData} (F : Fun K "__bool__" "Space.__bool__" sSpBool f fd) (T : TxRow mg) (TS : TxS K C) : FnOk P w K mg base CX0 1 f fd PSpBool (spBoolSp C) := by
  refine F.ok scSpBool (fun vs H Q E h => ?_) (fun cdv A outer s H vs Q E hr h => ?_)
  · obtain ⟨S, L, n, out, rfl, _⟩ := h
    rfl
  · obtain ⟨S, L, n, out, rfl, ⟨dx, ys, e1, e2, e3⟩, k⟩ := h
    refine ⟨_, (pss_one (ps_ret (pe_cmpR op_gt (pe_callB call_len_seq (by rfl) T.n_len bb_len (pa_cons (pe_fld (pv 0) rfl) pa_nil)) pe_int (nomark _)))), ?_⟩
    refine ⟨_, rfl, S, C, dx, _, _, rfl, e1, TS.cl, TS.nB, rfl, L, _, rfl, .inl (SqL.of e2), _, _, rfl, rfl, ?_⟩
    rw [show ys.length = out.length from Paired.length e3]
    show Q (.bl (decide ((0 : Int) < (out.length : Nat)))) H
    rw [show decide ((0 : Int) < (out.length : Nat)) = decide (0 < out.length) from decide_eq_decide.mpr (by omega)]
    exact k
def spInSp (K : PySem.W.Frag) (C : Addr) : Sp := fun vs H Q _ => ∃ (S L : Addr) (v : V) (n : Nat) (out : List Row), vs = [.ref S, v] ∧ SpaceAt C H S L n out ∧
  ((∃ (p : Addr) (r : Row) (B B' : Nat), v = .ref p ∧ TupAt H p r ∧ r.length = n ∧ n ≤ 100 ∧ Small r B ∧ Bas n B' out ∧ 0 < B ∧ 0 < B' ∧ B + out.length * (B' + 1) ≤ 9000 ∧ ∀ (b : Bool) (H' : Hp), Same H H' → (b = true ↔ QS (· ∈ out) (ev r)) → Q (.bl b) H') ∨
   (NoRow K H n v ∧ ∀ H', Same H H' → Q (.bl false) H'))
theorem ok_SpIn {f : Addr} {fd : FuncData} (F : Fun K "__contains__" "Space.__contains__" sSpIn f fd) (T : TxRow mg) (TS : TxS K C) (GR : Has P w K mg base CX0 2 "is_row" PIsRow (spRowG K)) (GL : Has P w K mg base CX0 1 "lead" PLead spLead) (GB : Has P w K mg base CX0 4 "reduced_by" PRB (spRB K)) :
    FnOk P w K mg base CX0 5 f fd PSpIn (spInSp K C) := by
  refine F.ok scSpIn (fun vs H Q E h => ?_) (fun cdv A outer s H vs Q E hr h => ?_)
  · obtain ⟨S, L, v, n, out, rfl, _⟩ := h
    rfl
  · obtain ⟨S, L, v, n, out, rfl, sa, h⟩ := h
    obtain ⟨dx, ys, e1, e2, e3⟩ := id sa
    have hr2 := hr.mono (j := 2) (by decide)
    have hr1 := hr.mono (j := 1) (by decide)
    refine ⟨_, (pss_one (ps_ret (pe_and (pe_callH GR hr2 rfl pass0 (pa_cons (pv 1) (pa_cons (pe_fld (pv 0) rfl) pa_nil))) (pe_one (pe_cmpR op_isN (pe_callH GL hr1 rfl pass0 (pa_cons (pe_callH GB hr rfl pass0 (pa_cons (pe_fld (pv 0) rfl) (pa_cons (pv 1) pa_nil))) pa_nil)) pe_non (nomark _)))))), ?_⟩
    refine ⟨_, rfl, _, rfl, S, C, dx, _, _, rfl, e1, TS.cl, TS.nL, rfl, v, n, rfl, ?_⟩
    rcases h with ⟨p, r, B, B', rfl, hp, hn, n1, sr, hb, b0, b0', bb, k⟩ | ⟨h, k⟩
    · refine .inl ⟨p, r, rfl, hp, hn, by omega, fun H1 s1 => ⟨true, rfl, ?_⟩⟩
      refine ⟨_, rfl, S, C, dx, _, _, rfl, s1 _ _ e1, TS.cl, TS.nB, rfl, _, rfl, L, p, ys, out, r, B, B', rfl, s1 _ _ e2, e3.same (TSame.of s1), s1 _ _ hp, fun o ho => ⟨by rw [hb.rs.len o ho, hn], hb.small o ho, by rw [(hb.rs.lead ho).1]; exact fun z => (by cases z)⟩, by omega, sr, b0, b0', bb, fun t H2 s2 ht => ?_⟩
      refine ⟨t, _, rfl, ht, fun H3 s3 => ?_⟩
      have rn := rest_none hb.rs (r := r) hn
      refine ⟨rfl, ?_⟩
      cases el : leadN (prim (woAll out r)) with
      | none => exact k true H3 ((s1.trans s2).trans s3) ⟨fun _ => rn.mp el, fun _ => rfl⟩
      | some m => exact k false H3 ((s1.trans s2).trans s3) ⟨fun z => (by cases z), fun z => by rw [show leadN (prim (woAll out r)) = none from rn.mpr z] at el; cases el⟩
    · exact .inr ⟨h, fun H1 s1 => ⟨false, rfl, k H1 s1⟩⟩
def spEqSp (K : PySem.W.Frag) (C : Addr) : Sp := fun vs H Q _ => ∃ (S L : Addr) (v : V) (n : Nat) (out : List Row), vs = [.ref S, v] ∧ SpaceAt C H S L n out ∧
  ((∃ (S' L' : Addr) (n' : Nat) (out' : List Row), v = .ref S' ∧ SpaceAt C H S' L' n' out' ∧ Q (.bl (decide (n = n' ∧ out = out'))) H) ∨ (∃ t, TyX K H v t ∧ PySem.W.kitOne K t (.ref C) = some false ∧ Q (.bl false) H))
theorem ok_SpEq {f : Addr} {fd : FuncData} (F : Fun K "__eq__" "Space.__eq__" sSpEq f fd) (T : TxRow mg) (TS : TxS K C) (gC : mg "Space" = some (.ref C)) : FnOk P w K mg base CX0 1 f fd PSpEq (spEqSp K C) := by
  refine F.ok scSpEq (fun vs H Q E h => ?_) (fun cdv A outer s H vs Q E hr h => ?_)
  · obtain ⟨S, L, v, n, out, rfl, _⟩ := h
    rfl
  · obtain ⟨S, L, v, n, out, rfl, sa, h⟩ := h
    obtain ⟨dx, ys, e1, e2, e3⟩ := id sa
    refine ⟨_, (pss_one (ps_ret (pe_and (pe_callB call_isi (by rfl) T.n_isinstance bb_isinstance (pa_cons (pv 1) (pa_cons (pe_glob (v := .ref C) rfl gC rfl) pa_nil))) (pe_and (pe_cmpR op_eq (pe_fld (pv 0) rfl) (pe_fld (pv 1) rfl) (nomark _)) (pe_one (pe_cmpR (op_eqD hr.units) (pe_fld (pv 0) rfl) (pe_fld (pv 1) rfl) (nomark _))))))), ?_⟩
    rcases h with ⟨S', L', n', out', rfl, ⟨dx', ys', e1', e2', e3'⟩, k⟩ | ⟨t, ty, kt, k⟩
    · refine ⟨_, rfl, _, _, _, _, _, rfl, .own C, TS.ty e1', TS.mc, true, rfl, ?_⟩
      refine ⟨_, rfl, S, C, dx, _, _, rfl, e1, TS.cl, TS.nL, rfl, _, rfl, S', C, dx', _, _, rfl, e1', TS.cl, TS.nL, rfl, rfl, ?_⟩
      refine ⟨decide (n = n'), ?_, ?_⟩
      · congr 1
        refine decide_eq_decide.mpr ⟨fun z => by injection z with z; omega, fun z => by rw [z]⟩
      · by_cases en : n = n'
        · rw [decide_eq_true en]
          refine iteT ?_
          refine ⟨_, rfl, S, C, dx, _, _, rfl, e1, TS.cl, TS.nB, rfl, _, rfl, S', C, dx', _, _, rfl, e1', TS.cl, TS.nB, rfl, _, _, dp_rows e2 e3, dp_rows e2' e3', shaped_rows _, shaped_rows _, ?_⟩
          rw [eqv_rows_iff, show decide (out = out') = decide (n = n' ∧ out = out') from decide_eq_decide.mpr ⟨fun z => ⟨en, z⟩, fun z => z.2⟩]
          exact k
        · rw [decide_eq_false en]
          refine iteF ?_
          rw [show decide (n = n' ∧ out = out') = false from decide_eq_false fun z => en z.1] at k
          exact k
    · exact ⟨_, rfl, _, _, _, _, _, rfl, .own C, ty, kt, false, rfl, k⟩
def spChkSp (C : Addr) : Sp := fun vs H Q _ => ∃ (S L S' L' : Addr) (n : Nat) (out out' : List Row), vs = [.ref S, .ref S'] ∧ SpaceAt C H S L n out ∧ SpaceAt C H S' L' n out' ∧ Q .non H
theorem ok_SpChk {f : Addr} {fd : FuncData} (F : Fun K "check" "Space.check" sSpChk f fd) (T : TxRow mg) (TS : TxS K C) (gC : mg "Space" = some (.ref C)) : FnOk P w K mg base CX0 1 f fd PSpChk (spChkSp C) := by
  refine F.ok scSpChk (fun vs H Q E h => ?_) (fun cdv A outer s H vs Q E hr h => ?_)
  · obtain ⟨S, L, S', L', n, out, out', rfl, _⟩ := h
    rfl
  · obtain ⟨S, L, S', L', n, out, out', rfl, ⟨dx, ys, e1, e2, e3⟩, ⟨dx', ys', e1', e2', e3'⟩, k⟩ := h
    refine ⟨_, (pss_one (ps_if (PW.pt (pw_or (pt_not (pt_val (pe_callB call_isi (by rfl) T.n_isinstance bb_isinstance (pa_cons (pv 1) (pa_cons (pe_glob (v := .ref C) rfl gC rfl) pa_nil))))) (pw_or1 (pt_cmpR op_ne (pe_fld (pv 1) rfl) (pe_fld (pv 0) rfl) (nomark _)))))
  (pss_one ps_never)
  pss_nil)), ?_⟩
    refine ⟨_, rfl, _, _, _, _, _, rfl, .own C, TS.ty e1', TS.mc, true, rfl, iteE rfl ?_⟩
    refine ⟨_, rfl, S', C, dx', _, _, rfl, e1', TS.cl, TS.nL, rfl, _, rfl, S, C, dx, _, _, rfl, e1, TS.cl, TS.nL, rfl, rfl, ?_⟩
    refine ⟨false, ?_, iteF k⟩
    rw [decide_eq_true rfl]
    rfl
def spOrSp (C : Addr) : Sp := fun vs H Q _ => ∃ (S L S' L' : Addr) (n B : Nat) (out out' : List Row), vs = [.ref S, .ref S'] ∧ SpaceAt C H S L n out ∧ SpaceAt C H S' L' n out' ∧ Bas n B out ∧ Bas n B out' ∧ 0 < n ∧ n ≤ 20 ∧ 0 < B ∧ B ≤ 8000 ∧ EB B (min (out.length + out'.length) (n + 1)) ≤ 9000 ∧
  ∀ (S3 L3 : Addr) (out3 : List Row) (H' : Hp), Same H H' → H S3 = none → H L3 = none → SpaceAt C H' S3 L3 n out3 → Reds n B (out ++ out') out3 → Q (.ref S3) H'
theorem RowsIn.append {H : Hp} : ∀ {xs ys : List V} {rs ss : List Row}, RowsIn H xs rs → RowsIn H ys ss → RowsIn H (xs ++ ys) (rs ++ ss)
  | _, _, _, _, .nil, h => h
  | _, _, _, _, .cons r t, h => .cons r (RowsIn.append t h)
theorem ok_SpOr {f : Addr} {fd : FuncData} (F : Fun K "__or__" "Space.__or__" sSpOr f fd) (TS : TxS K C) (MC : HasM P w K mg base CX0 1 C "check" PSpChk (spChkSp C)) (HC : HasC P w K mg base CX0 8 "Space" C PSpIni (spSpIni C)) : FnOk P w K mg base CX0 10 f fd PSpOr (spOrSp C) := by
  refine F.ok scSpOr (fun vs H Q E h => ?_) (fun cdv A outer s H vs Q E hr h => ?_)
  · obtain ⟨S, L, S', L', n, B, out, out', rfl, _⟩ := h
    rfl
  · obtain ⟨S, L, S', L', n, B, out, out', rfl, sa, sa', hb, hb', n0, n20, b0, b8, eb, k⟩ := h
    obtain ⟨dx, ys, e1, e2, e3⟩ := id sa
    obtain ⟨dx', ys', e1', e2', e3'⟩ := id sa'
    have hr1 := hr.mono (j := 1) (by decide)
    have hr9 := hr.mono (j := 9) (by decide)
    refine ⟨_, (pss_cons (ps_expr (pe_methH (pv 0) TS.cl MC hr1 pass0 (pa_cons (pv 1) pa_nil)))
  (pss_one (ps_ret (pe_makeH HC hr9 rfl pass0 (pa_cons (pe_fld (pv 0) rfl) (pa_cons (pe_op op_cat (pe_fld (pv 0) rfl) (pe_fld (pv 1) rfl)) pa_nil)))))), ?_⟩
    refine ⟨_, rfl, S, dx, _, rfl, e1, rfl, _, rfl, S, L, S', L', n, out, out', rfl, sa, sa', ?_⟩
    refine ⟨_, rfl, S, C, dx, _, _, rfl, e1, TS.cl, TS.nL, rfl, ?_⟩
    have ly : ys.length = out.length := Paired.length e3
    have ly' : ys'.length = out'.length := Paired.length e3'
    have w1 := hb.rs.le_w
    have w2 := hb'.rs.le_w
    refine ⟨_, rfl, S, C, dx, _, _, rfl, e1, TS.cl, TS.nB, rfl, _, rfl, S', C, dx', _, _, rfl, e1', TS.cl, TS.nB, rfl, L, L', ys, ys', rfl, rfl, e2, e2', Nat.le_of_lt (small1000 (by omega)), fun G hG => ?_⟩
    have s1 := same_new (o := .lst (ys ++ ys')) hG
    obtain ⟨H1, eH1⟩ : ∃ H1, H1 = upd H G (.lst (ys ++ ys')) := ⟨_, rfl⟩
    have eG : H1 G = some (.lst (ys ++ ys')) := by rw [eH1, upd_same]
    rw [← eH1] at s1 ⊢
    intro N dN hN hdN nd
    have s2 : Same H1 (upd (upd H1 dN (.own N)) N (.ins C dN [])) := fun b o e => by
      rw [upd_ne (ne_of_none e hN), upd_ne (ne_of_none e hdN)]
      exact e
    refine ⟨N, G, dN, n, ys ++ ys', out ++ out', B, rfl, upd_same, n0, s2 _ _ eG, ((e3.same (TSame.of s1)).append (e3'.same (TSame.of s1))).same (TSame.of s2), fun r hr' => ?_, by omega, by rw [List.length_append]; omega, b0, b8, by rw [List.length_append]; exact eb, fun L3 out3 H3 oth fr sa3 hRd => ⟨rfl, ?_⟩⟩
    · rcases List.mem_append.mp hr' with q | q
      · exact ⟨hb.rs.len r q, hb.small r q⟩
      · exact ⟨hb'.rs.len r q, hb'.small r q⟩
    · exact k N L3 out3 H3 (fun b o e => oth b o (s2 _ _ (s1 _ _ e)) (ne_of_none (s1 _ _ e) hN)) (s1.free hN) (s1.free (s2.free fr)) sa3 hRd
theorem bools_of : ∀ (zs : List V) {R : Nat → Bool → Prop}, (∀ i y, zs[i]? = some y → ∃ b, y = .bl b ∧ R i b) → ∃ bs : List Bool, zs = bs.map V.bl ∧ ∀ i b, bs[i]? = some b → R i b
  | [], _, _ => ⟨[], rfl, fun i b z => by simp at z⟩
  | v :: zs, R, h => by
    obtain ⟨b0, rfl, r0⟩ := h 0 v rfl
    obtain ⟨bs, rfl, hb⟩ := bools_of zs (R := fun i b => R (i + 1) b) fun i y hy => h (i + 1) y hy
    refine ⟨b0 :: bs, rfl, fun i b hi => ?_⟩
    cases i with
    | zero => cases hi; exact r0
    | succ j => exact hb j b hi
def spWithSp (C : Addr) : Sp := fun vs H Q _ => ∃ (S L S' L' : Addr) (n B B' : Nat) (out out' : List Row), vs = [.ref S, .ref S'] ∧ SpaceAt C H S L n out ∧ SpaceAt C H S' L' n out' ∧ Bas n B out ∧ Bas n B' out' ∧ n ≤ 20 ∧ 0 < B ∧ 0 < B' ∧ B + out'.length * (B' + 1) ≤ 9000 ∧
  ∀ (b : Bool) (H' : Hp), Same H H' → (b = true ↔ ∀ o ∈ out, QS (· ∈ out') (ev o)) → Q (.bl b) H'
theorem ok_SpWith {f : Addr} {fd : FuncData} (F : Fun K "is_within" "Space.is_within" sSpWith f fd) (T : TxRow mg) (TS : TxS K C) (MC : HasM P w K mg base CX0 1 C "check" PSpChk (spChkSp C)) (MI : HasM P w K mg base CX0 5 C "__contains__" PSpIn (spInSp K C)) : FnOk P w K mg base CX0 6 f fd PSpWith (spWithSp C) := by
  refine F.ok scSpWith (fun vs H Q E h => ?_) (fun cdv A outer s H vs Q E hr h => ?_)
  · obtain ⟨S, L, S', L', n, B, B', out, out', rfl, _⟩ := h
    rfl
  · obtain ⟨S, L, S', L', n, B, B', out, out', rfl, sa, sa', hb, hb', n20, b0, b0', bb, k⟩ := h
    obtain ⟨dx, ys, e1, e2, e3⟩ := id sa
    obtain ⟨dx', ys', e1', e2', e3'⟩ := id sa'
    have hr1 := hr.mono (j := 1) (by decide)
    have hr5 := hr.mono (j := 5) (by decide)
    refine ⟨_, (pss_cons (ps_expr (pe_methH (pv 0) TS.cl MC hr1 pass0 (pa_cons (pv 1) pa_nil)))
  (pss_one (ps_ret (pe_callB (cr_all rfl) (by rfl) T.n_all bb_all (pa_cons (pe_lc (own := [("row", 2)]) (g := gName 2) (tt := tYes) rfl scSpWith.nd (pi_list (pe_fld (pv 0) rfl)) (blkOk_by (own := [("row", 2)]) (N := NSpWith) (sc := (defScope sSpWith)) (by decide +kernel)) (fun _ _ _ _ _ => (pg_name (i := 2) scSpWith.nd rfl (Or.inl rfl))) (fun _ _ _ _ _ => pts_nil) (fun _ _ _ _ _ => (pe_cmpR (r := rInO C (spInSp K C)) (op_inO MI hr5) (pv 2) (pv 1) (by rfl)))) pa_nil))))), ?_⟩
    refine ⟨_, rfl, S, dx, _, rfl, e1, rfl, _, rfl, S, L, S', L', n, out, out', rfl, sa, sa', ?_⟩
    refine ⟨_, rfl, S, C, dx, _, _, rfl, e1, TS.cl, TS.nB, rfl, L, rfl, ⟨_, SqL.of e2⟩, fun D hD => ?_⟩
    have ly : ys.length = out.length := Paired.length e3
    have w1 := hb.rs.le_w
    refine lc_rel (walk_list (K := K) (a := L) (xs := ys)) (fun i y _ => ∃ b, y = .bl b ∧ (b = true ↔ QS (· ∈ out') (ev (out.getD i [])))) (fun i y Ha Hb ts z => z) hD (by omega) (fun H' s' => SqL.of (s' _ _ e2)) ?_ ?_
    · rintro i x H3 H4 kk hi s3 ⟨rfl, hxi⟩ kc
      obtain ⟨q, rfl, hq, hil⟩ := rows_at e3 hxi
      have hm := getD_mem hil
      exact ⟨rfl, _, rfl, _, rfl, S', dx', _, rfl, s3 _ _ e1', S', L', .ref q, n, out', rfl, sa'.same s3, .inl ⟨q, _, B, B', rfl, s3 _ _ hq, hb.rs.len _ hm, by omega, hb.small _ hm, hb', b0, b0', bb, fun b H5 s5 hb5 => ⟨b, rfl, kc _ H5 s5 ⟨b, rfl, hb5⟩⟩⟩⟩
    · intro zs H3 s3 eD lz pz
      obtain ⟨bs, rfl, hbs⟩ := bools_of zs pz
      refine ⟨D, bs, rfl, SqL.of eD, ?_⟩
      refine k _ H3 s3 ⟨fun ha o ho => ?_, fun ha => ?_⟩
      · obtain ⟨i, hi⟩ := List.mem_iff_getElem?.mp ho
        have hil := (List.getElem?_eq_some_iff.mp hi).1
        rw [List.length_map] at lz
        have hb1 : bs[i]? = some bs[i] := List.getElem?_eq_getElem (by omega)
        have q := (hbs i _ hb1).mp (List.all_eq_true.mp ha _ (List.mem_of_getElem? hb1))
        rw [List.getD_eq_getElem?_getD, hi] at q
        exact q
      · rw [List.all_eq_true]
        intro b hb1
        obtain ⟨i, hi⟩ := List.mem_iff_getElem?.mp hb1
        have hil := (List.getElem?_eq_some_iff.mp hi).1
        rw [List.length_map] at lz
        exact (hbs i b hi).mpr (ha _ (getD_mem (by omega)))
end

/-! ### the law's rows -/
abbrev sLRows : Stmt := topS 21
abbrev NLRows : List Str := ["_law_pool_here", "_law_wide", "_law_many", "_law_rows_here", "_law_turn", "_law_at"]
abbrev PLRows : List Str := ["_law_pool_here", "_law_wide", "_law_many"]
theorem scLRows : FnScope NLRows PLRows (defScope sLRows) := ⟨rfl, rfl, rfl, by decide +kernel, rfl, by decide +kernel, by decide +kernel⟩
theorem atI_in' {xs : Row} {i : Int} (h0 : 0 ≤ i) (h1 : i < xs.length) : ∃ v : Int, atI (xs.map V.int) i = some (V.int v) ∧ v ∈ xs := by
  have h : i.toNat < xs.length := by omega
  refine ⟨xs[i.toNat], ?_, List.getElem_mem h⟩
  have e : i = ((i.toNat : Nat) : Int) := by omega
  have q := atI_nat (xs := xs.map V.int) (j := i.toNat) (v := V.int xs[i.toNat]) (by rw [List.getElem?_map]; simp [h])
  rw [← e] at q
  exact q
theorem small3 : Small [0, 1, -1, 2, 5] 3 := by
  intro x hx
  simp only [List.mem_cons, List.not_mem_nil, or_false] at hx
  rcases hx with rfl | rfl | rfl | rfl | rfl <;> decide
theorem PoolB.ne {H : Hp} {p X : Addr} (h : PoolB H p) (hX : H X = none) : X ≠ p := fun z => by
  obtain ⟨_, _, e, _⟩ := h
  rw [z, e] at hX
  cases hX
theorem PoolB.to {H H' : Hp} {p : Addr} (h : PoolB H p) (e : H' p = H p) : PoolB H' p := let ⟨a, b, q, z⟩ := h; ⟨a, b, e.trans q, z⟩
theorem PoolB.same {H H' : Hp} {p : Addr} (h : PoolB H p) (s : Same H H') : PoolB H' p := let ⟨a, b, q, z⟩ := h; ⟨a, b, s _ _ q, z⟩
section
variable {P : Program} {w : World} {K : PySem.W.Frag} {mg : Str → Option Value} {base : Heap}
def spLRows : Sp := fun vs H Q _ => ∃ (p : Addr) (wd m : Nat), vs = [.ref p, .int (wd : Nat), .int (m : Nat)] ∧ PoolB H p ∧ wd ≤ 5 ∧ m ≤ 10 ∧
  ∀ (X : Addr) (xs : List V) (rows : List Row) (H' : Hp), (∀ b o, H b = some o → b ≠ p → H' b = some o) → PoolB H' p → H X = none → H' X = some (.lst xs) → RowsIn H' xs rows → rows.length ≤ m → (∀ r ∈ rows, r.length = wd ∧ Small r 3) → Q (.ref X) H'
theorem ok_LRows {f : Addr} {fd : FuncData} (F : Fun K "_law_rows" "_law_rows" sLRows f fd) (T : TxLaw mg) (GT : Has P w K mg base CX0 1 "_law_take" PTake spTake) : FnOk P w K mg base CX0 2 f fd PLRows spLRows := by
  refine F.ok scLRows (fun vs H Q E h => ?_) (fun cdv A outer s H vs Q E hr h => ?_)
  · obtain ⟨p, wd, m, rfl, _⟩ := h
    rfl
  · obtain ⟨p, wd, m, rfl, P0, wd5, m10, k⟩ := h
    refine ⟨_, (pss_cons (ps_set (i := 3) scLRows.nd rfl (Or.inl rfl) (pe_lst pa_nil))
  (pss_cons (ps_for PassesOwn.never rfl (pi_range1 (by rfl) T.n_range (pa_cons (pe_callH GT hr rfl pass0 (pa_cons (pv 0) (pa_cons (pe_op op_add (pv 2) pe_int) pa_nil))) pa_nil)) (pg_name (i := 4) scLRows.nd rfl (Or.inl rfl))
  (pss_one (ps_expr (pe_bm PySem.F.plainAttrs_list PySem.F.slot_list_append PySem.F.type_list_append mt_append (pv 3) (pa_cons (pe_callTy call_tuple_of (by rfl) T.n_tuple bb_tuple (pa_cons (pe_lc (own := [("_law_at", 5)]) (g := gName 5) (tt := tYes) rfl scLRows.nd (pi_range1 (by rfl) T.n_range (pa_cons (pv 1) pa_nil)) (blkOk_by (own := [("_law_at", 5)]) (N := NLRows) (sc := (defScope sLRows)) (by decide +kernel)) (fun _ _ _ _ _ => (pg_name (i := 5) scLRows.nd rfl (Or.inl rfl))) (fun _ _ _ _ _ => pts_nil) (fun _ _ _ _ _ => (pe_ix (r := rIxL K) ix_list (pe_lst (pa_cons pe_int (pa_cons pe_int (pa_cons (pe_un un_neg pe_int) (pa_cons pe_int (pa_cons pe_int pa_nil)))))) (pe_callH GT hr rfl pass0 (pa_cons (pv 0) (pa_cons pe_int pa_nil))) (fun _ _ => rfl)))) pa_nil)) pa_nil)))))
  (pss_one (ps_ret (pv 3))))), ?_⟩
    refine ⟨(by show 0 ≤ sizeLine; decide), fun X hX => ?_⟩
    have Xp := P0.ne hX
    have s1 := same_new (o := .lst []) hX
    refine ⟨_, rfl, _, rfl, _, _, rfl, rfl, p, _, rfl, P0.same s1, by omega, by omega, fun r1 H1 r10 r11 P1 k1 => ⟨r1, rfl, by omega, by omega, ?_⟩⟩
    refine for_range (lo := 0) (n := r1.toNat) (fun j σ H' => (∀ b o, H b = some o → b ≠ p → H' b = some o) ∧ PoolB H' p ∧ ∃ (xs : List V) (rows : List Row) (x4 x5 : Option V), σ = [some (.ref p), some (.int (wd : Nat)), some (.int (m : Nat)), some (.ref X), x4, x5] ∧ H' X = some (.lst xs) ∧ RowsIn H' xs rows ∧ rows.length = j ∧ ∀ r ∈ rows, r.length = wd ∧ Small r 3) ?_ ?_ ?_
    · exact ⟨fun b o e hb => k1 b o (s1 b o e) hb, P1, [], [], _, _, rfl, k1 _ _ upd_same Xp, .nil, rfl, (fun _ z => nomatch z)⟩
    · rintro j σ H6 hj ⟨s6, P6, xs, rows, y5, y6, rfl, eX6, hx6, lr, hrow⟩
      have lx : xs.length = rows.length := Paired.length hx6
      refine ⟨_, rfl, .inl ⟨rfl, _, SqL.of eX6⟩, _, rfl, _, rfl, by omega, by omega, fun D hD => ?_⟩
      have Dp := P6.ne hD
      have DX : D ≠ X := fun z => by rw [z, eX6] at hD; cases hD
      have ew : ((wd : Nat) : Int).toNat = wd := rfl
      rw [ew]
      refine lc_range (lo := 0) (n := wd) (fun i H' => (∀ b o, H b = some o → b ≠ p → H' b = some o) ∧ PoolB H' p ∧ H' X = some (.lst xs) ∧ RowsIn H' xs rows ∧ ∃ r : Row, H' D = some (.lst (r.map V.int)) ∧ r.length = i ∧ Small r 3) ?_ ?_ ?_
      · exact ⟨fun b o e hb => by rw [upd_ne (ne_of_none (s6 _ _ e hb) hD)]; exact s6 b o e hb, P6.to (upd_ne Dp.symm), by rw [upd_ne DX.symm]; exact eX6, hx6.same (TSame.of (same_new hD)), [], upd_same, rfl, (fun _ z => nomatch z)⟩
      · rintro i H7 hm ⟨s7, P7, eX7, hx7, r, eD7, lrm, sr⟩
        refine ⟨rfl, _, rfl, (by show 5 ≤ sizeLine; decide), fun Z hZ => ?_⟩
        have s8 := same_new (o := .lst [.int 0, .int 1, .int (-1), .int 2, .int 5]) hZ
        have Zp := P7.ne hZ
        refine ⟨_, rfl, p, 5, rfl, P7.same s8, by decide, by decide, fun ix H9 i0 i1 P9 k9 => ?_⟩
        obtain ⟨v, hv, mv⟩ := atI_in' (xs := ([0, 1, -1, 2, 5] : Row)) i0 (by exact i1)
        refine ⟨Z, _, _, _, rfl, rfl, SqL.of (k9 _ _ upd_same Zp), hv, ?_⟩
        have eD9 : H9 D = some (.lst (r.map V.int)) := k9 _ _ (s8 _ _ eD7) Dp
        have k79 : ∀ b o, H7 b = some o → b ≠ p → H9 b = some o := fun b o e hb => k9 b o (s8 b o e) hb
        refine ⟨_, eD9, small1000 (by rw [List.length_map]; omega), fun b o e hb => ?_, P9.to (upd_ne Dp.symm), by rw [upd_ne DX.symm]; exact k79 _ _ eX7 Xp, ?_, r ++ [v], by rw [upd_same, List.map_append]; rfl, by rw [List.length_append, lrm]; rfl, fun x hx => ?_⟩
        · have hDb : b ≠ D := fun z => by
            have q := s6 b o e hb
            rw [z, hD] at q
            cases q
          rw [upd_ne hDb]
          exact k79 b o (s7 b o e hb) hb
        · refine hx7.same fun b ys e => ?_
          have bp : b ≠ p := by
            obtain ⟨_, _, e2, _⟩ := P7
            exact ne_of e e2 fun z => by cases z
          rw [upd_ne (ne_of (k79 b _ e bp) eD9 fun z => by cases z)]
          exact k79 b _ e bp
        · rcases List.mem_append.mp hx with q | q
          · exact sr x q
          · rw [List.mem_singleton.mp q]
            exact small3 v mv
      · rintro H7 ⟨s7, P7, eX7, hx7, r, eD7, lrm, sr⟩
        refine ⟨D, _, rfl, .inl ⟨SqL.of eD7, fun l hl => ?_⟩⟩
        have s8 := same_new (o := .tup (r.map V.int)) hl
        have eX8 := s8 _ _ eX7
        refine ⟨X, xs, _, rfl, rfl, eX8, small1000 (by omega), fun b o e hb => by rw [upd_ne (ne_of_none e hX)]; exact s8 b o (s7 b o e hb), (P7.same s8).to (upd_ne Xp.symm), xs ++ [.ref l], rows ++ [r], _, _, rfl, upd_same, ?_, by rw [List.length_append, lr]; rfl, fun q hq => ?_⟩
        · have ts : TSame H7 (upd (upd H7 l (.tup (r.map V.int))) X (.lst (xs ++ [.ref l]))) := fun b ys e => by
            rw [upd_ne (ne_of (s8 _ _ e) eX8 fun z => by cases z)]
            exact s8 _ _ e
          refine RowsIn.snoc (hx7.same ts) ⟨l, rfl, ?_⟩
          show upd (upd H7 l _) X _ l = _
          rw [upd_ne (fun z => by rw [z, eX7] at hl; cases hl), upd_same]
        · rcases List.mem_append.mp hq with z | z
          · exact hrow q z
          · rw [List.mem_singleton.mp z]
            exact ⟨lrm, sr⟩
    · rintro σ H6 ⟨s6, P6, xs, rows, y5, y6, rfl, eX6, hx6, lr, hrow⟩
      exact ⟨_, rfl, k X xs rows H6 s6 P6 hX eX6 hx6 (by omega) hrow⟩
end

/-! ### the law -/
abbrev sLaw : Stmt := topS 22
abbrev NLaw : List Str := ["_law_script", "_law_k", "_law_pool_here", "_law_wide", "_law_rows_here", "_law_others", "_law_given", "_law_more", "_law_one", "_law_other", "_law_rank_here", "_law_far", "_law_value", "_law_row", "_law_both", "_law_odd"]
abbrev PLaw : List Str := ["_law_script"]
theorem scLaw : FnScope NLaw PLaw (defScope sLaw) := ⟨rfl, rfl, rfl, by decide +kernel, rfl, by decide +kernel, by decide +kernel⟩
theorem qs_app_l {a b : List Row} {v : Vec} (h : QS (· ∈ a) v) : QS (· ∈ a ++ b) v := h.trans fun r hr => QS.mem (List.mem_append_left _ hr)
theorem qs_app_r {a b : List Row} {v : Vec} (h : QS (· ∈ b) v) : QS (· ∈ a ++ b) v := h.trans fun r hr => QS.mem (List.mem_append_right _ hr)
theorem qs_app {a b c d : List Row} (h1 : ∀ v, QS (· ∈ a) v ↔ QS (· ∈ c) v) (h2 : ∀ v, QS (· ∈ b) v ↔ QS (· ∈ d) v) (v : Vec) : QS (· ∈ a ++ b) v ↔ QS (· ∈ c ++ d) v := by
  refine ⟨fun q => q.trans fun r hr => ?_, fun q => q.trans fun r hr => ?_⟩
  · rcases List.mem_append.mp hr with z | z
    · exact qs_app_l ((h1 _).mp (QS.mem z))
    · exact qs_app_r ((h2 _).mp (QS.mem z))
  · rcases List.mem_append.mp hr with z | z
    · exact qs_app_l ((h1 _).mpr (QS.mem z))
    · exact qs_app_r ((h2 _).mpr (QS.mem z))
theorem qs_comm {a b : List Row} (v : Vec) : QS (· ∈ a ++ b) v ↔ QS (· ∈ b ++ a) v := QS.iff_of (fun r hr => QS.mem (List.mem_append.mpr (List.mem_append.mp hr).symm)) (fun r hr => QS.mem (List.mem_append.mpr (List.mem_append.mp hr).symm)) v
/-- ranks say whether one span holds another -/
theorem rank_within {w B B' : Nat} {rows others out out2 : List Row} {t u : Nat} (h : Reds w B rows out) (h2 : Reds w B' others out2) (kb : Rank (rows ++ others) t) (k2 : Rank others u) : (∀ o ∈ out, QS (· ∈ out2) (ev o)) ↔ t = u := by
  obtain ⟨eb, b1, b2, b3⟩ := kb
  obtain ⟨e2, c1, c2, c3⟩ := k2
  have sub : ∀ v, QS (· ∈ others) v → QS (· ∈ rows ++ others) v := fun v q => qs_app_r q
  refine ⟨fun hw => ?_, fun e => ?_⟩
  · rw [← b2, ← c2]
    refine b1.eq c1 fun v => (b3 v).trans (Iff.trans ⟨fun q => q.trans fun r hr => ?_, sub v⟩ (c3 v).symm)
    rcases List.mem_append.mp hr with z | z
    · exact (h2.span _).mp (((h.span _).mpr (QS.mem z)).trans hw)
    · exact QS.mem z
  · intro o ho
    obtain ⟨out', ha⟩ := adds_ex out2 o
    have hl := h.rs.len o ho
    obtain ⟨a1, a2, a3⟩ := adds_RS h2.rs hl ha
    rcases a3 with q | q
    · exact q.2
    · exfalso
      have le : out'.length ≤ eb.length := a1.ech.le b1 fun r hr => by
        refine (b3 _).mpr (((a2 _).mp (QS.mem hr)).trans fun x hx => ?_)
        rcases hx with hx | rfl
        · exact sub _ ((h2.span _).mp (QS.mem hx))
        · exact qs_app_l ((h.span _).mp (QS.mem ho))
      have e2l : out2.length = e2.length := h2.rs.ech.eq c1 fun v => (h2.span v).trans (c3 v).symm
      omega
theorem rank_in {w B : Nat} {rows out : List Row} {r : Row} {t u : Nat} (h : Reds w B rows out) (hr : r.length = w) (k1 : Rank (rows ++ [r]) t) (k0 : Rank rows u) : QS (· ∈ out) (ev r) ↔ t = u := by
  obtain ⟨ea, a1, a2, a3⟩ := k1
  have eu := rank_reds h k0
  obtain ⟨out', ha⟩ := adds_ex out r
  obtain ⟨b1, b2, b3⟩ := adds_RS h.rs hr ha
  have et : t = out'.length := by
    rw [← a2]
    refine a1.eq b1.ech fun v => (a3 v).trans (Iff.trans ?_ (b2 v).symm)
    refine QS.iff_of (fun x hx => ?_) (fun x hx => ?_) v
    · rcases List.mem_append.mp hx with z | z
      · exact ((h.span _).mpr (QS.mem z)).trans fun y hy => QS.mem (.inl hy)
      · rw [List.mem_singleton.mp z]
        exact QS.mem (.inr rfl)
    · rcases hx with z | rfl
      · exact qs_app_l ((h.span _).mp (QS.mem z))
      · exact QS.mem (List.mem_append_right _ (List.mem_singleton.mpr rfl))
  rcases b3 with q | q
  · exact ⟨fun _ => by omega, fun _ => q.2⟩
  · exact ⟨fun z => absurd z q.2, fun z => by omega⟩
theorem Reds.bas {w B f : Nat} {rows out : List Row} (h : Reds w B rows out) (b0 : 0 < B) (hf : out.length ≤ f) : Bas w (EB B f) out := ⟨h.rs, h.gcd, fun o ho => small_mono (h.small o ho) (EB_mono b0 hf)⟩
theorem reds_self {w B B' : Nat} {rows out out' : List Row} (h : Reds w B rows out) (h' : Reds w B' out out') : out' = out := h'.rs.uniq h.rs h'.gcd h.gcd h'.span
/-- rows times a number -/
theorem qs_far {rows far : List Row} {c : Int} (c0 : c ≠ 0) (h : far = rows.map fun r => r.map (c * ·)) (v : Vec) : QS (· ∈ far) v ↔ QS (· ∈ rows) v := by
  have e : ∀ (r : Row) i, ev (r.map (c * ·)) i = c * ev r i := fun r i => by
    unfold ev
    rw [List.getD_eq_getElem?_getD, List.getD_eq_getElem?_getD, List.getElem?_map]
    cases r[i]? with
    | none => simp
    | some x => rfl
  refine QS.iff_of (fun r hr => ?_) (fun r hr => ?_) v
  · rw [h] at hr
    obtain ⟨x, hx, rfl⟩ := List.mem_map.mp hr
    exact ((QS.mem hx).smul c).cg fun i => (e x i).symm
  · refine QS.div c0 ((QS.mem (r := r.map (c * ·)) ?_).cg fun i => e r i)
    rw [h]
    exact List.mem_map.mpr ⟨r, hr, rfl⟩
theorem swapV {F : V → Hp → Prop} {v v' : V} {H : Hp} (e : v = v') (h : F v' H) : F v H := e ▸ h
theorem beq_ne {b : Bool} {t u : Nat} (h : b = true ↔ t = u) : (!decide (V.bl b = V.bl (decide (V.int (t : Nat) = V.int (u : Nat))))) = false := by
  have e : b = decide (V.int (t : Nat) = V.int (u : Nat)) := by
    cases b with
    | true => rw [decide_eq_true (by rw [h.mp rfl])]
    | false => rw [decide_eq_false fun z => by injection z with z; exact absurd (h.mpr (by omega)) (by decide)]
  rw [← e, decide_eq_true rfl]
  rfl
theorem Rank.of_span {a b : List Row} {t : Nat} (h : Rank a t) (e : ∀ v, QS (· ∈ a) v ↔ QS (· ∈ b) v) : Rank b t := let ⟨x, h1, h2, h3⟩ := h; ⟨x, h1, h2, fun v => (h3 v).trans (e v)⟩
theorem thenV {t : TE} {σ : L2.St} {H : Hp} {Q : VK} (P : V → Hp → Prop) (A : ∀ R : VK, (∀ v H', P v H' → R v H') → t σ H R) (B : ∀ v H', P v H' → Q v H') : t σ H Q := A Q B
theorem rank_eq {w B B' : Nat} {rows others out out2 : List Row} {t t1 u : Nat} (h : Reds w B rows out) (h2 : Reds w B' others out2) (kb : Rank (rows ++ others) t) (k1 : Rank rows t1) (k2 : Rank others u) : out = out2 ↔ t = t1 ∧ t = u := by
  have w1 := rank_within h h2 kb k2
  have w2 := rank_within h2 h (kb.of_span qs_comm) k1
  refine ⟨fun e => ?_, fun ⟨e1, e2⟩ => ?_⟩
  · subst e
    exact ⟨w2.mp fun o ho => QS.mem ho, w1.mp fun o ho => QS.mem ho⟩
  · exact h.rs.uniq h2.rs h.gcd h2.gcd (QS.iff_of (w1.mpr e2) (w2.mpr e1))
def Odd (K : PySem.W.Frag) (C : Addr) (n : Nat) (H : Hp) (v : V) : Prop := NoRow K H n v ∧ ∃ t, TyX K H v t ∧ PySem.W.kitOne K t (.ref C) = some false ∧ PySem.W.notFirst K C t = true
theorem reds_zero : Reds 1 1 [[0]] [] := ⟨⟨(fun _ z => nomatch z), (fun _ z => nomatch z), .nil⟩, QS.iff_of (fun _ z => nomatch z) (fun r hr => by
  rw [List.mem_singleton.mp hr]
  exact QS.zero.cg fun i => by
    match i with
    | 0 => rfl
    | i + 1 => rfl), (fun _ z => nomatch z), (by decide), (fun _ z => nomatch z)⟩
def spLaw (K : PySem.W.Frag) : Sp := fun vs H Q _ => ∃ (a : Addr) (ns : List Int), vs = [.ref a] ∧ SqL K H a (ns.map V.int) ∧ ns.length ≤ 63 ∧ ∀ H', Q (.bl true) H'
theorem eb3 : EB 3 3 = 39 := by decide
theorem tr3 {t : Nat} (h : t ≤ 6) : TB 3 (t - 1) ≤ 9000 := Nat.le_trans (TB_mono (t := 6) (by omega)) (by decide)
structure TxNo (K : PySem.W.Frag) (C : Addr) : Prop where
  non : PySem.W.kitOne K (.type "NoneType") (.ref C) = some false
  int : PySem.W.kitOne K (.type "int") (.ref C) = some false
  lst : PySem.W.kitOne K (.type "list") (.ref C) = some false
  tup : PySem.W.kitOne K (.type "tuple") (.ref C) = some false
  fnon : PySem.W.notFirst K C (.type "NoneType") = true
  fint : PySem.W.notFirst K C (.type "int") = true
  flst : PySem.W.notFirst K C (.type "list") = true
  ftup : PySem.W.notFirst K C (.type "tuple") = true
theorem ts_but {H H' : Hp} {p : Addr} (h : PoolB H p) (k : ∀ b o, H b = some o → b ≠ p → H' b = some o) : TSame H H' := fun b ys e => k b _ e (by
  obtain ⟨_, _, e2, _⟩ := h
  exact ne_of e e2 fun z => by cases z)
theorem mk_same0 {C : Addr} {H1 : Hp} {N dN : Addr} (hN : H1 N = none) (hdN : H1 dN = none) : Same H1 (upd (upd H1 dN (.own N)) N (.ins C dN [])) := fun b o e => by
  rw [upd_ne (ne_of_none e hN), upd_ne (ne_of_none e hdN)]
  exact e
theorem mk_at {C : Addr} {H1 : Hp} {N dN b : Addr} {o : HO} (hN : H1 N = none) (hdN : H1 dN = none) (e : H1 b = some o) : upd (upd H1 dN (.own N)) N (.ins C dN []) b = some o := mk_same0 hN hdN b o e
theorem mk_same {C : Addr} {H1 H3 : Hp} {N dN : Addr} (hN : H1 N = none) (hdN : H1 dN = none) (oth : ∀ b o, upd (upd H1 dN (.own N)) N (.ins C dN []) b = some o → b ≠ N → H3 b = some o) : Same H1 H3 := fun b o e => oth b o (mk_same0 hN hdN b o e) (ne_of_none e hN)
theorem shaped2 (a b : List Row) : SeqAt.shaped (.list [dRows a, dRows b]) = true := by
  have q1 := depth_rows a
  have q2 := depth_rows b
  unfold SeqAt.shaped dRows
  rw [Bool.and_eq_true]
  refine ⟨by simp only [PyData.canLay0, PyData.canLayAll0, lay_rows, Bool.and_true], decide_eq_true ?_⟩
  simp only [PyData.depth, PyData.depthAll]
  omega
theorem flat_rep {α : Type} (v : α) : ∀ n : Nat, (List.replicate n [v]).flatten = List.replicate n v
  | 0 => rfl
  | n + 1 => by rw [List.replicate_succ, List.flatten_cons, flat_rep v n]; rfl
theorem rep_tup {K : PySem.W.Frag} {H : Hp} {T0 : Addr} {v : V} {n : Nat} {Q : VK} (e : H T0 = some (.tup [v])) (n0 : 1 ≤ n) (n1 : n ≤ 1000) (k : ∀ W H', Same H H' → H' W = some (.tup (List.replicate n v)) → Q (.ref W) H') : rRepN K (.ref T0) (.int (n : Nat)) H Q := by
  refine ⟨T0, n, [v], rfl, rfl, SqT.of e, (by simp), n0, n1, (by show 1 ≤ 1000; decide), ?_⟩
  by_cases h : n = 1
  · subst h
    exact .inl ⟨rfl, k T0 H (Same.refl _) e⟩
  · refine .inr ⟨by omega, fun p hp => k p _ (same_new hp) ?_⟩
    rw [upd_same, flat_rep]
theorem SpaceAt.but {C : Addr} {H H' : Hp} {S L p : Addr} {n : Nat} {out : List Row} (h : SpaceAt C H S L n out) (hp : PoolB H p) (k : ∀ b o, H b = some o → b ≠ p → H' b = some o) (hL : L ≠ p) : SpaceAt C H' S L n out := by
  have ts := ts_but hp k
  obtain ⟨dx, ys, e1, e2, e3⟩ := h
  obtain ⟨_, _, e, _⟩ := hp
  exact ⟨dx, ys, k _ _ e1 (ne_of e1 e fun z => by cases z), k _ _ e2 hL, e3.same ts⟩
section
variable {P : Program} {w : World} {K : PySem.W.Frag} {mg : Str → Option Value} {base : Heap} {C pW pR : Addr}
theorem ok_Law {f : Addr} {fd : FuncData} (F : Fun K "law" "law" sLaw f fd) (T : TxLaw mg) (TS : TxS K C) (TN : TxNo K C) (GP : Has P w K mg base CX0 1 "_law_pool" PPool (spPoolB K)) (GT : Has P w K mg base CX0 1 "_law_take" PTake spTake) (GR : Has P w K mg base CX0 2 "_law_rank" PRank spRank)
    (GL : Has P w K mg base CX0 2 "_law_rows" PLRows spLRows) (GD : Has P w K mg base CX0 6 "reduced" PRed spRed) (HC : HasC P w K mg base CX0 8 "Space" C PSpIni (spSpIni C)) (MW : ∃ (g : Addr) (fd : FuncData), PropOf K C "width" pW g ∧ FnOk P w K mg base CX0 1 g fd PSpWid (spWidS C) ∧ Binds K fd PSpWid [])
    (MR : ∃ (g : Addr) (fd : FuncData), PropOf K C "rows" pR g ∧ FnOk P w K mg base CX0 1 g fd PSpRows (spRowsS C) ∧ Binds K fd PSpRows []) (ML : HasM P w K mg base CX0 1 C "__len__" PSpLen (spLenSp C)) (MB : HasM P w K mg base CX0 1 C "__bool__" PSpBool (spBoolSp C))
    (MI : HasM P w K mg base CX0 5 C "__contains__" PSpIn (spInSp K C)) (ME : HasM P w K mg base CX0 1 C "__eq__" PSpEq (spEqSp K C)) (MO : HasM P w K mg base CX0 10 C "__or__" PSpOr (spOrSp C)) (MH : HasM P w K mg base CX0 6 C "is_within" PSpWith (spWithSp C)) :
    FnOk P w K mg base CX0 11 f fd PLaw (spLaw K) := by
  refine F.ok scLaw (fun vs H Q E h => ?_) (fun cdv A outer s H vs Q E hr h => ?_)
  · obtain ⟨a, ns, rfl, _⟩ := h
    rfl
  · obtain ⟨a, ns, rfl, hS, hlen, kq⟩ := h
    have hr9 := hr.mono (j := 9) (by decide)
    have hr6 := hr.mono (j := 6) (by decide)
    have hr5 := hr.mono (j := 5) (by decide)
    have hr3 := hr.mono (j := 3) (by decide)
    have hr2 := hr.mono (j := 2) (by decide)
    have hr1 := hr.mono (j := 1) (by decide)
    refine ⟨_, (pss_cons (ps_for PassesOwn.never rfl (pi_range1 (by rfl) T.n_range (pa_cons (pe_callB (call_max2 rfl) (by rfl) T.n_max bb_max (pa_cons pe_int (pa_cons (pe_callB (call_min2 rfl) (by rfl) T.n_min bb_min (pa_cons (pe_callB call_len_seq (by rfl) T.n_len bb_len (pa_cons (pv 0) pa_nil)) (pa_cons pe_int pa_nil))) pa_nil))) pa_nil)) (pg_name (i := 1) scLaw.nd rfl (Or.inl rfl))
  (pss_cons (ps_set (i := 2) scLaw.nd rfl (Or.inl rfl) (pe_callH GP hr1 rfl pass0 (pa_cons (pv 0) (pa_cons (pv 1) pa_nil))))
  (pss_cons (ps_set (i := 3) scLaw.nd rfl (Or.inl rfl) (pe_op op_add pe_int (pe_callH GT hr1 rfl pass0 (pa_cons (pv 2) (pa_cons pe_int pa_nil)))))
  (pss_cons (ps_par (i := 4) (j := 5) (by rfl) scLaw.nd rfl rfl (by decide) rfl rfl (pa_cons (pe_callH GL hr2 rfl pass0 (pa_cons (pv 2) (pa_cons (pv 3) (pa_cons pe_int pa_nil)))) (pa_cons (pe_callH GL hr2 rfl pass0 (pa_cons (pv 2) (pa_cons (pv 3) (pa_cons pe_int pa_nil)))) pa_nil)) (by rfl))
  (pss_cons (ps_par (i := 6) (j := 7) (by rfl) scLaw.nd rfl rfl (by decide) rfl rfl (pa_cons (pe_callTy call_list_of (by rfl) T.n_list bb_list (pa_cons (pv 4) pa_nil)) (pa_cons (pe_callTy call_list_of (by rfl) T.n_list bb_list (pa_cons (pv 5) pa_nil)) pa_nil)) (by rfl))
  (pss_cons (ps_par (i := 8) (j := 9) (by rfl) scLaw.nd rfl rfl (by decide) rfl rfl (pa_cons (pe_makeH HC hr9 rfl pass0 (pa_cons (pv 3) (pa_cons (pv 6) pa_nil))) (pa_cons (pe_makeH HC hr9 rfl pass0 (pa_cons (pv 3) (pa_cons (pv 7) pa_nil))) pa_nil)) (by rfl))
  (pss_cons (ps_set (i := 10) scLaw.nd rfl (Or.inl rfl) (pe_callH GR hr2 rfl pass0 (pa_cons (pv 4) pa_nil)))
  (pss_cons (ps_if (PW.pt (pw_or (pt_cmpR op_ne (pe_callB (call_lenO ML hr2) (by rfl) T.n_len bb_len (pa_cons (pv 8) pa_nil)) (pv 10) (nomark _)) (pw_or (pt_cmpR op_ne (pe_callTy (call_boolO MB hr3) (by rfl) T.n_bool bb_bool (pa_cons (pv 8) pa_nil)) (pe_cmpR op_gt (pv 10) pe_int (nomark _)) (nomark _)) (pw_or (pt_cmpR op_ne (pe_propH (pv 8) TS.cl MW hr2 pass0) (pv 3) (nomark _)) (pw_or1 (pt_cmpR op_ne (pe_callB call_len_seq (by rfl) T.n_len bb_len (pa_cons (pe_propH (pv 8) TS.cl MR hr2 pass0) pa_nil)) (pv 10) (nomark _)))))))
  (pss_one (ps_ret pe_bl))
  pss_nil)
  (pss_cons (ps_if (pt_cmpR (op_neD hr.units) (pe_lst (pa_cons (pv 6) (pa_cons (pv 7) pa_nil))) (pe_lst (pa_cons (pv 4) (pa_cons (pv 5) pa_nil))) (nomark _))
  (pss_one (ps_ret pe_bl))
  pss_nil)
  (pss_cons (ps_setLc (i := 11) (own := [("_law_row", 13)]) (g := gName 13) (tt := tYes) rfl scLaw.nd rfl rfl (sw_true rfl rfl rfl (by decide +kernel)) (pi_list (pv 4)) (blkOk_by (own := [("_law_row", 13)]) (N := NLaw) (sc := (defScope sLaw)) (by decide +kernel)) (fun _ _ _ _ _ => (pg_name (i := 13) scLaw.nd rfl (Or.inl rfl))) (fun _ _ _ _ _ => pts_nil) (fun _ _ _ _ _ => (pe_callTy (r := rTupOf K) call_tuple_of (by rfl) T.n_tuple bb_tuple (pa_cons (pe_lc (own := [("_law_value", 12)]) (wi := iTup K (tVar 13)) (g := gName 12) (tt := tYes) rfl scLaw.nd (pi_tup (pv 13)) (blkOk_by (own := [("_law_value", 12)]) (N := NLaw) (sc := { kind := .function, names := [(".0", .local), ("_law_row", .local), ("tuple", .globalImplicit)], isGenerator := false, isCoroutine := false }) (by decide +kernel)) (fun _ _ _ _ _ => (pg_name (i := 12) scLaw.nd rfl (Or.inl rfl))) (fun _ _ _ _ _ => pts_nil) (fun _ _ _ _ _ => (pe_op op_mulW (pe_op op_pow pe_int pe_int) (pv 12)))) pa_nil))))
  (pss_cons (ps_if (pt_cmpR (op_neO ME TS.ne TS.mo hr2) (pe_makeH HC hr9 rfl pass0 (pa_cons (pv 3) (pa_cons (pv 11) pa_nil))) (pv 8) (nomark _))
  (pss_one (ps_ret pe_bl))
  pss_nil)
  (pss_cons (ps_for PassesOwn.never rfl (pi_list (pe_op op_cat (pe_callH GL hr2 rfl pass0 (pa_cons (pv 2) (pa_cons (pv 3) (pa_cons pe_int pa_nil)))) (pe_lst (pa_cons (pe_op op_repN (pe_tup (pa_cons pe_int pa_nil)) (pv 3)) (pa_cons (pe_callTy call_tuple_of (by rfl) T.n_tuple bb_tuple (pa_cons (pe_op op_rep (pe_lst (pa_cons pe_int pa_nil)) (pv 3)) pa_nil)) pa_nil))))) (pg_name (i := 13) scLaw.nd rfl (Or.inl rfl))
  (pss_one (ps_if (pt_cmpR op_ne (pe_cmpR (op_inO MI hr5) (pv 13) (pv 8) (by rfl)) (pe_cmpR op_eq (pe_callH GR hr2 rfl pass0 (pa_cons (pe_op op_cat (pv 4) (pe_lst (pa_cons (pv 13) pa_nil))) pa_nil)) (pv 10) (nomark _)) (nomark _))
  (pss_one (ps_ret pe_bl))
  pss_nil)))
  (pss_cons (ps_set (i := 14) scLaw.nd rfl (Or.inl rfl) (pe_callH GR hr2 rfl pass0 (pa_cons (pe_op op_cat (pv 4) (pv 5)) pa_nil)))
  (pss_cons (ps_if (PW.pt (pw_or (pt_cmpR op_ne (pe_callB (call_lenO ML hr2) (by rfl) T.n_len bb_len (pa_cons (pe_op (op_orO MO TS.sf hr) (pv 8) (pv 9)) pa_nil)) (pv 14) (nomark _)) (pw_or (pt_not (pt_val (pe_methH (pv 8) TS.cl MH hr6 pass0 (pa_cons (pe_op (op_orO MO TS.sf hr) (pv 8) (pv 9)) pa_nil)))) (pw_or1 (pt_cmpR (op_neO ME TS.ne TS.mo hr2) (pe_op (op_orO MO TS.sf hr) (pv 8) (pv 9)) (pe_op (op_orO MO TS.sf hr) (pv 9) (pv 8)) (nomark _))))))
  (pss_one (ps_ret pe_bl))
  pss_nil)
  (pss_cons (ps_if (pt_cmpR op_ne (pe_methH (pv 8) TS.cl MH hr6 pass0 (pa_cons (pv 9) pa_nil)) (pe_cmpR op_eq (pv 14) (pe_callH GR hr2 rfl pass0 (pa_cons (pv 5) pa_nil)) (nomark _)) (nomark _))
  (pss_one (ps_ret pe_bl))
  pss_nil)
  (pss_cons (ps_if (PW.pt (pw_or (pt_cmpR op_ne (pe_cmpR (op_eqO ME hr1) (pv 8) (pv 9) (nomark _)) (pe_and (pe_cmpR op_eq (pv 14) (pv 10) (nomark _)) (pe_one (pe_cmpR op_eq (pv 14) (pe_callH GR hr2 rfl pass0 (pa_cons (pv 5) pa_nil)) (nomark _)))) (nomark _)) (pw_or1 (pt_cmpR op_eq (pe_cmpR (op_neO ME TS.ne TS.mo hr2) (pv 8) (pv 9) (nomark _)) (pe_cmpR (op_eqO ME hr1) (pv 8) (pv 9) (nomark _)) (nomark _)))))
  (pss_one (ps_ret pe_bl))
  pss_nil)
  (pss_cons (ps_for PassesOwn.never rfl (pi_list (pe_lst (pa_cons pe_non (pa_cons pe_int (pa_cons (pe_op op_rep (pe_lst (pa_cons pe_int pa_nil)) (pv 3)) (pa_cons (pe_op op_repN (pe_tup (pa_cons pe_int pa_nil)) (pe_op op_add (pv 3) pe_int)) (pa_cons (pe_op op_repN (pe_tup (pa_cons pe_str pa_nil)) (pv 3)) (pa_cons (pe_op op_repN (pe_tup (pa_cons pe_bl pa_nil)) (pv 3)) (pa_cons (pe_op op_repN (pe_tup (pa_cons (pe_tup pa_nil) pa_nil)) (pv 3)) pa_nil))))))))) (pg_name (i := 15) scLaw.nd rfl (Or.inl rfl))
  (pss_one (ps_if (PW.pt (pw_or (pt_cmpR (op_inO MI hr5) (pv 15) (pv 8) (by rfl)) (pw_or1 (pt_cmpR (op_eqX ME hr1) (pv 8) (pv 15) (nomark _)))))
  (pss_one (ps_ret pe_bl))
  pss_nil)))
  (pss_cons (ps_if (PW.pt (pw_or (pt_cmpR (op_neD hr.units) (pe_propH (pv 8) TS.cl MR hr2 pass0) (pe_callH GD hr6 rfl pass0 (pa_cons (pv 4) (pa_cons (pv 3) pa_nil))) (nomark _)) (pw_or1 (pt_cmpR (op_neD hr.units) (pe_propH (pe_op (op_orO MO TS.sf hr) (pv 8) (pv 9)) TS.cl MR hr2 pass0) (pe_callH GD hr6 rfl pass0 (pa_cons (pe_op op_cat (pv 5) (pv 4)) (pa_cons (pv 3) pa_nil))) (nomark _)))))
  (pss_one (ps_ret pe_bl))
  pss_nil)
  (pss_cons (ps_expr (pe_bm PySem.F.plainAttrs_list PySem.F.slot_list_append PySem.F.type_list_append mt_append (pe_propH (pv 8) TS.cl MR hr2 pass0) (pa_cons pe_non pa_nil)))
  (pss_cons (ps_expr (pe_bm0 PySem.F.plainAttrs_list PySem.F.slot_list_clear PySem.F.type_list_clear mt_clear (pv 6)))
  (pss_one (ps_if (PW.pt (pw_or (pt_cmpR op_ne (pe_callB (call_lenO ML hr2) (by rfl) T.n_len bb_len (pa_cons (pv 8) pa_nil)) (pv 10) (nomark _)) (pw_or1 (pt_cmpR (op_neO ME TS.ne TS.mo hr2) (pe_makeH HC hr9 rfl pass0 (pa_cons (pv 3) (pa_cons (pe_propH (pv 8) TS.cl MR hr2 pass0) pa_nil))) (pv 8) (nomark _)))))
  (pss_one (ps_ret pe_bl))
  pss_nil))))))))))))))))))))))
  (pss_one (ps_ret (pe_and (pe_cmpR (op_neO ME TS.ne TS.mo hr2) (pe_makeH HC hr9 rfl pass0 (pa_cons pe_int (pa_cons (pe_lst pa_nil) pa_nil))) (pe_makeH HC hr9 rfl pass0 (pa_cons pe_int (pa_cons (pe_lst pa_nil) pa_nil))) (nomark _)) (pe_and (pe_notO (pe_makeH HC hr9 rfl pass0 (pa_cons pe_int (pa_cons (pe_lst (pa_cons (pe_tup (pa_cons pe_int pa_nil)) pa_nil)) pa_nil))) (tru_O MB hr1)) (pe_one (pe_cmpR (op_inO MI hr5) (pe_tup (pa_cons pe_int (pa_cons pe_int pa_nil))) (pe_makeH HC hr9 rfl pass0 (pa_cons pe_int (pa_cons (pe_lst (pa_cons (pe_tup (pa_cons pe_int (pa_cons pe_int pa_nil))) pa_nil)) pa_nil))) (by rfl)))))))), ?_⟩
    refine ⟨_, rfl, a, _, rfl, .inl hS, _, _, rfl, _, _, rfl, _, rfl, ?_, ?_, ?_⟩
    · split <;> split <;> omega
    · split <;> split <;> omega
    refine for_range (lo := 0) (fun i σ H' => Same H H' ∧ i ≤ 8 ∧ ∃ x1 x2 x3 x4 x5 x6 x7 x8 x9 x10 x11 x12 x13 x14 x15 : Option V, σ = [some (.ref a), x1, x2, x3, x4, x5, x6, x7, x8, x9, x10, x11, x12, x13, x14, x15]) ⟨Same.refl _, by decide, _, _, _, _, _, _, _, _, _, _, _, _, _, _, _, rfl⟩ ?_ ?_
    · rintro i σ H0 hi ⟨s0, hi8, x1, x2, x3, x4, x5, x6, x7, x8, x9, x10, x11, x12, x13, x14, x15, rfl⟩
      have hi9 : i < 8 := by
        split at hi <;> split at hi <;> omega
      rw [Int.zero_add]
      refine ⟨_, rfl, _, rfl, a, ns, i, rfl, s0.seq hS, by omega, fun p H1 s1 hp0 P1 => ?_⟩
      have hp : H p = none := s0.free hp0
      -- wide
      refine ⟨_, rfl, p, 4, rfl, P1, by decide, by decide, fun r0 H2 r00 r01 P2 k2 => ?_⟩
      obtain ⟨n, hn⟩ : ∃ n : Nat, 1 + r0 = (n : Int) := ⟨(1 + r0).toNat, by omega⟩
      have n5 : n ≤ 4 := by omega
      have n0 : 0 < n := by omega
      refine ⟨_, _, rfl, rfl, ?_⟩
      have ew : (fun i j : Int => V.int (i + j)) 1 r0 = V.int (n : Nat) := congrArg V.int hn
      rw [ew]
      -- rows, others
      refine ⟨_, rfl, _, rfl, p, n, 3, rfl, P2, by omega, by decide, fun X xs rows H3 k3 P3 fX eX hx lr hrow => ?_⟩
      refine ⟨_, rfl, _, rfl, p, n, 3, rfl, P3, by omega, by decide, fun Y ys others H4 k4 P4 fY eY hy lo hoth => ?_⟩
      have Xp := P2.ne fX
      have Yp := P3.ne fY
      have ts34 := ts_but P3 k4
      have eX4 := k4 _ _ eX Xp
      have hx4 := hx.same ts34
      have k24 : ∀ b o, H2 b = some o → b ≠ p → H4 b = some o := fun b o e hb => k4 b o (k3 b o e hb) hb
      have s04 : Same H H4 := fun b o e => k24 b o (k2 b o (s1 b o (s0 b o e)) (ne_of_none e hp)) (ne_of_none e hp)
      refine ⟨_, _, rfl, ?_⟩
      -- given, more
      refine ⟨_, rfl, X, _, rfl, .inl (SqL.of eX4), fun G hG => ?_⟩
      have s5 := same_new (o := .lst xs) hG
      obtain ⟨H5, eH5⟩ : ∃ H5, H5 = upd H4 G (.lst xs) := ⟨_, rfl⟩
      have eG5 : H5 G = some (.lst xs) := by rw [eH5, upd_same]
      rw [← eH5] at s5 ⊢
      refine ⟨_, rfl, Y, _, rfl, .inl (SqL.of (s5 _ _ eY)), fun M hM => ?_⟩
      have s6' := same_new (o := .lst ys) hM
      obtain ⟨H6, eH6⟩ : ∃ H6, H6 = upd H5 M (.lst ys) := ⟨_, rfl⟩
      have eM6 : H6 M = some (.lst ys) := by rw [eH6, upd_same]
      rw [← eH6] at s6' ⊢
      have s6 := s5.trans s6'
      have eG6 := s6' _ _ eG5
      refine ⟨_, _, rfl, ?_⟩
      have b3 : EB 3 (min rows.length (n + 1)) ≤ 9000 := Nat.le_trans (EB_mono (by decide) (g := 3) (by omega)) (by decide)
      have b3' : EB 3 (min others.length (n + 1)) ≤ 9000 := Nat.le_trans (EB_mono (by decide) (g := 3) (by omega)) (by decide)
      -- one, other
      refine ⟨_, rfl, _, rfl, fun S1 d1 hS1 hd1 nd1 => ⟨S1, G, d1, n, xs, rows, 3, rfl, upd_same, n0, mk_at hS1 hd1 eG6, (hx4.same (TSame.of s6)).same (TSame.of (mk_same0 hS1 hd1)), hrow, by omega, by omega, by decide, by decide, b3, fun L1 out1 H7 oth7 fL1 sa1 hRd1 => ⟨rfl, ?_⟩⟩⟩
      have s7 := mk_same hS1 hd1 oth7
      have fL1' := (mk_same0 (C := C) hS1 hd1).free fL1
      refine ⟨_, rfl, _, rfl, fun S2 d2 hS2 hd2 nd2 => ⟨S2, M, d2, n, ys, others, 3, rfl, upd_same, n0, mk_at hS2 hd2 (s7 _ _ eM6), ((hy.same (TSame.of s6)).same (TSame.of s7)).same (TSame.of (mk_same0 hS2 hd2)), hoth, by omega, by omega, by decide, by decide, b3', fun L2 out2 H8 oth8 fL2 sa2 hRd2 => ⟨rfl, ?_⟩⟩⟩
      have s8 := mk_same hS2 hd2 oth8
      have fL2' := (mk_same0 (C := C) hS2 hd2).free fL2
      refine ⟨_, _, rfl, ?_⟩
      have s48 := (s6.trans s7).trans s8
      have sa1 := sa1.same s8
      have P8 := P4.same s48
      have eX8 := s48 _ _ eX4
      have eY8 := s48 _ _ eY
      have hx8 := hx4.same (TSame.of s48)
      have hy8 := hy.same (TSame.of s48)
      have eG8 := (s7.trans s8) _ _ eG6
      have eM8 := (s7.trans s8) _ _ eM6
      have L1p : L1 ≠ p := (P4.same s6).ne fL1'
      have L2p : L2 ≠ p := ((P4.same s6).same s7).ne fL2'
      have GL1 : L1 ≠ G := fun z => by rw [z, eG6] at fL1'; cases fL1'
      have GX : G ≠ X := fun z => by rw [z, eX4] at hG; cases hG
      have s08 := s04.trans s48
      have Gp : G ≠ p := P4.ne hG
      have fG : H G = none := s04.free hG
      have Mp : M ≠ p := (P4.same s5).ne hM
      clear hS1 hd1 nd1 oth7 hS2 hd2 nd2 oth8 fL1 fL2 k24 k3 k4 ts34 s6' s5 eH5 eH6 s6 s7 s8 s48 eG5 eG6 eM6 P1 P2 P3 P4 k2 hM
      -- the rank
      refine ⟨_, rfl, X, n, xs, rows, 3, rfl, eX8, hx8, hrow, by omega, by omega, by decide, tr3 (by omega), fun t1 H9 s9 hR1 => ?_⟩
      have et1 : t1 = out1.length := rank_reds hRd1 hR1
      have sa9 := sa1.same s9
      obtain ⟨dx, zs, z1, z2, z3⟩ := id sa9
      -- len, bool, width, rows
      refine ⟨_, rfl, S1, dx, _, rfl, z1, S1, L1, n, out1, rfl, sa9, out1.length, rfl, by have := hRd1.le; omega, _, rfl, rfl, _, rfl, iteE ?_ ?_⟩
      · rw [et1, decide_eq_true rfl]
        rfl
      refine ⟨_, rfl, _, rfl, S1, dx, _, rfl, z1, S1, L1, n, out1, rfl, sa9, _, rfl, _, rfl, _, _, rfl, rfl, rfl, _, rfl, iteE ?_ ?_⟩
      · rw [et1, decide_eq_true (congrArg V.bl (decide_eq_decide.mpr (by omega)))]
        rfl
      refine ⟨_, rfl, S1, dx, _, rfl, z1, S1, L1, n, out1, rfl, sa9, _, rfl, rfl, _, rfl, iteE (by rw [decide_eq_true rfl]; rfl) ?_⟩
      refine ⟨_, rfl, S1, dx, _, rfl, z1, S1, L1, n, out1, rfl, sa9, fun l us hl hu => ⟨l, _, rfl, .inl (SqL.of upd_same), _, rfl, rfl, _, rfl, iteE ?_ ?_⟩⟩
      · rw [et1, show us.length = out1.length from Paired.length hu, decide_eq_true rfl]
        rfl
      have s10 := s9.trans (same_new (o := .lst us) hl)
      obtain ⟨H10, eH10⟩ : ∃ H10, H10 = upd H9 l (.lst us) := ⟨_, rfl⟩
      rw [← eH10] at s10 ⊢
      clear eH10 hl hu z1 z2 z3 sa9 zs dx s9
      -- given and more are as they were
      refine ⟨_, rfl, _, rfl, (by show 2 ≤ sizeLine; decide), fun A1 hA1 => ⟨_, rfl, _, rfl, (by show 2 ≤ sizeLine; decide), fun A2 hA2 => ?_⟩⟩
      have s11 := s10.trans (same_new (o := .lst [.ref G, .ref M]) hA1)
      have s12' := same_new (o := .lst [.ref X, .ref Y]) hA2
      have s12 := s11.trans s12'
      refine ⟨_, _, .lst (SqL.of (s12' _ _ upd_same)) (.cons (dp_rows (s12 _ _ eG8) (hx8.same (TSame.of s12))) (.cons (dp_rows (s12 _ _ eM8) (hy8.same (TSame.of s12))) .nil)), .lst (SqL.of upd_same) (.cons (dp_rows (s12 _ _ eX8) (hx8.same (TSame.of s12))) (.cons (dp_rows (s12 _ _ eY8) (hy8.same (TSame.of s12))) .nil)), shaped2 _ _, shaped2 _ _, _, rfl, iteE (by rw [SeqAt.eqv_refl _ (SeqAt.canLay_of_shaped (shaped2 _ _))]; rfl) ?_⟩
      obtain ⟨H12, eH12⟩ : ∃ H12, H12 = upd (upd H10 A1 (.lst [.ref G, .ref M])) A2 (.lst [.ref X, .ref Y]) := ⟨_, rfl⟩
      rw [← eH12] at s12 ⊢
      clear eH12 hA1 hA2 s11 s12' s10
      have eX12 := s12 _ _ eX8
      have hx12 := hx8.same (TSame.of s12)
      -- far
      refine ⟨_, rfl, X, rfl, ⟨_, SqL.of eX12⟩, fun D hD => ?_⟩
      have lx : xs.length = rows.length := Paired.length hx8
      refine lc_rel (walk_list (K := K) (a := X) (xs := xs)) (fun i y H' => ∃ q, y = .ref q ∧ TupAt H' q ((rows.getD i []).map (10 ^ 20 * ·))) (fun i y Ha Hb ts ⟨q, e, z⟩ => ⟨q, e, ts _ _ z⟩) hD (by omega) (fun H' s' => SqL.of (s' _ _ eX12)) ?_ ?_
      · rintro i x H3 H4' kk hi s3 ⟨rfl, hxi⟩ kc
        obtain ⟨q, rfl, hq, hil⟩ := rows_at hx12 hxi
        have hq3 := s3 _ _ hq
        obtain ⟨w1, w2⟩ := hrow _ (getD_mem hil)
        refine ⟨rfl, _, rfl, q, rfl, ⟨_, SqT.of hq3⟩, fun D2 hD2 => ?_⟩
        refine lc_map (walk_tup (K := K) (a := q) (xs := (rows.getD i []).map V.int)) (fun j => V.int (10 ^ 20 * (rows.getD i []).getD j 0)) hD2 (by rw [List.length_map]; omega) (fun H' s' => SqT.of (s' _ _ hq3)) ?_ ?_
        · rintro j x H5 H6 kk2 hj s5 ⟨rfl, hxj⟩ kc2
          obtain ⟨z, hz, rfl⟩ := int_at hxj
          have ez : (rows.getD i []).getD j 0 = z := getD_of hz
          refine ⟨rfl, _, _, rfl, rfl, ⟨by decide, by decide, by decide⟩, _, rfl, _, _, rfl, rfl, wide_mul (a := 67) (b := 3) (by decide) (w2 z (List.mem_of_getElem? hz)) (by decide) (by decide) (by decide), ?_⟩
          have q := kc2 H6 (Same.refl _)
          rw [ez] at q
          exact q
        · intro H5 s5 e5
          refine ⟨D2, _, rfl, .inl ⟨SqL.of e5, fun l hl => kc _ _ (s5.trans (same_new hl)) ⟨l, rfl, ?_⟩⟩⟩
          show upd H5 l _ l = _
          rw [upd_same]
          congr 2
          rw [List.length_map, List.map_map]
          exact range_map (rows.getD i []) _ _ fun j x hx' => by rw [getD_of hx']; rfl
      · intro fs H13 s13 eD lf pf
        obtain ⟨far, hfar⟩ : ∃ far, far = rows.map fun r => r.map (10 ^ 20 * ·) := ⟨_, rfl⟩
        have hF : RowsIn H13 fs far := rows_of (by rw [hfar, List.length_map]; omega) fun j y hy' => by
          obtain ⟨q, e, z⟩ := pf j y hy'
          have hj : j < rows.length := by
            have := (List.getElem?_eq_some_iff.mp hy').1
            omega
          refine ⟨q, e, ?_⟩
          rw [hfar, List.getD_eq_getElem?_getD, List.getElem?_map, List.getElem?_eq_getElem hj]
          rw [List.getD_eq_getElem?_getD, List.getElem?_eq_getElem hj] at z
          exact z
        have lF : far.length ≤ 3 := by rw [hfar, List.length_map]; omega
        have bF : ∀ r ∈ far, r.length = n ∧ Small r 70 := fun r hr' => by
          rw [hfar] at hr'
          obtain ⟨r, hr1', rfl⟩ := List.mem_map.mp hr'
          obtain ⟨w1, w2⟩ := hrow r hr1'
          refine ⟨by rw [List.length_map]; exact w1, fun x hx' => ?_⟩
          obtain ⟨y, hy', rfl⟩ := List.mem_map.mp hx'
          have := w2 y hy'
          rw [Int.natAbs_mul, show (10 ^ 20 : Int).natAbs = 100000000000000000000 from by decide]
          omega
        have s813 := s12.trans s13
        have sa13 := sa1.same s813
        -- Space(wide, far) != one
        refine ⟨_, rfl, _, rfl, fun S3 d3 hS3 hd3 nd3 => ⟨S3, D, d3, n, fs, far, 70, rfl, upd_same, n0, mk_at hS3 hd3 eD, hF.same (TSame.of (mk_same0 hS3 hd3)), bF, by omega, by omega, by decide, by decide, Nat.le_trans (EB_mono (by decide) (g := 3) (by omega)) (by decide), fun L3 out3 H14 oth14 fL3 sa3 hRd3 => ⟨rfl, ?_⟩⟩⟩
        have s14 := mk_same hS3 hd3 oth14
        have sa14 := sa13.same s14
        have e31 : out3 = out1 := reds_uniq hRd3 hRd1 (qs_far (by decide) hfar)
        obtain ⟨dx3, zs3, z31, z32, z33⟩ := id sa3
        obtain ⟨dx1, zs1, z11, z12, z13⟩ := id sa14
        refine ⟨_, rfl, S3, S1, dx3, dx1, _, _, rfl, rfl, z31, z11, S3, L3, .ref S1, n, out3, rfl, sa3, .inl ⟨S1, L1, n, out1, rfl, sa14, _, rfl, _, rfl, iteE (by rw [decide_eq_true ⟨rfl, e31⟩]; rfl) ?_⟩⟩
        have s8e := s813.trans s14
        have P14 := P8.same s8e
        have fD : H12 D = none := hD
        clear hS3 hd3 nd3 oth14 fL3 sa3 hRd3 z31 z32 z33 s14 sa13 hF bF lF pf eD s13 s813
        have bas1 : Bas n 39 out1 := by
          have q := hRd1.bas (by decide) (f := 3) (by have := hRd1.le; omega)
          rwa [eb3] at q
        have bas2 : Bas n 39 out2 := by
          have q := hRd2.bas (by decide) (f := 3) (by have := hRd2.le; omega)
          rwa [eb3] at q
        have o1 : out1.length ≤ 3 := by have := hRd1.le; omega
        have o2 : out2.length ≤ 3 := by have := hRd2.le; omega
        -- the further rows
        refine ⟨_, rfl, _, rfl, p, n, 5, rfl, P14, by omega, by decide, fun Z vs more H15 k15 P15 fZ eZ hz lz hmore => ?_⟩
        have Zp := P14.ne fZ
        refine ⟨(by show 1 ≤ sizeLine; decide), fun T0 hT0 => ⟨_, rfl, rep_tup upd_same n0 (by omega) fun W0 H16 s16 hW0 => ?_⟩⟩
        have s16 := (same_new hT0).trans s16
        refine ⟨(by show 1 ≤ sizeLine; decide), fun T1 hT1 => ⟨_, rfl, T1, n, [.int 7], rfl, rfl, upd_same, by omega, by omega, by show 1 * n ≤ sizeLine; exact Nat.le_of_lt (small1000 (by omega)), fun T2 hT2 => ⟨T2, _, rfl, .inl ⟨SqL.of upd_same, fun W7 hW7 => ?_⟩⟩⟩⟩
        obtain ⟨H17, e17⟩ : ∃ H', H' = upd (upd (upd H16 T1 (.lst [.int 7])) T2 (.lst (List.replicate ((n : Nat) : Int).toNat [V.int 7]).flatten)) W7 (.tup (List.replicate ((n : Nat) : Int).toNat [V.int 7]).flatten) := ⟨_, rfl⟩
        have s17 : Same H16 H17 := by rw [e17]; exact ((same_new hT1).trans (same_new hT2)).trans (same_new hW7)
        have hW7' : TupAt H17 W7 (List.replicate n 7) := by
          show H17 W7 = _
          rw [e17, upd_same, List.map_replicate]
          exact congrArg (fun l => some (HO.tup l)) (flat_rep (V.int 7) n)
        rw [← e17]
        clear e17 hT1 hT2 hW7
        have s15 := s16.trans s17
        have hW0' : TupAt H17 W0 (List.replicate n 0) := by
          show H17 W0 = _
          rw [List.map_replicate]
          exact s17 _ _ hW0
        have lv : vs.length = more.length := Paired.length hz
        refine ⟨(by show 2 ≤ sizeLine; decide), fun E1 hE1 => ⟨Z, E1, vs, _, rfl, rfl, (s15.trans (same_new hE1)) _ _ eZ, upd_same, Nat.le_of_lt (small1000 (by show vs.length + 2 ≤ 1000; omega)), fun I1 hI1 => ?_⟩⟩
        obtain ⟨H18, e18⟩ : ∃ H', H' = upd (upd H17 E1 (.lst [.ref W0, .ref W7])) I1 (.lst (vs ++ [.ref W0, .ref W7])) := ⟨_, rfl⟩
        have s18 : Same H17 H18 := by rw [e18]; exact (same_new hE1).trans (same_new hI1)
        have eI : H18 I1 = some (.lst (vs ++ [.ref W0, .ref W7])) := by rw [e18, upd_same]
        rw [← e18]
        clear e18 hE1 hI1
        have s1518 := s15.trans s18
        have k18 : ∀ b o, H14 b = some o → b ≠ p → H18 b = some o := fun b o e hb => s1518 _ _ (k15 b o e hb)
        have tsk := ts_but P14 k18
        obtain ⟨tries, etries⟩ : ∃ tries, tries = more ++ [List.replicate n 0, List.replicate n 7] := ⟨_, rfl⟩
        have hI : RowsIn H18 (vs ++ [.ref W0, .ref W7]) tries := by
          rw [etries]
          exact (hz.same (TSame.of s1518)).append (.cons ⟨W0, rfl, s18 _ _ hW0'⟩ (.cons ⟨W7, rfl, s18 _ _ hW7'⟩ .nil))
        have btries : ∀ r ∈ tries, r.length = n ∧ Small r 3 := fun r hr' => by
          rw [etries] at hr'
          rcases List.mem_append.mp hr' with q | q
          · exact hmore r q
          · have rp : ∀ v : Int, v.natAbs < 2 ^ 3 → Small (List.replicate n v) 3 := fun v hv x hx' => by rw [(List.mem_replicate.mp hx').2]; exact hv
            rcases List.mem_cons.mp q with rfl | q
            · exact ⟨List.length_replicate, rp 0 (by decide)⟩
            · rw [List.mem_singleton.mp q]
              exact ⟨List.length_replicate, rp 7 (by decide)⟩
        -- all that stands at H18
        have eX18 := k18 _ _ (s8e _ _ eX8) Xp
        have hx18 := (hx8.same (TSame.of s8e)).same tsk
        have eY18 := k18 _ _ (s8e _ _ eY8) Yp
        have hy18 := (hy8.same (TSame.of s8e)).same tsk
        have eG18 := k18 _ _ (s8e _ _ eG8) Gp
        have sa18 := sa14.but P14 k18 L1p
        have sb18 := (sa2.same s8e).but P14 k18 L2p
        have s018 : Same H H18 := fun b o e => k18 b o (s8e _ _ (s08 _ _ e)) (ne_of_none e hp)
        clear hz lz hmore eZ fZ Zp hW0 hW7' hW0' s15 s16 s17 s18 k15 P15 hT0 lv s1518 tsk k18 sa14 sa1 sa2 s8e P14 P8 eX8 hx8 eY8 hy8 eG8 eM8 s08 z11 z12 z13 dx1 zs1 s12 eX12 hx12 hD fD e31
        refine ⟨I1, rfl, ⟨_, SqL.of eI⟩, for_list (K := K) (a := I1) (xs := vs ++ [.ref W0, .ref W7]) (fun _ σ H' => Same H18 H' ∧ ∃ y12 y13 : Option V, σ = [some (.ref a), some (.int (i : Nat)), some (.ref p), some (.int (n : Nat)), some (.ref X), some (.ref Y), some (.ref G), some (.ref M), some (.ref S1), some (.ref S2), some (.int (t1 : Nat)), some (.ref D), y12, y13, x14, x15]) ⟨Same.refl _, _, _, rfl⟩ (fun _ σ H' _ h' => SqL.of (h'.1 _ _ eI)) ?_ ?_⟩
        · rintro j v σ H19 hv ⟨s19, y12, y13, rfl⟩
          obtain ⟨q, rfl, hq, hjl⟩ := rows_at hI hv
          obtain ⟨q1, q2⟩ := btries _ (getD_mem hjl)
          have sa19 := sa18.same s19
          obtain ⟨dx, zs, z1, z2, z3⟩ := id sa19
          refine ⟨_, rfl, _, rfl, S1, dx, _, rfl, z1, S1, L1, .ref q, n, out1, rfl, sa19, .inl ⟨q, _, 3, 39, rfl, s19 _ _ hq, q1, by omega, q2, bas1, by decide, by decide, by omega, fun b H20 s20 hb => ⟨b, rfl, ?_⟩⟩⟩
          have s1820 := s19.trans s20
          refine ⟨_, rfl, _, rfl, (by show 1 ≤ sizeLine; decide), fun E2 hE2 => ⟨X, E2, xs, _, rfl, rfl, (s1820.trans (same_new hE2)) _ _ eX18, upd_same, Nat.le_of_lt (small1000 (by show xs.length + 1 ≤ 1000; omega)), fun F2 hF2 => ?_⟩⟩
          have s21 := (s1820.trans (same_new (o := .lst [.ref q]) hE2)).trans (same_new (o := .lst (xs ++ [.ref q])) hF2)
          refine ⟨F2, n, _, rows ++ [tries.getD j []], 3, rfl, upd_same, RowsIn.append (hx18.same (TSame.of s21)) (.cons ⟨q, rfl, s21 _ _ hq⟩ .nil), fun r hr' => ?_, by omega, by rw [List.length_append]; show rows.length + 1 ≤ 100; omega, by decide, tr3 (by rw [List.length_append]; show rows.length + 1 ≤ 6; omega), fun t2 H22 s22 hR2 => ?_⟩
          · rcases List.mem_append.mp hr' with z | z
            · exact hrow r z
            · rw [List.mem_singleton.mp z]
              exact ⟨q1, q2⟩
          refine ⟨_, rfl, rfl, rfl, _, rfl, iteE (beq_ne (hb.trans (rank_in hRd1 q1 hR2 hR1))) ?_⟩
          exact ⟨s21.trans s22, _, _, rfl⟩
        · rintro σ H19 ⟨s19, y12, y13, rfl⟩
          have eX19 := s19 _ _ eX18
          have eY19 := s19 _ _ eY18
          have hx19 := hx18.same (TSame.of s19)
          have hy19 := hy18.same (TSame.of s19)
          have eG19 := s19 _ _ eG18
          have sa19 := sa18.same s19
          have sb19 := sb18.same s19
          have s019 := s018.trans s19
          clear s19 eX18 eY18 hx18 hy18 eG18 sa18 sb18 s018 eI hI btries etries
          -- both
          refine ⟨_, rfl, _, rfl, X, Y, xs, ys, rfl, rfl, eX19, eY19, Nat.le_of_lt (small1000 (by have := Paired.length hy19; omega)), fun F1 hF1 => ?_⟩
          have s20 := same_new (o := .lst (xs ++ ys)) hF1
          have bro : ∀ r ∈ rows ++ others, r.length = n ∧ Small r 3 := fun r hr' => by
            rcases List.mem_append.mp hr' with z | z
            · exact hrow r z
            · exact hoth r z
          refine ⟨F1, n, _, rows ++ others, 3, rfl, upd_same, RowsIn.append (hx19.same (TSame.of s20)) (hy19.same (TSame.of s20)), bro, by omega, by rw [List.length_append]; omega, by decide, tr3 (by rw [List.length_append]; omega), fun tb H21 s21 hRb => ?_⟩
          have s21 := s20.trans s21
          clear s20 hF1
          have sp12 : ∀ v, QS (· ∈ out1 ++ out2) v ↔ QS (· ∈ rows ++ others) v := qs_app hRd1.span hRd2.span
          have e39 : EB 39 (min (out1.length + out2.length) (n + 1)) ≤ 9000 := Nat.le_trans (EB_mono (by decide) (g := 5) (by omega)) (by decide)
          have orr : ∀ {Hc : Hp} {Qx : VK}, SpaceAt C Hc S1 L1 n out1 → SpaceAt C Hc S2 L2 n out2 → (∀ (S3 L3 : Addr) (out3 : List Row) (H' : Hp), Same Hc H' → SpaceAt C H' S3 L3 n out3 → Reds n 39 (out1 ++ out2) out3 → Qx (.ref S3) H') → rOrO C (spOrSp C) (.ref S1) (.ref S2) Hc Qx := fun {Hc Qx} ha hb k => by
            obtain ⟨da, _, ea, _⟩ := id ha
            obtain ⟨db, _, eb, _⟩ := id hb
            exact ⟨S1, S2, da, db, _, _, rfl, rfl, ea, eb, S1, L1, S2, L2, n, 39, out1, out2, rfl, ha, hb, bas1, bas2, n0, by omega, by decide, by decide, e39, fun S3 L3 out3 H' s' _ _ sa3 hRd3 => ⟨⟨S3, rfl⟩, k S3 L3 out3 H' s' sa3 hRd3⟩⟩
          have orl : ∀ {Hc : Hp} {Qx : VK}, SpaceAt C Hc S1 L1 n out1 → SpaceAt C Hc S2 L2 n out2 → (∀ (S3 L3 : Addr) (out3 : List Row) (H' : Hp), Same Hc H' → SpaceAt C H' S3 L3 n out3 → Reds n 39 (out2 ++ out1) out3 → Qx (.ref S3) H') → rOrO C (spOrSp C) (.ref S2) (.ref S1) Hc Qx := fun {Hc Qx} ha hb k => by
            obtain ⟨da, _, ea, _⟩ := id ha
            obtain ⟨db, _, eb, _⟩ := id hb
            exact ⟨S2, S1, db, da, _, _, rfl, rfl, eb, ea, S2, L2, S1, L1, n, 39, out2, out1, rfl, hb, ha, bas2, bas1, n0, by omega, by decide, by decide, (by rw [Nat.add_comm]; exact e39), fun S3 L3 out3 H' s' _ _ sa3 hRd3 => ⟨⟨S3, rfl⟩, k S3 L3 out3 H' s' sa3 hRd3⟩⟩
          -- len(one | other)
          refine ⟨_, rfl, _, rfl, orr (sa19.same s21) (sb19.same s21) fun S3 L3 out3 H22 s22 sa3 hRd3 => ?_⟩
          obtain ⟨d3, _, e3, _⟩ := id sa3
          have w3 := hRd3.rs.le_w
          have lt3 : tb = out3.length := rank_reds hRd3 (hRb.of_span fun v => (sp12 v).symm)
          refine ⟨S3, d3, _, rfl, e3, S3, L3, n, out3, rfl, sa3, out3.length, rfl, by omega, _, rfl, rfl, _, rfl, iteE (by rw [lt3, decide_eq_true rfl]; rfl) ?_⟩
          have s22 := s21.trans s22
          clear s21 sa3 d3 e3
          -- is_within(one | other)
          obtain ⟨d1, _, e1, _⟩ := id (sa19.same s22)
          refine ⟨_, rfl, S1, d1, _, rfl, e1, rfl, _, rfl, _, rfl, orr (sa19.same s22) (sb19.same s22) fun S4 L4 out4 H23 s23 sa4 hRd4 => ?_⟩
          have w4 := hRd4.rs.le_w
          have bas4 : Bas n 1639 out4 := hRd4.bas (by decide) (f := 4) (by omega)
          have s23 := s22.trans s23
          refine ⟨S1, L1, S4, L4, n, 39, 1639, out1, out4, rfl, sa19.same s23, sa4, bas1, bas4, by omega, by decide, by decide, by omega, fun b H24 s24 hb => ⟨b, rfl, ?_⟩⟩
          obtain rfl : b = true := hb.mpr fun o ho => (hRd4.span _).mpr (qs_app_l (QS.mem ho))
          refine iteE rfl ?_
          have s24 := s23.trans s24
          clear s22 s23 sa4 bas4 hRd4 e1 d1 w4 w3 hRd3 lt3
          -- (one | other) != (other | one)
          refine ⟨_, rfl, _, rfl, orr (sa19.same s24) (sb19.same s24) fun S5 L5 out5 H25 s25 sa5 hRd5 => ?_⟩
          have s25' := s24.trans s25
          refine ⟨_, rfl, _, rfl, orl (sa19.same s25') (sb19.same s25') fun S6 L6 out6 H26 s26 sa6 hRd6 => ?_⟩
          have sa5 := sa5.same s26
          obtain ⟨d5, _, e5, _⟩ := id sa5
          obtain ⟨d6, _, e6, _⟩ := id sa6
          have e56 : out5 = out6 := reds_uniq hRd5 hRd6 qs_comm
          refine ⟨S5, S6, d5, d6, _, _, rfl, rfl, e5, e6, S5, L5, .ref S6, n, out5, rfl, sa5, .inl ⟨S6, L6, n, out6, rfl, sa6, _, rfl, _, rfl, iteE (by rw [decide_eq_true ⟨rfl, e56⟩]; rfl) ?_⟩⟩
          have s26 := s25'.trans s26
          clear s25' s25 s24 sa5 sa6 hRd5 hRd6 e56 e5 e6 d5 d6
          -- is_within(other)
          have s26r := s26
          obtain ⟨d1, _, e1, _⟩ := id (sa19.same s26)
          obtain ⟨d2, _, e2, _⟩ := id (sb19.same s26)
          refine ⟨_, rfl, S1, d1, _, rfl, e1, rfl, _, rfl, S1, L1, S2, L2, n, 39, 39, out1, out2, rfl, sa19.same s26, sb19.same s26, bas1, bas2, by omega, by decide, by decide, by omega, fun b H27 s27 hb => ?_⟩
          have s27 := s26.trans s27
          refine ⟨_, rfl, _, rfl, Y, n, ys, others, 3, rfl, s27 _ _ eY19, hy19.same (TSame.of s27), hoth, by omega, by omega, by decide, tr3 (by omega), fun to H28 s28 hRo => ⟨rfl, rfl, _, rfl, iteE (beq_ne (hb.trans (rank_within hRd1 hRd2 hRb hRo))) ?_⟩⟩
          have s28 := s27.trans s28
          clear s26 s26r s27 e1 d1 e2 d2 hb
          -- one == other, one != other
          obtain ⟨d1, _, e1, _⟩ := id (sa19.same s28)
          obtain ⟨d2, _, e2, _⟩ := id (sb19.same s28)
          refine ⟨_, rfl, _, rfl, S1, S2, d1, d2, _, _, rfl, rfl, e1, e2, S1, L1, .ref S2, n, out1, rfl, sa19.same s28, .inl ⟨S2, L2, n, out2, rfl, sb19.same s28, _, rfl, ?_⟩⟩
          refine thenV (fun v H' => Same H28 H' ∧ ∃ c : Bool, v = .bl c ∧ (c = true ↔ tb = t1 ∧ tb = to)) (fun R kR => ?_) ?_
          · refine ⟨_, rfl, _, rfl, rfl, decide (tb = t1), ?_, ?_⟩
            · exact congrArg V.bl (decide_eq_decide.mpr ⟨fun z => by injection z with z; omega, fun z => by rw [z]⟩)
            · by_cases e : tb = t1
              · refine iteS (decide_eq_true e) ?_
                refine ⟨_, rfl, _, rfl, Y, n, ys, others, 3, rfl, s28 _ _ eY19, hy19.same (TSame.of s28), hoth, by omega, by omega, by decide, tr3 (by omega), fun to2 H29 s29 hRo2 => ⟨rfl, kR _ _ ⟨s29, _, rfl, ?_⟩⟩⟩
                have e2 : to2 = to := (rank_reds hRd2 hRo2).trans (rank_reds hRd2 hRo).symm
                rw [decide_eq_true_eq, e2]
                exact ⟨fun z => ⟨e, by injection z with z; omega⟩, fun z => by rw [z.2]⟩
              · exact iteE (decide_eq_false e) (kR _ _ ⟨Same.refl _, _, rfl, fun z => (by cases z), fun z => absurd z.1 e⟩)
          rintro v H29 ⟨s29, c, rfl, hc⟩
          have ec : decide (n = n ∧ out1 = out2) = c := by
            have q := rank_eq hRd1 hRd2 hRb hR1 hRo
            cases c with
            | true => exact decide_eq_true ⟨rfl, q.mpr (hc.mp rfl)⟩
            | false => exact decide_eq_false fun z => by cases hc.mpr (q.mp z.2)
          refine ⟨rfl, _, rfl, iteE (by rw [ec, decide_eq_true rfl]; rfl) ?_⟩
          have s29 := s28.trans s29
          clear s28 e1 d1 e2 d2 hc ec
          obtain ⟨d1, _, e1, _⟩ := id (sa19.same s29)
          obtain ⟨d2, _, e2, _⟩ := id (sb19.same s29)
          refine ⟨_, rfl, _, rfl, S1, S2, d1, d2, _, _, rfl, rfl, e1, e2, S1, L1, .ref S2, n, out1, rfl, sa19.same s29, .inl ⟨S2, L2, n, out2, rfl, sb19.same s29, _, rfl, ?_⟩⟩
          refine ⟨_, rfl, _, rfl, S1, S2, d1, d2, _, _, rfl, rfl, e1, e2, S1, L1, .ref S2, n, out1, rfl, sa19.same s29, .inl ⟨S2, L2, n, out2, rfl, sb19.same s29, _, rfl, rfl, _, rfl, iteE ?_ ?_⟩⟩
          · cases decide (n = n ∧ out1 = out2) <;> decide
          clear e1 d1 e2 d2
          -- odd values
          refine ⟨(by show 1 ≤ sizeLine; decide), fun A0 hA0 => ⟨_, rfl, A0, n, [.int 0], rfl, rfl, upd_same, by omega, by omega, by show 1 * n ≤ sizeLine; exact Nat.le_of_lt (small1000 (by omega)), fun B0 hB0 => ?_⟩⟩
          obtain ⟨Ha, ea⟩ : ∃ H', H' = upd (upd H29 A0 (.lst [.int 0])) B0 (.lst (List.replicate ((n : Nat) : Int).toNat [V.int 0]).flatten) := ⟨_, rfl⟩
          have sa : Same H29 Ha := by rw [ea]; exact (same_new hA0).trans (same_new hB0)
          have v0 : Ha B0 = some (.lst (List.replicate ((n : Nat) : Int).toNat [V.int 0]).flatten) := by rw [ea, upd_same]
          rw [← ea]
          clear ea hA0 hB0
          refine ⟨(by show 1 ≤ sizeLine; decide), fun A1 hA1 => ⟨_, rfl, _, _, rfl, rfl, rep_tup (n := n + 1) upd_same (by omega) (by omega) fun W1 Hb sb v1 => ?_⟩⟩
          have sb := (same_new hA1).trans sb
          refine ⟨(by show 1 ≤ sizeLine; decide), fun A2 hA2 => ⟨_, rfl, rep_tup upd_same n0 (by omega) fun W2 Hc sc v2 => ?_⟩⟩
          have sc := (same_new hA2).trans sc
          refine ⟨(by show 1 ≤ sizeLine; decide), fun A3 hA3 => ⟨_, rfl, rep_tup upd_same n0 (by omega) fun W3 Hd sd v3 => ?_⟩⟩
          have sd := (same_new hA3).trans sd
          refine ⟨(by show 0 ≤ sizeLine; decide), fun A4 hA4 => ⟨(by show 1 ≤ sizeLine; decide), fun A5 hA5 => ⟨_, rfl, rep_tup upd_same n0 (by omega) fun W4 He se v4 => ?_⟩⟩⟩
          have v5 := (((same_new (o := .tup [.ref A4]) hA5).trans se) _ _ (upd_same (H := Hd) (a := A4) (o := .tup [])))
          have se := ((same_new hA4).trans (same_new hA5)).trans se
          refine ⟨(by show 7 ≤ sizeLine; decide), fun O hO => ?_⟩
          have s30 := ((((s29.trans sa).trans sb).trans sc).trans sd).trans se
          have odds : ∀ H', Same He H' → ∀ v ∈ [V.non, V.int 5, V.ref B0, V.ref W1, V.ref W2, V.ref W3, V.ref W4], Odd K C n H' v := fun H' s' v hv => by
            simp only [List.mem_cons, List.not_mem_nil, or_false] at hv
            rcases hv with rfl | rfl | rfl | rfl | rfl | rfl | rfl
            · exact ⟨.kind (.base .non) (kit_ty (r := false) (by decide +kernel)), _, .base .non, TN.non, TN.fnon⟩
            · exact ⟨.kind (.base (.int _)) (kit_ty (r := false) (by decide +kernel)), _, .base (.int _), TN.int, TN.fint⟩
            · have e := ((((sb.trans sc).trans sd).trans se).trans s') _ _ v0
              exact ⟨.kind (.base (.lst e)) (kit_ty (r := false) (by decide +kernel)), _, .base (.lst e), TN.lst, TN.flst⟩
            · have e := (((sc.trans sd).trans se).trans s') _ _ v1
              exact ⟨.len e (by rw [List.length_replicate]; omega), _, .base (.tup e), TN.tup, TN.ftup⟩
            · have e := ((sd.trans se).trans s') _ _ v2
              refine ⟨.item e List.length_replicate n0 (by omega) fun H'' s'' x hx' => ?_, _, .base (.tup e), TN.tup, TN.ftup⟩
              rw [(List.mem_replicate.mp hx').2]
              exact ⟨_, false, .base (.str _), kit_ty (r := false) (by decide +kernel), fun z => (by cases z)⟩
            · have e := (se.trans s') _ _ v3
              refine ⟨.item e List.length_replicate n0 (by omega) fun H'' s'' x hx' => ?_, _, .base (.tup e), TN.tup, TN.ftup⟩
              rw [(List.mem_replicate.mp hx').2]
              exact ⟨_, true, .base (.bl _), kit_ty (r := true) (by decide +kernel), fun z => kit_ty (r := true) (by decide +kernel)⟩
            · have e := s' _ _ v4
              refine ⟨.item e List.length_replicate n0 (by omega) fun H'' s'' x hx' => ?_, _, .base (.tup e), TN.tup, TN.ftup⟩
              rw [(List.mem_replicate.mp hx').2]
              exact ⟨_, false, .base (.tup (s'' _ _ (s' _ _ v5))), kit_ty (r := false) (by decide +kernel), fun z => (by cases z)⟩
          have s31' := same_new (o := .lst [V.non, V.int 5, V.ref B0, V.ref W1, V.ref W2, V.ref W3, V.ref W4]) hO
          obtain ⟨Hf, eHf⟩ : ∃ H', H' = upd He O (.lst [V.non, V.int 5, V.ref B0, V.ref W1, V.ref W2, V.ref W3, V.ref W4]) := ⟨_, rfl⟩
          have eO : Hf O = some (.lst [V.non, V.int 5, V.ref B0, V.ref W1, V.ref W2, V.ref W3, V.ref W4]) := by rw [eHf, upd_same]
          rw [← eHf] at s31' ⊢
          have s31 := s30.trans s31'
          clear eHf hO hA1 hA2 hA3 hA4 hA5 sa sb sc sd se v0 v1 v2 v3 v4 v5 s29 s30
          refine ⟨O, rfl, ⟨_, SqL.of eO⟩, for_list (K := K) (a := O) (xs := [V.non, V.int 5, V.ref B0, V.ref W1, V.ref W2, V.ref W3, V.ref W4]) (fun _ σ H' => Same Hf H' ∧ ∃ y15 : Option V, σ = [some (.ref a), some (.int (i : Nat)), some (.ref p), some (.int (n : Nat)), some (.ref X), some (.ref Y), some (.ref G), some (.ref M), some (.ref S1), some (.ref S2), some (.int (t1 : Nat)), some (.ref D), y12, y13, some (.int (tb : Nat)), y15]) ⟨Same.refl _, _, rfl⟩ (fun _ σ H' _ h' => SqL.of (h'.1 _ _ eO)) ?_ ?_⟩
          · rintro j v σ H32 hv ⟨s32, y15, rfl⟩
            have s32' := s31.trans s32
            obtain ⟨no, _⟩ := odds H32 (s31'.trans s32) v (List.mem_of_getElem? hv)
            obtain ⟨d1, _, e1, _⟩ := id (sa19.same s32')
            refine ⟨_, rfl, _, rfl, S1, d1, _, rfl, e1, S1, L1, v, n, out1, rfl, sa19.same s32', .inr ⟨no, fun H33 s33 => ⟨_, rfl, _, rfl, iteE rfl ?_⟩⟩⟩
            obtain ⟨_, t, ty, kt, nf⟩ := odds H33 ((s31'.trans s32).trans s33) v (List.mem_of_getElem? hv)
            exact ⟨_, rfl, _, rfl, S1, d1, _, t, rfl, s33 _ _ e1, ty, nf, S1, L1, v, n, out1, rfl, (sa19.same s32').same s33, .inr ⟨t, ty, kt, _, rfl, _, rfl, iteE rfl ⟨s32.trans s33, _, rfl⟩⟩⟩
          · rintro σ H32 ⟨s32, y15, rfl⟩
            have s32 := s31.trans s32
            clear odds eO s31 s31'
            -- one.rows
            obtain ⟨d1, _, e1, _⟩ := id (sa19.same s32)
            refine ⟨_, rfl, S1, d1, _, rfl, e1, S1, L1, n, out1, rfl, sa19.same s32, fun l us hl hu => ?_⟩
            have s33' := same_new (o := .lst us) hl
            have s33 := s32.trans s33'
            refine ⟨_, rfl, _, rfl, X, n, xs, rows, 3, rfl, s33 _ _ eX19, hx19.same (TSame.of s33), hrow, by omega, by omega, by decide, by decide, b3, fun L7 ys7 out7 H34 s34 _ eL7 hy7 hRd7 => ?_⟩
            have e17 : out1 = out7 := reds_uniq hRd1 hRd7 fun _ => Iff.rfl
            refine ⟨_, _, dp_rows (s34 _ _ upd_same) (hu.same (TSame.of (s33'.trans s34))), dp_rows eL7 hy7, shaped_rows _, shaped_rows _, _, rfl, iteE (by rw [eqv_rows_iff, decide_eq_true e17]; rfl) ?_⟩
            have s34 := s33.trans s34
            clear s33 s33' hl hu s32 e17 hRd7 eL7 hy7 e1 d1
            -- (one | other).rows
            refine ⟨_, rfl, _, rfl, orr (sa19.same s34) (sb19.same s34) fun S8 L8 out8 H35 s35 sa8 hRd8 => ?_⟩
            obtain ⟨d8, _, e8, _⟩ := id sa8
            refine ⟨S8, d8, _, rfl, e8, S8, L8, n, out8, rfl, sa8, fun l us hl hu => ?_⟩
            have s36' := same_new (o := .lst us) hl
            have s36 := (s34.trans s35).trans s36'
            refine ⟨_, rfl, _, rfl, Y, X, ys, xs, rfl, rfl, s36 _ _ eY19, s36 _ _ eX19, Nat.le_of_lt (small1000 (by have := Paired.length hy19; omega)), fun F9 hF9 => ?_⟩
            have s37' := same_new (o := .lst (ys ++ xs)) hF9
            have s37 := s36.trans s37'
            refine ⟨_, rfl, F9, n, _, others ++ rows, 3, rfl, upd_same, RowsIn.append (hy19.same (TSame.of s37)) (hx19.same (TSame.of s37)), fun r hr' => bro r (List.mem_append.mpr (List.mem_append.mp hr').symm), by omega, by rw [List.length_append]; omega, by decide, by decide, Nat.le_trans (EB_mono (by decide) (g := 6) (by rw [List.length_append]; omega)) (by decide), fun L9 ys9 out9 H38 s38 _ eL9 hy9 hRd9 => ?_⟩
            have e89 : out8 = out9 := reds_uniq hRd8 hRd9 fun v => (sp12 v).trans (qs_comm v)
            refine ⟨_, _, dp_rows ((s37'.trans s38) _ _ upd_same) (hu.same (TSame.of ((s36'.trans s37').trans s38))), dp_rows eL9 hy9, shaped_rows _, shaped_rows _, _, rfl, iteE (by rw [eqv_rows_iff, decide_eq_true e89]; rfl) ?_⟩
            have s38 := s37.trans s38
            clear s37 s37' s36 s36' hl hu e89 hRd8 hRd9 eL9 hy9 sa8 e8 d8 s35 s34 hF9
            -- one.rows.append(None)
            obtain ⟨d1, _, e1, _⟩ := id (sa19.same s38)
            refine ⟨_, rfl, S1, d1, _, rfl, e1, S1, L1, n, out1, rfl, sa19.same s38, fun l us hl hu => ⟨.inl ⟨rfl, _, SqL.of upd_same⟩, l, us, _, rfl, rfl, upd_same, small1000 (by have := Paired.length hu; omega), ?_⟩⟩
            have s39 := s38.trans (fun b o e => by rw [upd_ne (ne_of_none e hl), upd_ne (ne_of_none e hl)]; exact e : Same H38 (upd (upd H38 l (.lst us)) l (.lst (us ++ [.non]))))
            obtain ⟨H39, e39'⟩ : ∃ H', H' = upd (upd H38 l (.lst us)) l (.lst (us ++ [.non])) := ⟨_, rfl⟩
            rw [← e39'] at s39 ⊢
            clear e39' hl hu s38 e1 d1
            -- given.clear()
            have eG := s39 _ _ eG19
            refine ⟨_, rfl, .inl ⟨rfl, _, SqL.of eG⟩, G, xs, rfl, rfl, eG, ?_⟩
            have s040 : Same H (upd H39 G (.lst [])) := fun b o e => by rw [upd_ne (ne_of_none e fG)]; exact s39 _ _ (s019 _ _ e)
            have sa40 : SpaceAt C (upd H39 G (.lst [])) S1 L1 n out1 := by
              obtain ⟨dx, us, e1, e2, e3⟩ := sa19.same s39
              exact ⟨dx, us, by rw [upd_ne (ne_of e1 eG fun z => by cases z)]; exact e1, by rw [upd_ne GL1]; exact e2, e3.same fun b zs e => by rw [upd_ne (ne_of e eG fun z => by cases z)]; exact e⟩
            obtain ⟨H40, eH40⟩ : ∃ H', H' = upd H39 G (.lst []) := ⟨_, rfl⟩
            rw [← eH40] at s040 sa40 ⊢
            clear eH40
            obtain ⟨dx, _, e1, _⟩ := id sa40
            refine ⟨_, rfl, S1, dx, _, rfl, e1, S1, L1, n, out1, rfl, sa40, out1.length, rfl, by omega, _, rfl, rfl, _, rfl, iteE (by rw [et1, decide_eq_true rfl]; rfl) ?_⟩
            refine ⟨_, rfl, _, rfl, S1, dx, _, rfl, e1, S1, L1, n, out1, rfl, sa40, fun l us hl hu => fun S9 d9 hS9 hd9 nd9 => ⟨S9, l, d9, n, us, out1, 39, rfl, upd_same, n0, mk_at hS9 hd9 upd_same, (hu.same (TSame.of (same_new hl))).same (TSame.of (mk_same0 hS9 hd9)), fun r hr' => ⟨bas1.rs.len r hr', bas1.small r hr'⟩, by omega, by omega, by decide, by decide, Nat.le_trans (EB_mono (by decide) (g := 5) (by omega)) (by decide), fun L9 out9 H41 oth fr sa9 hRd9 => ⟨rfl, ?_⟩⟩⟩
            have s41 := (same_new hl).trans (mk_same hS9 hd9 oth)
            have sa41 := sa40.same s41
            obtain ⟨d9', _, e9, _⟩ := id sa9
            obtain ⟨d1', _, e1', _⟩ := id sa41
            have e91 : out9 = out1 := reds_self hRd1 hRd9
            refine ⟨_, rfl, S9, S1, d9', d1', _, _, rfl, rfl, e9, e1', S9, L9, .ref S1, n, out9, rfl, sa9, .inl ⟨S1, L1, n, out1, rfl, sa41, _, rfl, _, rfl, iteE (by rw [decide_eq_true ⟨rfl, e91⟩]; rfl) ?_⟩⟩
            exact ⟨s040.trans s41, by omega, _, _, _, _, _, _, _, _, _, _, _, _, _, _, _, rfl⟩
    · rintro σ H1 ⟨s1, _, x1, x2, x3, x4, x5, x6, x7, x8, x9, x10, x11, x12, x13, x14, x15, rfl⟩
      -- Space(2, []) != Space(3, [])
      refine ⟨(by show 0 ≤ sizeLine; decide), fun E1 hE1 => fun Sa da hSa hda _ => ⟨Sa, E1, da, 2, [], [], 1, rfl, upd_same, by decide, mk_at hSa hda upd_same, .nil, (fun _ z => nomatch z), by decide, by decide, by decide, by decide, by decide, fun La outa H2 otha _ saa hRa => ⟨rfl, ?_⟩⟩⟩
      refine ⟨(by show 0 ≤ sizeLine; decide), fun E2 hE2 => fun Sb db hSb hdb _ => ⟨Sb, E2, db, 3, [], [], 1, rfl, upd_same, by decide, mk_at hSb hdb upd_same, .nil, (fun _ z => nomatch z), by decide, by decide, by decide, by decide, by decide, fun Lb outb H3 othb _ sab hRb => ⟨rfl, ?_⟩⟩⟩
      have saa := saa.same ((same_new hE2).trans (mk_same hSb hdb othb))
      obtain ⟨d1, _, e1, _⟩ := id saa
      obtain ⟨d2, _, e2, _⟩ := id sab
      refine ⟨Sa, Sb, d1, d2, _, _, rfl, rfl, e1, e2, Sa, La, .ref Sb, 2, outa, rfl, saa, .inl ⟨Sb, Lb, 3, outb, rfl, sab, _, rfl, _, rfl, iteS (by rw [decide_eq_false fun z => absurd z.1 (by decide)]; rfl) ?_⟩⟩
      -- not Space(1, [(0,)])
      refine ⟨(by show 1 ≤ sizeLine; decide), fun T3 hT3 => ⟨(by show 1 ≤ sizeLine; decide), fun E3 hE3 => fun Sc dc hSc hdc _ => ⟨Sc, E3, dc, 1, [.ref T3], [[0]], 1, rfl, upd_same, by decide, mk_at hSc hdc upd_same, .cons ⟨T3, rfl, mk_at hSc hdc (same_new hE3 _ _ upd_same)⟩ .nil, ?_, by decide, by decide, by decide, by decide, by decide, fun Lc outc H4 othc _ sac hRc => ⟨rfl, ?_⟩⟩⟩⟩
      · intro r hr'
        rw [List.mem_singleton.mp hr']
        exact ⟨rfl, by intro x hx; rw [List.mem_singleton.mp hx]; decide⟩
      have ec : outc = [] := reds_uniq hRc reds_zero fun _ => Iff.rfl
      obtain ⟨d3, _, e3, _⟩ := id sac
      refine ⟨Sc, d3, _, rfl, e3, Sc, Lc, 1, outc, rfl, sac, _, rfl, _, rfl, iteS (by rw [ec]; rfl) ?_⟩
      -- (3, 3) in Space(2, [(1, 1)])
      refine ⟨(by show 2 ≤ sizeLine; decide), fun T4 hT4 => ⟨(by show 2 ≤ sizeLine; decide), fun T5 hT5 => ⟨(by show 1 ≤ sizeLine; decide), fun E4 hE4 => fun Sd dd hSd hdd _ => ⟨Sd, E4, dd, 2, [.ref T5], [[1, 1]], 1, rfl, upd_same, by decide, mk_at hSd hdd upd_same, .cons ⟨T5, rfl, mk_at hSd hdd (same_new hE4 _ _ upd_same)⟩ .nil, ?_, by decide, by decide, by decide, by decide, by decide, fun Ld outd H5 othd _ sad hRd => ⟨rfl, ?_⟩⟩⟩⟩⟩
      · intro r hr'
        rw [List.mem_singleton.mp hr']
        refine ⟨rfl, fun x hx => ?_⟩
        simp only [List.mem_cons, List.not_mem_nil, or_false, or_self] at hx
        rw [hx]
        decide
      have s5 := ((same_new (o := .tup [.int 1, .int 1]) hT5).trans (same_new hE4)).trans (mk_same hSd hdd othd)
      obtain ⟨d4, _, e4, _⟩ := id sad
      have ld := hRd.le
      refine ⟨Sd, d4, _, rfl, e4, Sd, Ld, .ref T4, 2, outd, rfl, sad, .inl ⟨T4, [3, 3], 2, 1, rfl, s5 _ _ upd_same, rfl, by decide, ?_, hRd.bas (by decide) (f := 1) ld, by decide, by decide, by have : outd.length ≤ 1 := ld; omega, fun b H6 _ hb => ⟨b, rfl, ?_⟩⟩⟩
      · intro x hx
        simp only [List.mem_cons, List.not_mem_nil, or_false, or_self] at hx
        rw [hx]
        decide
      obtain rfl : b = true := hb.mpr ((hRd.span _).mpr (((QS.mem (r := [1, 1]) (List.mem_singleton.mpr rfl)).smul 3).cg fun i => by
        match i with
        | 0 => rfl
        | 1 => rfl
        | i + 2 => rfl))
      exact kq _
end

theorem all_mk {l : PySem.W.OpenLaw} {w : World} {K : PySem.W.Frag} {h : Heap} {mg : Str → Option Value} {fa fIsInt fIsRow fCF fPrim fLead fWo fRB fAdded fRed fPool fTake fThin fRank fIterR fLRows fLaw CSpace fSpIni fSpLen fSpBool fSpIn fSpEq fSpChk fSpOr fSpWith fSpWid fSpRows ppSpWid ppSpRows : Addr} (X : K.In h) (G : h.Ns mainGlobals mg) (hfa : mg "law" = some (.ref fa))
    {odIsInt anIsInt : Option Addr} {slIsInt : Array (Option Value)} {ocIsInt kVIsInt dcIsInt pmIsInt cdIsInt ctIsInt : Value}
    (aIsInt : PySem.W.nsIn K mainGlobals "is_integer" = some (some (.ref fIsInt))) (lIsInt : K.lookup fIsInt = some ⟨ocIsInt, odIsInt, .func (PySem.W.fnOf "is_integer" "is_integer" (defArgs sIsInt) (defBody sIsInt) (defScope sIsInt) .none kVIsInt dcIsInt pmIsInt anIsInt cdIsInt ctIsInt), slIsInt⟩) (cIsInt : PySem.W.codeIn K cdIsInt "is_integer" = true) (kIsInt : PySem.W.keepIn K (.ref fIsInt) = true)
    {odIsRow anIsRow : Option Addr} {slIsRow : Array (Option Value)} {ocIsRow kVIsRow dcIsRow pmIsRow cdIsRow ctIsRow : Value}
    (aIsRow : PySem.W.nsIn K mainGlobals "is_row" = some (some (.ref fIsRow))) (lIsRow : K.lookup fIsRow = some ⟨ocIsRow, odIsRow, .func (PySem.W.fnOf "is_row" "is_row" (defArgs sIsRow) (defBody sIsRow) (defScope sIsRow) .none kVIsRow dcIsRow pmIsRow anIsRow cdIsRow ctIsRow), slIsRow⟩) (cIsRow : PySem.W.codeIn K cdIsRow "is_row" = true) (kIsRow : PySem.W.keepIn K (.ref fIsRow) = true)
    {odCF anCF : Option Addr} {slCF : Array (Option Value)} {ocCF kVCF dcCF pmCF cdCF ctCF : Value}
    (aCF : PySem.W.nsIn K mainGlobals "common_factor" = some (some (.ref fCF))) (lCF : K.lookup fCF = some ⟨ocCF, odCF, .func (PySem.W.fnOf "common_factor" "common_factor" (defArgs sCF) (defBody sCF) (defScope sCF) .none kVCF dcCF pmCF anCF cdCF ctCF), slCF⟩) (cCF : PySem.W.codeIn K cdCF "common_factor" = true) (kCF : PySem.W.keepIn K (.ref fCF) = true)
    {odPrim anPrim : Option Addr} {slPrim : Array (Option Value)} {ocPrim kVPrim dcPrim pmPrim cdPrim ctPrim : Value}
    (aPrim : PySem.W.nsIn K mainGlobals "primitive" = some (some (.ref fPrim))) (lPrim : K.lookup fPrim = some ⟨ocPrim, odPrim, .func (PySem.W.fnOf "primitive" "primitive" (defArgs sPrim) (defBody sPrim) (defScope sPrim) .none kVPrim dcPrim pmPrim anPrim cdPrim ctPrim), slPrim⟩) (cPrim : PySem.W.codeIn K cdPrim "primitive" = true) (kPrim : PySem.W.keepIn K (.ref fPrim) = true)
    {odLead anLead : Option Addr} {slLead : Array (Option Value)} {ocLead kVLead dcLead pmLead cdLead ctLead : Value}
    (aLead : PySem.W.nsIn K mainGlobals "lead" = some (some (.ref fLead))) (lLead : K.lookup fLead = some ⟨ocLead, odLead, .func (PySem.W.fnOf "lead" "lead" (defArgs sLead) (defBody sLead) (defScope sLead) .none kVLead dcLead pmLead anLead cdLead ctLead), slLead⟩) (cLead : PySem.W.codeIn K cdLead "lead" = true) (kLead : PySem.W.keepIn K (.ref fLead) = true)
    {odWo anWo : Option Addr} {slWo : Array (Option Value)} {ocWo kVWo dcWo pmWo cdWo ctWo : Value}
    (aWo : PySem.W.nsIn K mainGlobals "without" = some (some (.ref fWo))) (lWo : K.lookup fWo = some ⟨ocWo, odWo, .func (PySem.W.fnOf "without" "without" (defArgs sWo) (defBody sWo) (defScope sWo) .none kVWo dcWo pmWo anWo cdWo ctWo), slWo⟩) (cWo : PySem.W.codeIn K cdWo "without" = true) (kWo : PySem.W.keepIn K (.ref fWo) = true)
    {odRB anRB : Option Addr} {slRB : Array (Option Value)} {ocRB kVRB dcRB pmRB cdRB ctRB : Value}
    (aRB : PySem.W.nsIn K mainGlobals "reduced_by" = some (some (.ref fRB))) (lRB : K.lookup fRB = some ⟨ocRB, odRB, .func (PySem.W.fnOf "reduced_by" "reduced_by" (defArgs sRB) (defBody sRB) (defScope sRB) .none kVRB dcRB pmRB anRB cdRB ctRB), slRB⟩) (cRB : PySem.W.codeIn K cdRB "reduced_by" = true) (kRB : PySem.W.keepIn K (.ref fRB) = true)
    {odAdded anAdded : Option Addr} {slAdded : Array (Option Value)} {ocAdded kVAdded dcAdded pmAdded cdAdded ctAdded : Value}
    (aAdded : PySem.W.nsIn K mainGlobals "added" = some (some (.ref fAdded))) (lAdded : K.lookup fAdded = some ⟨ocAdded, odAdded, .func (PySem.W.fnOf "added" "added" (defArgs sAdded) (defBody sAdded) (defScope sAdded) .none kVAdded dcAdded pmAdded anAdded cdAdded ctAdded), slAdded⟩) (cAdded : PySem.W.codeIn K cdAdded "added" = true) (kAdded : PySem.W.keepIn K (.ref fAdded) = true)
    {odRed anRed : Option Addr} {slRed : Array (Option Value)} {ocRed kVRed dcRed pmRed cdRed ctRed : Value}
    (aRed : PySem.W.nsIn K mainGlobals "reduced" = some (some (.ref fRed))) (lRed : K.lookup fRed = some ⟨ocRed, odRed, .func (PySem.W.fnOf "reduced" "reduced" (defArgs sRed) (defBody sRed) (defScope sRed) .none kVRed dcRed pmRed anRed cdRed ctRed), slRed⟩) (cRed : PySem.W.codeIn K cdRed "reduced" = true) (kRed : PySem.W.keepIn K (.ref fRed) = true)
    {odPool anPool : Option Addr} {slPool : Array (Option Value)} {ocPool kVPool dcPool pmPool cdPool ctPool : Value}
    (aPool : PySem.W.nsIn K mainGlobals "_law_pool" = some (some (.ref fPool))) (lPool : K.lookup fPool = some ⟨ocPool, odPool, .func (PySem.W.fnOf "_law_pool" "_law_pool" (defArgs sPool) (defBody sPool) (defScope sPool) .none kVPool dcPool pmPool anPool cdPool ctPool), slPool⟩) (cPool : PySem.W.codeIn K cdPool "_law_pool" = true) (kPool : PySem.W.keepIn K (.ref fPool) = true)
    {odTake anTake : Option Addr} {slTake : Array (Option Value)} {ocTake kVTake dcTake pmTake cdTake ctTake : Value}
    (aTake : PySem.W.nsIn K mainGlobals "_law_take" = some (some (.ref fTake))) (lTake : K.lookup fTake = some ⟨ocTake, odTake, .func (PySem.W.fnOf "_law_take" "_law_take" (defArgs sTake) (defBody sTake) (defScope sTake) .none kVTake dcTake pmTake anTake cdTake ctTake), slTake⟩) (cTake : PySem.W.codeIn K cdTake "_law_take" = true) (kTake : PySem.W.keepIn K (.ref fTake) = true)
    {odThin anThin : Option Addr} {slThin : Array (Option Value)} {ocThin kVThin dcThin pmThin cdThin ctThin : Value}
    (aThin : PySem.W.nsIn K mainGlobals "_law_thin" = some (some (.ref fThin))) (lThin : K.lookup fThin = some ⟨ocThin, odThin, .func (PySem.W.fnOf "_law_thin" "_law_thin" (defArgs sThin) (defBody sThin) (defScope sThin) .none kVThin dcThin pmThin anThin cdThin ctThin), slThin⟩) (cThin : PySem.W.codeIn K cdThin "_law_thin" = true) (kThin : PySem.W.keepIn K (.ref fThin) = true)
    {odRank anRank : Option Addr} {slRank : Array (Option Value)} {ocRank kVRank dcRank pmRank cdRank ctRank : Value}
    (aRank : PySem.W.nsIn K mainGlobals "_law_rank" = some (some (.ref fRank))) (lRank : K.lookup fRank = some ⟨ocRank, odRank, .func (PySem.W.fnOf "_law_rank" "_law_rank" (defArgs sRank) (defBody sRank) (defScope sRank) .none kVRank dcRank pmRank anRank cdRank ctRank), slRank⟩) (cRank : PySem.W.codeIn K cdRank "_law_rank" = true) (kRank : PySem.W.keepIn K (.ref fRank) = true)
    {odIterR anIterR : Option Addr} {slIterR : Array (Option Value)} {ocIterR kVIterR dcIterR pmIterR cdIterR ctIterR : Value}
    (aIterR : PySem.W.nsIn K mainGlobals "iter_rows" = some (some (.ref fIterR))) (lIterR : K.lookup fIterR = some ⟨ocIterR, odIterR, .func (PySem.W.fnOf "iter_rows" "iter_rows" (defArgs sIterR) (defBody sIterR) (defScope sIterR) .none kVIterR dcIterR pmIterR anIterR cdIterR ctIterR), slIterR⟩) (cIterR : PySem.W.codeIn K cdIterR "iter_rows" = true) (kIterR : PySem.W.keepIn K (.ref fIterR) = true)
    {odLRows anLRows : Option Addr} {slLRows : Array (Option Value)} {ocLRows kVLRows dcLRows pmLRows cdLRows ctLRows : Value}
    (aLRows : PySem.W.nsIn K mainGlobals "_law_rows" = some (some (.ref fLRows))) (lLRows : K.lookup fLRows = some ⟨ocLRows, odLRows, .func (PySem.W.fnOf "_law_rows" "_law_rows" (defArgs sLRows) (defBody sLRows) (defScope sLRows) .none kVLRows dcLRows pmLRows anLRows cdLRows ctLRows), slLRows⟩) (cLRows : PySem.W.codeIn K cdLRows "_law_rows" = true) (kLRows : PySem.W.keepIn K (.ref fLRows) = true)
    {odLaw anLaw : Option Addr} {slLaw : Array (Option Value)} {ocLaw kVLaw dcLaw pmLaw cdLaw ctLaw : Value}
    (aLaw : PySem.W.nsIn K mainGlobals "law" = some (some (.ref fLaw))) (lLaw : K.lookup fLaw = some ⟨ocLaw, odLaw, .func (PySem.W.fnOf "law" "law" (defArgs sLaw) (defBody sLaw) (defScope sLaw) .none kVLaw dcLaw pmLaw anLaw cdLaw ctLaw), slLaw⟩) (cLaw : PySem.W.codeIn K cdLaw "law" = true) (kLaw : PySem.W.keepIn K (.ref fLaw) = true)
    (aSpace : PySem.W.nsIn K mainGlobals "Space" = some (some (.ref CSpace)))
    (pgSpace : PySem.W.plainGet K CSpace Str.empty = true) (hdSpace : PySem.W.hasDictIn K CSpace = true) (poSpace : PySem.W.plainOver K CSpace = true) (saSpace : PySem.W.findIn K (.ref CSpace) "__setattr__" = some (some (.builtin "object.__setattr__"))) (mkSpace : PySem.W.makesIn K CSpace = true) (kcSpace : PySem.W.keepIn K (.ref CSpace) = true)
    (noSpace_length : PySem.W.findIn K (.ref CSpace) "length" = some none)
    (noSpace_basis : PySem.W.findIn K (.ref CSpace) "basis" = some none)
    {odSpIni anSpIni : Option Addr} {slSpIni : Array (Option Value)} {ocSpIni kVSpIni dcSpIni pmSpIni cdSpIni ctSpIni : Value}
    (aSpIni : PySem.W.findIn K (.ref CSpace) "__init__" = some (some (.ref fSpIni))) (iSpIni : PySem.W.isFn K (.ref fSpIni) = true)
    (lSpIni : K.lookup fSpIni = some ⟨ocSpIni, odSpIni, .func (PySem.W.fnOf "__init__" "Space.__init__" (defArgs sSpIni) (defBody sSpIni) (defScope sSpIni) .none kVSpIni dcSpIni pmSpIni anSpIni cdSpIni ctSpIni), slSpIni⟩) (cSpIni : PySem.W.codeIn K cdSpIni "Space.__init__" = true) (kSpIni : PySem.W.keepIn K (.ref fSpIni) = true)
    {odSpLen anSpLen : Option Addr} {slSpLen : Array (Option Value)} {ocSpLen kVSpLen dcSpLen pmSpLen cdSpLen ctSpLen : Value}
    (aSpLen : PySem.W.findIn K (.ref CSpace) "__len__" = some (some (.ref fSpLen))) (iSpLen : PySem.W.isFn K (.ref fSpLen) = true)
    (lSpLen : K.lookup fSpLen = some ⟨ocSpLen, odSpLen, .func (PySem.W.fnOf "__len__" "Space.__len__" (defArgs sSpLen) (defBody sSpLen) (defScope sSpLen) .none kVSpLen dcSpLen pmSpLen anSpLen cdSpLen ctSpLen), slSpLen⟩) (cSpLen : PySem.W.codeIn K cdSpLen "Space.__len__" = true) (kSpLen : PySem.W.keepIn K (.ref fSpLen) = true)
    {odSpBool anSpBool : Option Addr} {slSpBool : Array (Option Value)} {ocSpBool kVSpBool dcSpBool pmSpBool cdSpBool ctSpBool : Value}
    (aSpBool : PySem.W.findIn K (.ref CSpace) "__bool__" = some (some (.ref fSpBool))) (iSpBool : PySem.W.isFn K (.ref fSpBool) = true)
    (lSpBool : K.lookup fSpBool = some ⟨ocSpBool, odSpBool, .func (PySem.W.fnOf "__bool__" "Space.__bool__" (defArgs sSpBool) (defBody sSpBool) (defScope sSpBool) .none kVSpBool dcSpBool pmSpBool anSpBool cdSpBool ctSpBool), slSpBool⟩) (cSpBool : PySem.W.codeIn K cdSpBool "Space.__bool__" = true) (kSpBool : PySem.W.keepIn K (.ref fSpBool) = true)
    {odSpIn anSpIn : Option Addr} {slSpIn : Array (Option Value)} {ocSpIn kVSpIn dcSpIn pmSpIn cdSpIn ctSpIn : Value}
    (aSpIn : PySem.W.findIn K (.ref CSpace) "__contains__" = some (some (.ref fSpIn))) (iSpIn : PySem.W.isFn K (.ref fSpIn) = true)
    (lSpIn : K.lookup fSpIn = some ⟨ocSpIn, odSpIn, .func (PySem.W.fnOf "__contains__" "Space.__contains__" (defArgs sSpIn) (defBody sSpIn) (defScope sSpIn) .none kVSpIn dcSpIn pmSpIn anSpIn cdSpIn ctSpIn), slSpIn⟩) (cSpIn : PySem.W.codeIn K cdSpIn "Space.__contains__" = true) (kSpIn : PySem.W.keepIn K (.ref fSpIn) = true)
    {odSpEq anSpEq : Option Addr} {slSpEq : Array (Option Value)} {ocSpEq kVSpEq dcSpEq pmSpEq cdSpEq ctSpEq : Value}
    (aSpEq : PySem.W.findIn K (.ref CSpace) "__eq__" = some (some (.ref fSpEq))) (iSpEq : PySem.W.isFn K (.ref fSpEq) = true)
    (lSpEq : K.lookup fSpEq = some ⟨ocSpEq, odSpEq, .func (PySem.W.fnOf "__eq__" "Space.__eq__" (defArgs sSpEq) (defBody sSpEq) (defScope sSpEq) .none kVSpEq dcSpEq pmSpEq anSpEq cdSpEq ctSpEq), slSpEq⟩) (cSpEq : PySem.W.codeIn K cdSpEq "Space.__eq__" = true) (kSpEq : PySem.W.keepIn K (.ref fSpEq) = true)
    {odSpChk anSpChk : Option Addr} {slSpChk : Array (Option Value)} {ocSpChk kVSpChk dcSpChk pmSpChk cdSpChk ctSpChk : Value}
    (aSpChk : PySem.W.findIn K (.ref CSpace) "check" = some (some (.ref fSpChk))) (iSpChk : PySem.W.isFn K (.ref fSpChk) = true)
    (lSpChk : K.lookup fSpChk = some ⟨ocSpChk, odSpChk, .func (PySem.W.fnOf "check" "Space.check" (defArgs sSpChk) (defBody sSpChk) (defScope sSpChk) .none kVSpChk dcSpChk pmSpChk anSpChk cdSpChk ctSpChk), slSpChk⟩) (cSpChk : PySem.W.codeIn K cdSpChk "Space.check" = true) (kSpChk : PySem.W.keepIn K (.ref fSpChk) = true)
    {odSpOr anSpOr : Option Addr} {slSpOr : Array (Option Value)} {ocSpOr kVSpOr dcSpOr pmSpOr cdSpOr ctSpOr : Value}
    (aSpOr : PySem.W.findIn K (.ref CSpace) "__or__" = some (some (.ref fSpOr))) (iSpOr : PySem.W.isFn K (.ref fSpOr) = true)
    (lSpOr : K.lookup fSpOr = some ⟨ocSpOr, odSpOr, .func (PySem.W.fnOf "__or__" "Space.__or__" (defArgs sSpOr) (defBody sSpOr) (defScope sSpOr) .none kVSpOr dcSpOr pmSpOr anSpOr cdSpOr ctSpOr), slSpOr⟩) (cSpOr : PySem.W.codeIn K cdSpOr "Space.__or__" = true) (kSpOr : PySem.W.keepIn K (.ref fSpOr) = true)
    {odSpWith anSpWith : Option Addr} {slSpWith : Array (Option Value)} {ocSpWith kVSpWith dcSpWith pmSpWith cdSpWith ctSpWith : Value}
    (aSpWith : PySem.W.findIn K (.ref CSpace) "is_within" = some (some (.ref fSpWith))) (iSpWith : PySem.W.isFn K (.ref fSpWith) = true)
    (lSpWith : K.lookup fSpWith = some ⟨ocSpWith, odSpWith, .func (PySem.W.fnOf "is_within" "Space.is_within" (defArgs sSpWith) (defBody sSpWith) (defScope sSpWith) .none kVSpWith dcSpWith pmSpWith anSpWith cdSpWith ctSpWith), slSpWith⟩) (cSpWith : PySem.W.codeIn K cdSpWith "Space.is_within" = true) (kSpWith : PySem.W.keepIn K (.ref fSpWith) = true)
    {odSpWid anSpWid : Option Addr} {slSpWid : Array (Option Value)} {ocSpWid kVSpWid dcSpWid pmSpWid cdSpWid ctSpWid : Value}
    {restSpWid : List Value} (aSpWid : PySem.W.findIn K (.ref CSpace) "width" = some (some (.ref ppSpWid))) (iSpWid : PySem.W.specialIn K (.ref ppSpWid) "__get__" = some (some (.builtin "property.__get__"))) (tSpWid : PySem.W.takesIn K (.ref ppSpWid) = some true) (rSpWid : PySem.W.recIn K ppSpWid "property" = some (.ref fSpWid :: restSpWid))
    (lSpWid : K.lookup fSpWid = some ⟨ocSpWid, odSpWid, .func (PySem.W.fnOf "width" "Space.width" (defArgs sSpWid) (defBody sSpWid) (defScope sSpWid) .none kVSpWid dcSpWid pmSpWid anSpWid cdSpWid ctSpWid), slSpWid⟩) (cSpWid : PySem.W.codeIn K cdSpWid "Space.width" = true) (kSpWid : PySem.W.keepIn K (.ref fSpWid) = true)
    {odSpRows anSpRows : Option Addr} {slSpRows : Array (Option Value)} {ocSpRows kVSpRows dcSpRows pmSpRows cdSpRows ctSpRows : Value}
    {restSpRows : List Value} (aSpRows : PySem.W.findIn K (.ref CSpace) "rows" = some (some (.ref ppSpRows))) (iSpRows : PySem.W.specialIn K (.ref ppSpRows) "__get__" = some (some (.builtin "property.__get__"))) (tSpRows : PySem.W.takesIn K (.ref ppSpRows) = some true) (rSpRows : PySem.W.recIn K ppSpRows "property" = some (.ref fSpRows :: restSpRows))
    (lSpRows : K.lookup fSpRows = some ⟨ocSpRows, odSpRows, .func (PySem.W.fnOf "rows" "Space.rows" (defArgs sSpRows) (defBody sSpRows) (defScope sSpRows) .none kVSpRows dcSpRows pmSpRows anSpRows cdSpRows ctSpRows), slSpRows⟩) (cSpRows : PySem.W.codeIn K cdSpRows "Space.rows" = true) (kSpRows : PySem.W.keepIn K (.ref fSpRows) = true)
    (n_int : PySem.W.nsIn K mainGlobals "int" = some none)
    (n_bool : PySem.W.nsIn K mainGlobals "bool" = some none)
    (n_isinstance : PySem.W.nsIn K mainGlobals "isinstance" = some none)
    (n_len : PySem.W.nsIn K mainGlobals "len" = some none)
    (n_tuple : PySem.W.nsIn K mainGlobals "tuple" = some none)
    (n_list : PySem.W.nsIn K mainGlobals "list" = some none)
    (n_all : PySem.W.nsIn K mainGlobals "all" = some none)
    (n_abs : PySem.W.nsIn K mainGlobals "abs" = some none)
    (n_sorted : PySem.W.nsIn K mainGlobals "sorted" = some none)
    (n_zip : PySem.W.nsIn K mainGlobals "zip" = some none)
    (n_enumerate : PySem.W.nsIn K mainGlobals "enumerate" = some none)
    (n_range : PySem.W.nsIn K mainGlobals "range" = some none)
    (n_sum : PySem.W.nsIn K mainGlobals "sum" = some none)
    (n_max : PySem.W.nsIn K mainGlobals "max" = some none)
    (n_min : PySem.W.nsIn K mainGlobals "min" = some none)
    (xca : PySem.W.findIn K (.ref CSpace) "__class__" = some (some (.builtin "object.__class__"))) (xcg : PySem.W.specialIn K (.builtin "object.__class__") "__get__" = some (some (.builtin "getset_descriptor.__get__"))) (xct : PySem.W.takesIn K (.builtin "object.__class__") = some true) (xmo : PySem.W.mroIn K CSpace (.type "object") = some true) (xty : PySem.W.typeIn K (.ref CSpace) = some (.type "type"))
    (xne : PySem.W.findIn K (.ref CSpace) "__ne__" = some (some (.builtin "object.__ne__"))) (xsf : PySem.W.selfFirst K CSpace = true)
    (xf1 : PySem.W.notFirst K CSpace (.type "NoneType") = true) (xf2 : PySem.W.notFirst K CSpace (.type "int") = true) (xf3 : PySem.W.notFirst K CSpace (.type "list") = true) (xf4 : PySem.W.notFirst K CSpace (.type "tuple") = true)
    : ∃ fd : FuncData, (∀ (s : Shared) (v : Value), BindsTo s fd ⟨[v], []⟩ [("_law_script", v)]) ∧ ∀ base : Heap, K.In base → base.Ns mainGlobals mg → FnOk l.prog w K mg base CX0 11 fa fd PLaw (spLaw K) := by
  have e := hfa.symm.trans (PySem.W.mg_of X G aLaw)
  cases e
  have FIsInt := fun_mk (st := sIsInt) lIsInt cIsInt kIsInt
  have bIsInt := FIsInt.binds (ps := PIsInt) fun _ _ _ _ _ _ us hl => match us, hl with | [_], _ => rfl
  have gIsInt := PySem.W.mg_of X G aIsInt
  have FIsRow := fun_mk (st := sIsRow) lIsRow cIsRow kIsRow
  have bIsRow := FIsRow.binds (ps := PIsRow) fun _ _ _ _ _ _ us hl => match us, hl with | [_, _], _ => rfl
  have gIsRow := PySem.W.mg_of X G aIsRow
  have FCF := fun_mk (st := sCF) lCF cCF kCF
  have bCF := FCF.binds (ps := PCF) fun _ _ _ _ _ _ us hl => match us, hl with | [_, _], _ => rfl
  have gCF := PySem.W.mg_of X G aCF
  have FPrim := fun_mk (st := sPrim) lPrim cPrim kPrim
  have bPrim := FPrim.binds (ps := PPrim) fun _ _ _ _ _ _ us hl => match us, hl with | [_], _ => rfl
  have gPrim := PySem.W.mg_of X G aPrim
  have FLead := fun_mk (st := sLead) lLead cLead kLead
  have bLead := FLead.binds (ps := PLead) fun _ _ _ _ _ _ us hl => match us, hl with | [_], _ => rfl
  have gLead := PySem.W.mg_of X G aLead
  have FWo := fun_mk (st := sWo) lWo cWo kWo
  have bWo := FWo.binds (ps := PWo) fun _ _ _ _ _ _ us hl => match us, hl with | [_, _], _ => rfl
  have gWo := PySem.W.mg_of X G aWo
  have FRB := fun_mk (st := sRB) lRB cRB kRB
  have bRB := FRB.binds (ps := PRB) fun _ _ _ _ _ _ us hl => match us, hl with | [_, _], _ => rfl
  have gRB := PySem.W.mg_of X G aRB
  have FAdded := fun_mk (st := sAdded) lAdded cAdded kAdded
  have bAdded := FAdded.binds (ps := PAdded) fun _ _ _ _ _ _ us hl => match us, hl with | [_, _], _ => rfl
  have gAdded := PySem.W.mg_of X G aAdded
  have FRed := fun_mk (st := sRed) lRed cRed kRed
  have bRed := FRed.binds (ps := PRed) fun _ _ _ _ _ _ us hl => match us, hl with | [_, _], _ => rfl
  have gRed := PySem.W.mg_of X G aRed
  have FPool := fun_mk (st := sPool) lPool cPool kPool
  have bPool := FPool.binds (ps := PPool) fun _ _ _ _ _ _ us hl => match us, hl with | [_, _], _ => rfl
  have gPool := PySem.W.mg_of X G aPool
  have FTake := fun_mk (st := sTake) lTake cTake kTake
  have bTake := FTake.binds (ps := PTake) fun _ _ _ _ _ _ us hl => match us, hl with | [_, _], _ => rfl
  have gTake := PySem.W.mg_of X G aTake
  have FThin := fun_mk (st := sThin) lThin cThin kThin
  have bThin := FThin.binds (ps := PThin) fun _ _ _ _ _ _ us hl => match us, hl with | [_], _ => rfl
  have gThin := PySem.W.mg_of X G aThin
  have FRank := fun_mk (st := sRank) lRank cRank kRank
  have bRank := FRank.binds (ps := PRank) fun _ _ _ _ _ _ us hl => match us, hl with | [_], _ => rfl
  have gRank := PySem.W.mg_of X G aRank
  have FIterR := fun_mk (st := sIterR) lIterR cIterR kIterR
  have bIterR := FIterR.binds (ps := PIterR) fun _ _ _ _ _ _ us hl => match us, hl with | [_, _], _ => rfl
  have gIterR := PySem.W.mg_of X G aIterR
  have FLRows := fun_mk (st := sLRows) lLRows cLRows kLRows
  have bLRows := FLRows.binds (ps := PLRows) fun _ _ _ _ _ _ us hl => match us, hl with | [_, _, _], _ => rfl
  have gLRows := PySem.W.mg_of X G aLRows
  have FLaw := fun_mk (st := sLaw) lLaw cLaw kLaw
  have bLaw := FLaw.binds (ps := PLaw) fun _ _ _ _ _ _ us hl => match us, hl with | [_], _ => rfl
  have gLaw := PySem.W.mg_of X G aLaw
  have gSpace := PySem.W.mg_of X G aSpace
  have clSpace : Cls K CSpace := ⟨pgSpace, hdSpace, poSpace, saSpace⟩
  have meSpIni : Meth K CSpace "__init__" fSpIni := ⟨aSpIni, iSpIni, kSpIni⟩
  have FSpIni := fun_mk (st := sSpIni) lSpIni cSpIni kSpIni
  have bSpIni := FSpIni.binds (ps := PSpIni) fun _ _ _ _ _ _ us hl => match us, hl with | [_, _, _], _ => rfl
  have meSpLen : Meth K CSpace "__len__" fSpLen := ⟨aSpLen, iSpLen, kSpLen⟩
  have FSpLen := fun_mk (st := sSpLen) lSpLen cSpLen kSpLen
  have bSpLen := FSpLen.binds (ps := PSpLen) fun _ _ _ _ _ _ us hl => match us, hl with | [_], _ => rfl
  have meSpBool : Meth K CSpace "__bool__" fSpBool := ⟨aSpBool, iSpBool, kSpBool⟩
  have FSpBool := fun_mk (st := sSpBool) lSpBool cSpBool kSpBool
  have bSpBool := FSpBool.binds (ps := PSpBool) fun _ _ _ _ _ _ us hl => match us, hl with | [_], _ => rfl
  have meSpIn : Meth K CSpace "__contains__" fSpIn := ⟨aSpIn, iSpIn, kSpIn⟩
  have FSpIn := fun_mk (st := sSpIn) lSpIn cSpIn kSpIn
  have bSpIn := FSpIn.binds (ps := PSpIn) fun _ _ _ _ _ _ us hl => match us, hl with | [_, _], _ => rfl
  have meSpEq : Meth K CSpace "__eq__" fSpEq := ⟨aSpEq, iSpEq, kSpEq⟩
  have FSpEq := fun_mk (st := sSpEq) lSpEq cSpEq kSpEq
  have bSpEq := FSpEq.binds (ps := PSpEq) fun _ _ _ _ _ _ us hl => match us, hl with | [_, _], _ => rfl
  have meSpChk : Meth K CSpace "check" fSpChk := ⟨aSpChk, iSpChk, kSpChk⟩
  have FSpChk := fun_mk (st := sSpChk) lSpChk cSpChk kSpChk
  have bSpChk := FSpChk.binds (ps := PSpChk) fun _ _ _ _ _ _ us hl => match us, hl with | [_, _], _ => rfl
  have meSpOr : Meth K CSpace "__or__" fSpOr := ⟨aSpOr, iSpOr, kSpOr⟩
  have FSpOr := fun_mk (st := sSpOr) lSpOr cSpOr kSpOr
  have bSpOr := FSpOr.binds (ps := PSpOr) fun _ _ _ _ _ _ us hl => match us, hl with | [_, _], _ => rfl
  have meSpWith : Meth K CSpace "is_within" fSpWith := ⟨aSpWith, iSpWith, kSpWith⟩
  have FSpWith := fun_mk (st := sSpWith) lSpWith cSpWith kSpWith
  have bSpWith := FSpWith.binds (ps := PSpWith) fun _ _ _ _ _ _ us hl => match us, hl with | [_, _], _ => rfl
  have prSpWid : PropOf K CSpace "width" ppSpWid fSpWid := ⟨aSpWid, iSpWid, tSpWid, ⟨_, rSpWid⟩⟩
  have FSpWid := fun_mk (st := sSpWid) lSpWid cSpWid kSpWid
  have bSpWid := FSpWid.binds (ps := PSpWid) fun _ _ _ _ _ _ us hl => match us, hl with | [_], _ => rfl
  have prSpRows : PropOf K CSpace "rows" ppSpRows fSpRows := ⟨aSpRows, iSpRows, tSpRows, ⟨_, rSpRows⟩⟩
  have FSpRows := fun_mk (st := sSpRows) lSpRows cSpRows kSpRows
  have bSpRows := FSpRows.binds (ps := PSpRows) fun _ _ _ _ _ _ us hl => match us, hl with | [_], _ => rfl
  have m_int := PySem.W.mg_none_of X G n_int
  have m_bool := PySem.W.mg_none_of X G n_bool
  have m_isinstance := PySem.W.mg_none_of X G n_isinstance
  have m_len := PySem.W.mg_none_of X G n_len
  have m_tuple := PySem.W.mg_none_of X G n_tuple
  have m_list := PySem.W.mg_none_of X G n_list
  have m_all := PySem.W.mg_none_of X G n_all
  have m_abs := PySem.W.mg_none_of X G n_abs
  have m_sorted := PySem.W.mg_none_of X G n_sorted
  have m_zip := PySem.W.mg_none_of X G n_zip
  have m_enumerate := PySem.W.mg_none_of X G n_enumerate
  have m_range := PySem.W.mg_none_of X G n_range
  have m_sum := PySem.W.mg_none_of X G n_sum
  have m_max := PySem.W.mg_none_of X G n_max
  have m_min := PySem.W.mg_none_of X G n_min

  have TI : TxInt mg := ⟨m_int, m_bool, m_isinstance⟩
  have TR : TxRow mg := { toTxInt := TI, n_len := m_len, n_tuple := m_tuple, n_list := m_list, n_all := m_all, n_abs := m_abs, n_sorted := m_sorted, n_zip := m_zip, n_enumerate := m_enumerate }
  have TK : TxKer mg := { toTxRow := TR, n_range := m_range, n_sum := m_sum }
  have TL : TxLaw mg := { toTxKer := TK, n_max := m_max, n_min := m_min }
  have TS : TxS K CSpace := { cl := clSpace, ca := xca, cg := xcg, ct := xct, mo := xmo, mc := kit_self _ _, nL := noSpace_length, nB := noSpace_basis, ne := xne, sf := xsf }
  have TN : TxNo K CSpace := ⟨kit_no hdSpace xty xf1, kit_no hdSpace xty xf2, kit_no hdSpace xty xf3, kit_no hdSpace xty xf4, xf1, xf2, xf3, xf4⟩
  refine ⟨PySem.W.fnOf "law" "law" (defArgs sLaw) (defBody sLaw) (defScope sLaw) .none kVLaw dcLaw pmLaw anLaw cdLaw ctLaw, fun s v => .of_eq rfl, fun base kB gB => ?_⟩
  have GI : Has l.prog w K mg base CX0 1 "is_integer" PIsInt (spIsInt K) := ⟨_, _, ok_IsInt FIsInt TI, gIsInt, kIsInt, bIsInt⟩
  have GRw : Has l.prog w K mg base CX0 2 "is_row" PIsRow (spRowG K) := ⟨_, _, ok_IsRowG FIsRow TR GI, gIsRow, kIsRow, bIsRow⟩
  have GC : Has l.prog w K mg base CX0 1 "common_factor" PCF spCF := ⟨_, _, ok_CF FCF TR, gCF, kCF, bCF⟩
  have GPr : Has l.prog w K mg base CX0 2 "primitive" PPrim spPrim := ⟨_, _, ok_Prim FPrim TR GC, gPrim, kPrim, bPrim⟩
  have GLe : Has l.prog w K mg base CX0 1 "lead" PLead spLead := ⟨_, _, ok_Lead FLead TR, gLead, kLead, bLead⟩
  have GW : Has l.prog w K mg base CX0 3 "without" PWo spWo := ⟨_, _, ok_Wo FWo TR GLe GPr, gWo, kWo, bWo⟩
  have GB : Has l.prog w K mg base CX0 4 "reduced_by" PRB (spRB K) := ⟨_, _, ok_RB FRB TR GW GPr, gRB, kRB, bRB⟩
  have GA : Has l.prog w K mg base CX0 5 "added" PAdded (spAdded K) := ⟨_, _, ok_Added FAdded TR GW GPr GB GLe, gAdded, kAdded, bAdded⟩
  have GRd : Has l.prog w K mg base CX0 6 "reduced" PRed spRed := ⟨_, _, ok_Red FRed TR GRw GA, gRed, kRed, bRed⟩
  have GIt : Has l.prog w K mg base CX0 7 "iter_rows" PIterR spIterR := ⟨_, _, ok_IterR FIterR TR GI GRd, gIterR, kIterR, bIterR⟩
  have HC : HasC l.prog w K mg base CX0 8 "Space" CSpace PSpIni (spSpIni CSpace) := ⟨_, _, ⟨mkSpace, aSpIni, iSpIni, kcSpace⟩, ok_SpIni FSpIni TS GIt, gSpace, bSpIni⟩
  have ML : HasM l.prog w K mg base CX0 1 CSpace "__len__" PSpLen (spLenSp CSpace) := ⟨_, _, meSpLen, ok_SpLen FSpLen TR TS, bSpLen⟩
  have MB : HasM l.prog w K mg base CX0 1 CSpace "__bool__" PSpBool (spBoolSp CSpace) := ⟨_, _, meSpBool, ok_SpBool FSpBool TR TS, bSpBool⟩
  have MI : HasM l.prog w K mg base CX0 5 CSpace "__contains__" PSpIn (spInSp K CSpace) := ⟨_, _, meSpIn, ok_SpIn FSpIn TR TS GRw GLe GB, bSpIn⟩
  have ME : HasM l.prog w K mg base CX0 1 CSpace "__eq__" PSpEq (spEqSp K CSpace) := ⟨_, _, meSpEq, ok_SpEq FSpEq TR TS gSpace, bSpEq⟩
  have MC : HasM l.prog w K mg base CX0 1 CSpace "check" PSpChk (spChkSp CSpace) := ⟨_, _, meSpChk, ok_SpChk FSpChk TR TS gSpace, bSpChk⟩
  have MO : HasM l.prog w K mg base CX0 10 CSpace "__or__" PSpOr (spOrSp CSpace) := ⟨_, _, meSpOr, ok_SpOr FSpOr TS MC HC, bSpOr⟩
  have MH : HasM l.prog w K mg base CX0 6 CSpace "is_within" PSpWith (spWithSp CSpace) := ⟨_, _, meSpWith, ok_SpWith FSpWith TR TS MC MI, bSpWith⟩
  have GPo : Has l.prog w K mg base CX0 1 "_law_pool" PPool (spPoolB K) := ⟨_, _, ok_PoolB FPool TK, gPool, kPool, bPool⟩
  have GTa : Has l.prog w K mg base CX0 1 "_law_take" PTake spTake := ⟨_, _, ok_Take FTake TK, gTake, kTake, bTake⟩
  have GTh : Has l.prog w K mg base CX0 1 "_law_thin" PThin spThin := ⟨_, _, ok_Thin FThin TK, gThin, kThin, bThin⟩
  have GRa : Has l.prog w K mg base CX0 2 "_law_rank" PRank spRank := ⟨_, _, ok_Rank FRank TK GTh, gRank, kRank, bRank⟩
  have GLr : Has l.prog w K mg base CX0 2 "_law_rows" PLRows spLRows := ⟨_, _, ok_LRows FLRows TL GTa, gLRows, kLRows, bLRows⟩
  exact ok_Law FLaw TL TS TN GPo GTa GRa GLr GRd HC ⟨_, _, prSpWid, ok_SpWid FSpWid TS, bSpWid⟩ ⟨_, _, prSpRows, ok_SpRows FSpRows TR TS, bSpRows⟩ ML MB MI ME MO MH
theorem walk {l : PySem.W.OpenLaw} {q : Program} {loose : List Str} {XP : (Str → Option Value) → Heap → Prop} {YP : World → Heap → Prop} {d : DefRec} {K : Params → PySem.W.Frag} (hn : l.most = some 63) (hdf : d.params.defaults = [])
    (hY : ∀ (w : World) (h : Heap), YP w h → (K w.params).In h)
    (F : ∀ (w : World) (mg : Str → Option Value) (fa : Addr) (h : Heap), (K w.params).In h → h.Ns mainGlobals mg → mg d.name = some (.ref fa) →
      ∃ fd : FuncData, (∀ (s : Shared) (u : Value), BindsTo s fd ⟨[u], []⟩ [("_law_script", u)]) ∧ ∀ base : Heap, (K w.params).In base → base.Ns mainGlobals mg → FnOk l.prog w (K w.params) mg base CX0 11 fa fd PLaw (spLaw (K w.params))) :
    PySem.W.WalkO q loose XP YP l.row.toRowW d [] (fun f vs => PySem.call f vs) :=
  L2.walk_of (n := 63) (k := 11) (x := "_law_script") (CX := fun _ => CX0) (sp := fun w => spLaw (K w.params)) hn (by decide) hdf ⟨rfl, by decide, by decide⟩ hY F (fun _ _ a ns hl _ hS => ⟨a, ns, rfl, hS, hl, fun _ => rfl⟩) fun _ _ _ _ _ z => z
end Aon
open PySem PySem.W PyProof.Rows
set_option maxRecDepth 100000 in
set_option maxHeartbeats 0 in
theorem PySem.Challenge.cw_allornothing_k41_spans_of_rows_holds : PySem.Challenge.rw_allornothing_k41_spans_of_rows.Holds := by
  w_on; o_law; k_head; (case hw => w_witness2)
  k_fill
  refine Aon.walk (l := PySem.Challenge.rw_allornothing_k41_spans_of_rows) rfl rfl (fun w h Y => PySem.W.kIn_of Y) ?F
  case F =>
    intro w mg fa h KX G hmg
    refine' Aon.all_mk KX G hmg ?aIsInt ?lIsInt ?cIsInt ?kIsInt ?aIsRow ?lIsRow ?cIsRow ?kIsRow ?aCF ?lCF ?cCF ?kCF ?aPrim ?lPrim ?cPrim ?kPrim ?aLead ?lLead ?cLead ?kLead ?aWo ?lWo ?cWo ?kWo ?aRB ?lRB ?cRB ?kRB ?aAdded ?lAdded ?cAdded ?kAdded ?aRed ?lRed ?cRed ?kRed ?aPool ?lPool ?cPool ?kPool ?aTake ?lTake ?cTake ?kTake ?aThin ?lThin ?cThin ?kThin ?aRank ?lRank ?cRank ?kRank ?aIterR ?lIterR ?cIterR ?kIterR ?aLRows ?lLRows ?cLRows ?kLRows ?aLaw ?lLaw ?cLaw ?kLaw ?aSpace ?pgSpace ?hdSpace ?poSpace ?saSpace ?mkSpace ?kcSpace ?noSpace_length ?noSpace_basis ?aSpIni ?iSpIni ?lSpIni ?cSpIni ?kSpIni ?aSpLen ?iSpLen ?lSpLen ?cSpLen ?kSpLen ?aSpBool ?iSpBool ?lSpBool ?cSpBool ?kSpBool ?aSpIn ?iSpIn ?lSpIn ?cSpIn ?kSpIn ?aSpEq ?iSpEq ?lSpEq ?cSpEq ?kSpEq ?aSpChk ?iSpChk ?lSpChk ?cSpChk ?kSpChk ?aSpOr ?iSpOr ?lSpOr ?cSpOr ?kSpOr ?aSpWith ?iSpWith ?lSpWith ?cSpWith ?kSpWith ?aSpWid ?iSpWid ?tSpWid ?rSpWid ?lSpWid ?cSpWid ?kSpWid ?aSpRows ?iSpRows ?tSpRows ?rSpRows ?lSpRows ?cSpRows ?kSpRows ?n_int ?n_bool ?n_isinstance ?n_len ?n_tuple ?n_list ?n_all ?n_abs ?n_sorted ?n_zip ?n_enumerate ?n_range ?n_sum ?n_max ?n_min ?xca ?xcg ?xct ?xmo ?xty ?xne ?xsf ?xf1 ?xf2 ?xf3 ?xf4
    (case aIsInt => k_is)
    (case lIsInt => k_is)
    (case cIsInt => k_is)
    (case kIsInt => k_is)
    (case aIsRow => k_is)
    (case lIsRow => k_is)
    (case cIsRow => k_is)
    (case kIsRow => k_is)
    (case aCF => k_is)
    (case lCF => k_is)
    (case cCF => k_is)
    (case kCF => k_is)
    (case aPrim => k_is)
    (case lPrim => k_is)
    (case cPrim => k_is)
    (case kPrim => k_is)
    (case aLead => k_is)
    (case lLead => k_is)
    (case cLead => k_is)
    (case kLead => k_is)
    (case aWo => k_is)
    (case lWo => k_is)
    (case cWo => k_is)
    (case kWo => k_is)
    (case aRB => k_is)
    (case lRB => k_is)
    (case cRB => k_is)
    (case kRB => k_is)
    (case aAdded => k_is)
    (case lAdded => k_is)
    (case cAdded => k_is)
    (case kAdded => k_is)
    (case aRed => k_is)
    (case lRed => k_is)
    (case cRed => k_is)
    (case kRed => k_is)
    (case aPool => k_is)
    (case lPool => k_is)
    (case cPool => k_is)
    (case kPool => k_is)
    (case aTake => k_is)
    (case lTake => k_is)
    (case cTake => k_is)
    (case kTake => k_is)
    (case aThin => k_is)
    (case lThin => k_is)
    (case cThin => k_is)
    (case kThin => k_is)
    (case aRank => k_is)
    (case lRank => k_is)
    (case cRank => k_is)
    (case kRank => k_is)
    (case aIterR => k_is)
    (case lIterR => k_is)
    (case cIterR => k_is)
    (case kIterR => k_is)
    (case aLRows => k_is)
    (case lLRows => k_is)
    (case cLRows => k_is)
    (case kLRows => k_is)
    (case aLaw => k_is)
    (case lLaw => k_is)
    (case cLaw => k_is)
    (case kLaw => k_is)
    (case aSpace => k_is)
    (case pgSpace => k_is)
    (case hdSpace => k_is)
    (case poSpace => k_is)
    (case saSpace => k_is)
    (case mkSpace => k_is)
    (case kcSpace => k_is)
    (case noSpace_length => k_is)
    (case noSpace_basis => k_is)
    (case aSpIni => k_is)
    (case iSpIni => k_is)
    (case lSpIni => k_is)
    (case cSpIni => k_is)
    (case kSpIni => k_is)
    (case aSpLen => k_is)
    (case iSpLen => k_is)
    (case lSpLen => k_is)
    (case cSpLen => k_is)
    (case kSpLen => k_is)
    (case aSpBool => k_is)
    (case iSpBool => k_is)
    (case lSpBool => k_is)
    (case cSpBool => k_is)
    (case kSpBool => k_is)
    (case aSpIn => k_is)
    (case iSpIn => k_is)
    (case lSpIn => k_is)
    (case cSpIn => k_is)
    (case kSpIn => k_is)
    (case aSpEq => k_is)
    (case iSpEq => k_is)
    (case lSpEq => k_is)
    (case cSpEq => k_is)
    (case kSpEq => k_is)
    (case aSpChk => k_is)
    (case iSpChk => k_is)
    (case lSpChk => k_is)
    (case cSpChk => k_is)
    (case kSpChk => k_is)
    (case aSpOr => k_is)
    (case iSpOr => k_is)
    (case lSpOr => k_is)
    (case cSpOr => k_is)
    (case kSpOr => k_is)
    (case aSpWith => k_is)
    (case iSpWith => k_is)
    (case lSpWith => k_is)
    (case cSpWith => k_is)
    (case kSpWith => k_is)
    (case aSpWid => k_is)
    (case iSpWid => k_is)
    (case tSpWid => k_is)
    (case rSpWid => k_is)
    (case lSpWid => k_is)
    (case cSpWid => k_is)
    (case kSpWid => k_is)
    (case aSpRows => k_is)
    (case iSpRows => k_is)
    (case tSpRows => k_is)
    (case rSpRows => k_is)
    (case lSpRows => k_is)
    (case cSpRows => k_is)
    (case kSpRows => k_is)
    (case n_int => k_is)
    (case n_bool => k_is)
    (case n_isinstance => k_is)
    (case n_len => k_is)
    (case n_tuple => k_is)
    (case n_list => k_is)
    (case n_all => k_is)
    (case n_abs => k_is)
    (case n_sorted => k_is)
    (case n_zip => k_is)
    (case n_enumerate => k_is)
    (case n_range => k_is)
    (case n_sum => k_is)
    (case n_max => k_is)
    (case n_min => k_is)
    (case xca => k_is)
    (case xcg => k_is)
    (case xct => k_is)
    (case xmo => k_is)
    (case xty => k_is)
    (case xne => k_is)
    (case xsf => k_is)
    (case xf1 => k_is)
    (case xf2 => k_is)
    (case xf3 => k_is)
    (case xf4 => k_is)
#print axioms PySem.Challenge.cw_allornothing_k41_spans_of_rows_holds

