import PyProof.Rows.All
import Wide.All
import OpenK.AllK
import Wide.FinOn
import HandS.ForMost
import HandS.Wide
import HandS.IsInst
import HandS.Walk
import HandS.Flow
import HandS.Property
import HandS.Star
import HandS.DictComp
import HandS.Conv
import HandS.Zip
import HandS.SortKw
import HandS.MapSum
import HandS.SetFor
import HandS.Strs
import HandS.TryOnly
import KE.KRevSl
import PyProof.ReprRoads
import KE.GoesEnumKw
import KE.KTurns
import KE.GoesMore
import PySem.Challenge.RW_allornothing_k40_reduced_rows
set_option Elab.async false
set_option linter.all false
set_option maxRecDepth 100000
set_option maxHeartbeats 4000000
namespace Aon
open PySem L2
def topS (i : Nat) : Stmt := PySem.Challenge.pw_allornothing_k40_reduced_rows.main.body.getD i (.Pass ⟨0, 0, 0, 0⟩)
/-! ### words of this text, over HandS -/
theorem bb_int : bootBuiltins "int" = some (.type "int") := by decide +kernel
theorem bb_str : bootBuiltins "str" = some (.type "str") := by decide +kernel
theorem bb_bool : bootBuiltins "bool" = some (.type "bool") := by decide +kernel
theorem bb_list : bootBuiltins "list" = some (.type "list") := by decide +kernel
theorem bb_tuple : bootBuiltins "tuple" = some (.type "tuple") := by decide +kernel
theorem bb_len : bootBuiltins "len" = some (.builtin "len") := by decide +kernel
theorem bb_all : bootBuiltins "all" = some (.builtin "all") := by decide +kernel
theorem bb_isinstance : bootBuiltins "isinstance" = some (.builtin "isinstance") := by decide +kernel
/-- a def that stands under its name: its promise, and how it is called -/
structure Has (P : Program) (w : World) (K : PySem.W.Frag) (mg : Str → Option Value) (base : Heap) (CX : CXT) (k : Nat) (x : Str) (ps : List Str) (sp : Sp) : Prop where
  ex : ∃ (f : Addr) (fd : FuncData), FnOk P w K mg base CX k f fd ps sp ∧ mg x = some (.ref f) ∧ PySem.W.keepIn K (.ref f) = true ∧ Binds K fd ps []
section
variable {X : Cx}
theorem pe_callH {CX : CXT} {k : Nat} {x : Str} {ps : List Str} {sp : Sp} {E : XK} {e : Expr} {es : List Expr} {t : TA} {p pos : Pos} (F : Has X.prog X.w X.K X.mg X.base CX k x ps sp) (hr : Room k X.A) (hg : Gl X x) (hx : Passes CX X E) (ha : PA X (e :: es) t)
    (hd : (x == ("__debug__" : Str)) = false := by decide) (he : starEach (e :: es) X.env = (false, eval e X.env) :: starEach es X.env := by rfl) (hpl : (backTo pos (starEach es X.env)).any (·.1) = false := by rfl) :
    PE X (.Call (.Name x p) (e :: es) [] pos) (tCall sp [] E t) := by
  obtain ⟨f, fd, F, m, kp, b⟩ := F.ex
  exact pe_call F hr hg m kp b .nil hx ha hd he hpl
theorem pe_callH0 {CX : CXT} {k : Nat} {x : Str} {ps : List Str} {sp : Sp} {E : XK} {p pos : Pos} (F : Has X.prog X.w X.K X.mg X.base CX k x ps sp) (hr : Room k X.A) (hg : Gl X x) (hx : Passes CX X E) (hd : (x == ("__debug__" : Str)) = false := by decide) :
    PE X (.Call (.Name x p) [] [] pos) (tCall sp [] E tNil) := by
  obtain ⟨f, fd, F, m, kp, b⟩ := F.ex
  exact pe_call0 F hr hg m kp b .nil hx hd
theorem pe_globE {x : Str} {v : V} {pos : Pos} (hg : Gl X x) (hm : ∃ u, X.mg x = some u ∧ RelV v u) (hd : (x == ("__debug__" : Str)) = false := by decide) : PE X (.Name x pos) (tC v) := by
  obtain ⟨u, m, r⟩ := hm
  exact pe_glob hg m r hd
end
/-- a method of the class at C; a class under its name -/
structure HasM (P : Program) (w : World) (K : PySem.W.Frag) (mg : Str → Option Value) (base : Heap) (CX : CXT) (k : Nat) (C : Addr) (m : Str) (ps : List Str) (sp : Sp) : Prop where
  ex : ∃ (f : Addr) (fd : FuncData), Meth K C m f ∧ FnOk P w K mg base CX k f fd ps sp ∧ Binds K fd ps []
structure HasC (P : Program) (w : World) (K : PySem.W.Frag) (mg : Str → Option Value) (base : Heap) (CX : CXT) (k : Nat) (x : Str) (C : Addr) (ps : List Str) (sp : Sp) : Prop where
  ex : ∃ (f : Addr) (fd : FuncData), Mk K C f ∧ FnOk P w K mg base CX k f fd ps sp ∧ mg x = some (.ref C) ∧ Binds K fd ps []
section
variable {X : Cx}
theorem pe_methH {CX : CXT} {k : Nat} {C : Addr} {m : Str} {ps : List Str} {sp : Sp} {E : XK} {o e : Expr} {es : List Expr} {ta : TE} {t : TA} {apos pos : Pos} {pl : Sem Bool} (he : PE X o ta) (c : Cls X.K C) (M : HasM X.prog X.w X.K X.mg X.base CX k C m ps sp) (hr : Room k X.A) (hx : Passes CX X E)
    (ha : PA X (e :: es) t) (hst : starEach (e :: es) X.env = (false, eval e X.env) :: starEach es X.env := by rfl) (hpl : (backTo pos (starEach es X.env)).any (·.1) = false := by rfl)
    (ht : eval (.Call (.Attribute o m apos) (e :: es) [] pos) X.env = (do
      let v ← eval o X.env
      standAt apos.atName
      let (g, r) ← holding [v] (getMethod v m pl)
      callWith pos g r (backTo pos (starEach (e :: es) X.env)) (backToKw pos (keywordEach [] X.env))) := by rfl) : PE X (.Call (.Attribute o m apos) (e :: es) [] pos) (tMeth C m sp [] E ta t) := by
  obtain ⟨f, fd, hm, F, b⟩ := M.ex
  exact pe_meth (pl := pl) he c hm F hr b .nil hx ha hst hpl ht
theorem pe_methH0 {CX : CXT} {k : Nat} {C : Addr} {m : Str} {ps : List Str} {sp : Sp} {E : XK} {o : Expr} {ta : TE} {apos pos : Pos} {pl : Sem Bool} (he : PE X o ta) (c : Cls X.K C) (M : HasM X.prog X.w X.K X.mg X.base CX k C m ps sp) (hr : Room k X.A) (hx : Passes CX X E)
    (ht : eval (.Call (.Attribute o m apos) [] [] pos) X.env = (do
      let v ← eval o X.env
      standAt apos.atName
      let (g, r) ← holding [v] (getMethod v m pl)
      callWith pos g r (backTo pos (starEach [] X.env)) (backToKw pos (keywordEach [] X.env))) := by rfl) : PE X (.Call (.Attribute o m apos) [] [] pos) (tMeth C m sp [] E ta tNil) := by
  obtain ⟨f, fd, hm, F, b⟩ := M.ex
  exact pe_meth0 (pl := pl) he c hm F hr b .nil hx ht
theorem pe_makeH {CX : CXT} {k : Nat} {x : Str} {C : Addr} {ps : List Str} {sp : Sp} {E : XK} {e : Expr} {es : List Expr} {t : TA} {p pos : Pos} (M : HasC X.prog X.w X.K X.mg X.base CX k x C ps sp) (hr : Room (k + 1) X.A) (hg : Gl X x) (hx : Passes CX X E) (ha : PA X (e :: es) t)
    (hd : (x == ("__debug__" : Str)) = false := by decide) (he : starEach (e :: es) X.env = (false, eval e X.env) :: starEach es X.env := by rfl) (hpl : (backTo pos (starEach es X.env)).any (·.1) = false := by rfl) :
    PE X (.Call (.Name x p) (e :: es) [] pos) (tMake C sp [] E t) := by
  obtain ⟨f, fd, mk, F, m, b⟩ := M.ex
  exact pe_make mk F hr hg m b .nil hx ha hd he hpl
theorem pe_propH {CX : CXT} {k : Nat} {C p : Addr} {f : Str} {ps : List Str} {sp : Sp} {E : XK} {e : Expr} {ta : TE} {pos : Pos} (he : PE X e ta) (c : Cls X.K C) (M : ∃ (g : Addr) (fd : FuncData), PropOf X.K C f p g ∧ FnOk X.prog X.w X.K X.mg X.base CX k g fd ps sp ∧ Binds X.K fd ps []) (hr : Room (k + 1) X.A) (hx : Passes CX X.nox E)
    (hab : attributeBase e f X.env (eval e X.env) = eval e X.env := by rfl) : PE X (.Attribute e f pos) (tProp C sp [] E ta) := by
  obtain ⟨g, fd, hp, F, b⟩ := M
  exact pe_prop he c hp F hr b .nil hx hab
end
/-- all but p and c stands -/
def But (p c : Addr) (H H' : Hp) : Prop := ∀ b o, H b = some o → b ≠ p → b ≠ c → H' b = some o
theorem But.refl {p c : Addr} {H : Hp} : But p c H H := fun _ _ e _ _ => e
theorem But.trans {p c : Addr} {H H1 H2 : Hp} (a : But p c H H1) (b : But p c H1 H2) : But p c H H2 := fun x o e h1 h2 => b x o (a x o e h1 h2) h1 h2
theorem iteE {c : Bool} {A B : Prop} (hc : c = false) (k : B) : if c = true then A else B := by
  rw [hc]
  exact iteF k
theorem iteS {c : Bool} {A B : Prop} (hc : c = true) (k : A) : if c = true then A else B := by
  rw [hc]
  exact iteT k

/-! ### zip(a, b, strict=True): the rule, for lists and tuples -/
section
variable {prog : Program} {w : World} {A : Around} {E : Value → Shared → Prop} {s : Shared}
/-- one of the two iterators under a zip: what it walks, where it stands -/
structure ZSrc (prog : Program) (w : World) (it src : Addr) (vs : Array Value) (S : Nat → Heap → Prop) : Prop where
  item : ∀ {A : Around} {E : Value → Shared → Prop} {s : Shared} {i : Nat} {x : Value} {Q : Value → Shared → Prop}, S i s.heap → vs[i]? = some x → (∀ h', S (i + 1) h' → Heap.SameBut it s.heap h' → Q x { s with heap := h' }) → wpAny (model prog w) A (Builtin.SmallTypes.nextOf (.ref it)) Q E s
  stop : ∀ {A : Around} {E : Value → Shared → Prop} {s : Shared} {i : Nat} {Q : Value → Shared → Prop}, A.handled = none → S i s.heap → vs[i]? = none →
    (∀ h' e, Heap.ExtBut it s.heap h' → (∃ o, h'.get? e = some o ∧ o.cls = .type "StopIteration") → E (.ref e) { s with heap := h' }) → wpAny (model prog w) A (Builtin.SmallTypes.nextOf (.ref it)) Q E s
  ext : ∀ {i : Nat} {h h' : Heap}, S i h → (∀ b, b = it ∨ b = src → ∀ o, h.get? b = some o → h'.get? b = some o) → S i h'
def zsT (it src : Addr) (vs : Array Value) (i : Nat) (h : Heap) : Prop := h.IsTupleIter it src i ∧ h.IsTuple src vs
def zsL (it src : Addr) (vs : Array Value) (i : Nat) (h : Heap) : Prop := h.IsListIter it src i ∧ h.IsList src vs
theorem zsrc_T {it src : Addr} {vs : Array Value} (ne : src ≠ it) : ZSrc prog w it src vs (zsT it src vs) where
  item := fun st hx k => RZ.nextOf_tuple_item st.1 st.2 hx fun h' q sb => k h' ⟨q, st.2.extBut sb.extBut ne⟩ sb
  stop := fun hh st hx k => RZ.nextOf_tuple_end hh st.1 st.2 hx k
  ext := fun st k => ⟨st.1.at fun o q => k _ (.inl rfl) o q, let ⟨o, ho, r⟩ := st.2; ⟨o, k _ (.inr rfl) o ho, r⟩⟩
theorem zsrc_L {it src : Addr} {vs : Array Value} (ne : src ≠ it) : ZSrc prog w it src vs (zsL it src vs) where
  item := fun st hx k => wpAny_nextOf_list_item st.1 st.2 hx fun h' q sb => k h' ⟨q, st.2.extBut sb.extBut ne⟩ sb
  stop := fun hh st hx k => wpAny_nextOf_list_end hh st.1 st.2 hx k
  ext := fun st k => ⟨st.1.at fun o q => k _ (.inl rfl) o q, let ⟨o, ho, r⟩ := st.2; ⟨o, k _ (.inr rfl) o ho, r⟩⟩
/-- the strict zip's own object -/
def ZipS (h : Heap) (z TI TO : Addr) (f0 : Value) : Prop := h.get? z = some { cls := .type "zip", dict := none, data := .fields #[f0, .bool false, .bool true, .ref TI, .ref TO], slots := #[] }
theorem draw_item {it src : Addr} {vs : Array Value} {S : Nat → Heap → Prop} (Z : ZSrc prog w it src vs S) {i : Nat} {x : Value} {Q : Option Value → Shared → Prop} (st : S i s.heap) (hx : vs[i]? = some x)
    (k : ∀ h', S (i + 1) h' → Heap.SameBut it s.heap h' → Q (some x) { s with heap := h' }) : wpAny (model prog w) A (Builtin.SmallTypes.nextOrEnd (.ref it)) Q E s := by
  unfold Builtin.SmallTypes.nextOrEnd
  exact wpAny_bind (wpAny_attempt (Z.item st hx fun h' q sb => wpAny_pure (k h' q sb)))
theorem draw_stop {it src : Addr} {vs : Array Value} {S : Nat → Heap → Prop} (Z : ZSrc prog w it src vs S) {i : Nat} {Q : Option Value → Shared → Prop} (hh : A.handled = none) (st : S i s.heap) (hx : vs[i]? = none)
    (k : ∀ h', Heap.ExtBut it s.heap h' → Q none { s with heap := h' }) : wpAny (model prog w) A (Builtin.SmallTypes.nextOrEnd (.ref it)) Q E s := by
  unfold Builtin.SmallTypes.nextOrEnd
  refine wpAny_bind (wpAny_attempt (Z.stop hh st hx fun h' e eb ⟨o, ho, hc⟩ => ?_))
  refine wpAny_bind (wpAny_isInstance (T := "StopIteration") (b := true) ⟨o, ho, hc⟩ isSubtype_stop ?_)
  exact wpAny_pure (k h' eb)
variable {z TI TO i1 i2 l1 l2 : Addr} {k1 k2 : Nat} {xs ys : Array Value} {x y a b : Value} {S1 S2 : Nat → Heap → Prop}
theorem zs_item {Q : Value → Shared → Prop} (D : ZipApart z TI TO i1 i2 l1 l2) (Z1 : ZSrc prog w i1 l1 xs S1) (Z2 : ZSrc prog w i2 l2 ys S2)
    (hz : ZipS s.heap z TI TO .none) (hTI : IsPair s.heap TI (.ref i1) (.ref i2)) (hTO : IsPair s.heap TO a b) (h1 : S1 k1 s.heap) (h2 : S2 k2 s.heap) (hx : xs[k1]? = some x) (hy : ys[k2]? = some y)
    (hQ : ∀ h', ZipS h' z TI TO (rawInt s.heap.objs.size) → IsPair h' TO x y → S1 (k1 + 1) h' → S2 (k2 + 1) h' → IsPair h' s.heap.objs.size x y → h'.objs.size = s.heap.objs.size + 1 →
      (∀ c o, c ≠ z → c ≠ TO → c ≠ i1 → c ≠ i2 → s.heap.get? c = some o → h'.get? c = some o) → Q (.ref s.heap.objs.size) { s with heap := h' }) :
    wpAny (model prog w) A (Builtin.«zip.__next__» ⟨[.ref z], []⟩) (fun fin s' => ∃ v, fin = .done (.ret v) ∧ Q v s') E s := by
  have two : ∀ {c it src : Addr} {h h' : Heap}, Heap.SameBut c h h' → it ≠ c → src ≠ c → ∀ b, b = it ∨ b = src → ∀ o, h.get? b = some o → h'.get? b = some o := fun {c it src h h'} sb n1 n2 b hb o q => by
    rcases hb with rfl | rfl
    · exact sb.extBut _ _ n1 q
    · exact sb.extBut _ _ n2 q
  show wpAny _ _ (field (.ref z) 2 >>= _) _ _ _
  refine wpAny_bind (wpAny_field hz rfl (x := .bool true) rfl ?_)
  show wpAny _ _ (field (.ref z) 3 >>= _) _ _ _
  refine wpAny_bind (wpAny_field hz rfl (x := .ref TI) rfl (wpAny_bind (wpAny_seqItems hTI rfl ?_)))
  show wpAny _ _ (Builtin.SmallTypes.ownedTupleIsFree (.ref z) >>= _) _ _ _
  refine wpAny_bind ?_
  unfold Builtin.SmallTypes.ownedTupleIsFree
  refine wpAny_bind (wpAny_field hz rfl (x := .none) rfl (wpAny_pure ?_))
  simp only [if_true]
  refine wpAny_bind (wpAny_rule (wpAny_bind (wpAny_field hz rfl (x := .ref TO) rfl ?_)))
  refine wpAny_bind (wpAny_setField_rec hz (by simp) fun g1 z1 b1 => ?_)
  replace z1 : ZipS g1 z TI TO .ellipsis := z1
  refine wpAny_bind ?_
  simp only [List.zipIdx_cons, List.zipIdx_nil, List.forIn_cons, List.forIn_nil]
  refine wpAny_bind (wpAny_bind (wpAny_onRaise ?_))
  show wpAny _ _ (Builtin.SmallTypes.nextOrEnd (.ref i1)) _ _ _
  refine draw_item Z1 (Z1.ext h1 (two b1 D.i1z D.l1z)) hx fun g2 q2 b2 => ?_
  have t2 : IsPair g2 TO a b := b2.extBut _ _ D.TOi1 (b1.extBut _ _ D.TOz hTO)
  refine wpAny_bind (wpAny_seqItems t2 rfl (wpAny_bind (wpAny_updateSeq_pair t2 fun g3 t3 b3 => ?_)))
  replace t3 : IsPair g3 TO x b := t3
  refine wpAny_bind (wpAny_letGo (wpAny_pure ?_))
  refine wpAny_bind (wpAny_bind (wpAny_onRaise ?_))
  show wpAny _ _ (Builtin.SmallTypes.nextOrEnd (.ref i2)) _ _ _
  refine draw_item Z2 (Z2.ext (Z2.ext (Z2.ext h2 (two b1 D.i2z D.l2z)) (two b2 D.i12.symm D.l2i1)) (two b3 D.TOi2.symm D.l2TO)) hy fun g4 q4 b4 => ?_
  have t4 : IsPair g4 TO x b := b4.extBut _ _ D.TOi2 t3
  refine wpAny_bind (wpAny_seqItems t4 rfl (wpAny_bind (wpAny_updateSeq_pair t4 fun g5 t5 b5 => ?_)))
  replace t5 : IsPair g5 TO x y := t5
  refine wpAny_bind (wpAny_letGo (wpAny_pure (wpAny_pure ?_)))
  refine wpAny_bind (wpAny_seqItems t5 rfl (wpAny_bind (wpAny_newTuple ?_)))
  have hsz : g5.objs.size = s.heap.objs.size := by rw [b5.1, b4.1, b3.1, b2.1, b1.1]
  have z5 : ZipS g5 z TI TO .ellipsis := b5.extBut _ _ D.TOz.symm (b4.extBut _ _ D.i2z.symm (b3.extBut _ _ D.TOz.symm (b2.extBut _ _ D.i1z.symm z1)))
  have k5 : ∀ c o, c ≠ z → c ≠ TO → c ≠ i1 → c ≠ i2 → s.heap.get? c = some o → g5.get? c = some o := fun c o c1 c2 c3 c4 e =>
    b5.extBut _ _ c2 (b4.extBut _ _ c4 (b3.extBut _ _ c2 (b2.extBut _ _ c3 (b1.extBut _ _ c1 e))))
  have p5 : S1 (k1 + 1) g5 := Z1.ext (Z1.ext (Z1.ext q2 (two b3 D.TOi1.symm D.l1TO)) (two b4 D.i12 D.l1i2)) (two b5 D.TOi1.symm D.l1TO)
  have r5 : S2 (k2 + 1) g5 := Z2.ext q4 (two b5 D.TOi2.symm D.l2TO)
  have zlt : z < g5.objs.size := Heap.lt_size z5
  show wpAny _ _ (Builtin.SmallTypes.ownedTupleHandOut (.ref z) (.ref g5.objs.size) >>= _) _ _ _
  refine wpAny_bind ?_
  unfold Builtin.SmallTypes.ownedTupleHandOut
  have z6 : ZipS (g5.push { cls := .type "tuple", data := .seq #[x, y] }) z TI TO .ellipsis := Heap.get?_push_of_some _ z5
  refine wpAny_bind (wpAny_setField_rec z6 (by simp) fun g7 z7 b7 => ?_)
  replace z7 : ZipS g7 z TI TO (rawInt g5.objs.size) := z7
  refine wpAny_setField_rec z7 (by simp) fun g8 z8 b8 => ?_
  replace z8 : ZipS g8 z TI TO (rawInt g5.objs.size) := z8
  have up : ∀ c o, c ≠ z → g5.get? c = some o → g8.get? c = some o := fun c o c1 e => b8.extBut _ _ c1 (b7.extBut _ _ c1 (Heap.get?_push_of_some _ e))
  have T8 : IsPair g8 g5.objs.size x y := b8.extBut _ _ (Nat.ne_of_gt zlt) (b7.extBut _ _ (Nat.ne_of_gt zlt) (Heap.get?_push_size _ rfl))
  have n8 : g8.objs.size = g5.objs.size + 1 := by rw [b8.1, b7.1, Heap.size_push]
  rw [hsz] at z8 T8 n8
  refine wpAny_pure ⟨_, rfl, ?_⟩
  show Q (.ref g5.objs.size) _
  rw [hsz]
  refine hQ g8 z8 (up _ _ D.TOz t5) (Z1.ext p5 fun c hc o q => ?_) (Z2.ext r5 fun c hc o q => ?_) T8 n8 fun c o c1 c2 c3 c4 e => up c o c1 (k5 c o c1 c2 c3 c4 e)
  · rcases hc with rfl | rfl
    · exact up _ _ D.i1z q
    · exact up _ _ D.l1z q
  · rcases hc with rfl | rfl
    · exact up _ _ D.i2z q
    · exact up _ _ D.l2z q
theorem zs_stop {Q : PySem.Fin → Shared → Prop} (hh : A.handled = none) (D : ZipApart z TI TO i1 i2 l1 l2) (Z1 : ZSrc prog w i1 l1 xs S1) (Z2 : ZSrc prog w i2 l2 ys S2)
    (hz : ZipS s.heap z TI TO .none) (hTI : IsPair s.heap TI (.ref i1) (.ref i2)) (hTO : IsPair s.heap TO a b) (h1 : S1 k1 s.heap) (h2 : S2 k2 s.heap) (hx : xs[k1]? = none) (hy : ys[k2]? = none)
    (hE : ∀ h' e, (∀ c o, c ≠ z → c ≠ TO → c ≠ i1 → c ≠ i2 → s.heap.get? c = some o → h'.get? c = some o) → (∃ o, h'.get? e = some o ∧ o.cls = .type "StopIteration") → E (.ref e) { s with heap := h' }) :
    wpAny (model prog w) A (Builtin.«zip.__next__» ⟨[.ref z], []⟩) Q E s := by
  show wpAny _ _ (field (.ref z) 2 >>= _) _ _ _
  refine wpAny_bind (wpAny_field hz rfl (x := .bool true) rfl ?_)
  show wpAny _ _ (field (.ref z) 3 >>= _) _ _ _
  refine wpAny_bind (wpAny_field hz rfl (x := .ref TI) rfl (wpAny_bind (wpAny_seqItems hTI rfl ?_)))
  show wpAny _ _ (Builtin.SmallTypes.ownedTupleIsFree (.ref z) >>= _) _ _ _
  refine wpAny_bind ?_
  unfold Builtin.SmallTypes.ownedTupleIsFree
  refine wpAny_bind (wpAny_field hz rfl (x := .none) rfl (wpAny_pure ?_))
  simp only [if_true]
  refine wpAny_bind (wpAny_rule (wpAny_bind (wpAny_field hz rfl (x := .ref TO) rfl ?_)))
  refine wpAny_bind (wpAny_setField_rec hz (by simp) fun g1 z1 b1 => ?_)
  replace z1 : ZipS g1 z TI TO .ellipsis := z1
  refine wpAny_bind ?_
  simp only [List.zipIdx_cons, List.zipIdx_nil, List.forIn_cons, List.forIn_nil]
  refine wpAny_bind (wpAny_bind (wpAny_onRaise ?_))
  show wpAny _ _ (Builtin.SmallTypes.nextOrEnd (.ref i1)) _ _ _
  refine draw_stop Z1 hh (Z1.ext h1 fun c hc o q => ?_) hx fun g2 b2 => ?_
  · rcases hc with rfl | rfl
    · exact b1.extBut _ _ D.i1z q
    · exact b1.extBut _ _ D.l1z q
  have z2 : ZipS g2 z TI TO .ellipsis := b2 _ _ D.i1z.symm z1
  refine wpAny_bind (wpAny_setField_rec z2 (by simp) fun g3 z3 b3 => ?_)
  refine wpAny_bind ?_
  show wpAny _ _ (forIn [(Value.ref i2, 1)] PUnit.unit _ >>= _) _ _ _
  rw [List.forIn_cons]
  refine wpAny_bind (wpAny_bind (wpAny_bind (draw_stop Z2 hh (Z2.ext h2 fun c hc o q => ?_) hy fun g4 b4 => ?_)))
  · rcases hc with rfl | rfl
    · exact b3.extBut _ _ D.i2z (b2 _ _ D.i12.symm (b1.extBut _ _ D.i2z q))
    · exact b3.extBut _ _ D.l2z (b2 _ _ D.l2i1 (b1.extBut _ _ D.l2z q))
  show wpAny _ _ (pure (ForInStep.yield PUnit.unit)) _ _ _
  refine wpAny_pure ?_
  show wpAny _ _ (forIn [] PUnit.unit _) _ _ _
  rw [List.forIn_nil]
  refine wpAny_pure (wpAny_bind (wpAny_rule ?_))
  have k4 : ∀ c o, c ≠ z → c ≠ TO → c ≠ i1 → c ≠ i2 → s.heap.get? c = some o → g4.get? c = some o := fun c o c1 c2 c3 c4 q =>
    b4 _ _ c4 (b3.extBut _ _ c1 (b2 _ _ c3 (b1.extBut _ _ c1 q)))
  unfold Builtin.SmallTypes.stopIteration
  refine wpAny_bind ?_
  simp only [newExc, newTuple]
  refine wpAny_bind (wpAny_newObj_type ?_ (by size_fits))
  refine wpAny_bind (m := firstArgMember _ _) (wpAny_of_eq (a := Value.none) (by first | rfl | (simp only [firstArgMember]; rfl)) ?_)
  refine wpAny_newObj_type ?_ (by size_fits)
  simp only [raiseNew]
  refine wpAny_bind (wpAny_handled ?_)
  rw [hh]
  refine wpAny_bind (wpAny_pure (wpAny_throw ?_))
  exact hE _ _ (fun c o c1 c2 c3 c4 q => Heap.get?_push_of_some _ (Heap.get?_push_of_some _ (k4 c o c1 c2 c3 c4 q))) ⟨_, Heap.get?_push_size _ rfl, rfl⟩
theorem pyNext_zs_item {Q : Option Value → Shared → Prop} (D : ZipApart z TI TO i1 i2 l1 l2) (Z1 : ZSrc prog w i1 l1 xs S1) (Z2 : ZSrc prog w i2 l2 ys S2)
    (hz : ZipS s.heap z TI TO .none) (hTI : IsPair s.heap TI (.ref i1) (.ref i2)) (hTO : IsPair s.heap TO a b) (h1 : S1 k1 s.heap) (h2 : S2 k2 s.heap) (hx : xs[k1]? = some x) (hy : ys[k2]? = some y)
    (hQ : ∀ h', ZipS h' z TI TO (rawInt s.heap.objs.size) → IsPair h' TO x y → S1 (k1 + 1) h' → S2 (k2 + 1) h' → IsPair h' s.heap.objs.size x y → h'.objs.size = s.heap.objs.size + 1 →
      (∀ c o, c ≠ z → c ≠ TO → c ≠ i1 → c ≠ i2 → s.heap.get? c = some o → h'.get? c = some o) → Q (some (.ref s.heap.objs.size)) { s with heap := h' }) : wpAny (model prog w) A (pyNext (.ref z)) Q E s := by
  have hT : s.TypeIs (.ref z) "zip" := ⟨_, hz, rfl⟩
  unfold pyNext
  refine wpAny_bind (wpAny_attempt (wpAny_callSpecial?_slot (name := Str.ofString "__next__") hT F.slot_zip_next (wpAny_call_entry F.slot_zip_next hT F.entry_zip_next ?_ (F.args_zip_next_1 _))))
  exact zs_item D Z1 Z2 hz hTI hTO h1 h2 hx hy fun h' a1 a2 a3 a4 a5 a6 a7 => wpAny_pure (hQ h' a1 a2 a3 a4 a5 a6 a7)
theorem pyNext_zs_stop {Q : Option Value → Shared → Prop} (hh : A.handled = none) (D : ZipApart z TI TO i1 i2 l1 l2) (Z1 : ZSrc prog w i1 l1 xs S1) (Z2 : ZSrc prog w i2 l2 ys S2)
    (hz : ZipS s.heap z TI TO .none) (hTI : IsPair s.heap TI (.ref i1) (.ref i2)) (hTO : IsPair s.heap TO a b) (h1 : S1 k1 s.heap) (h2 : S2 k2 s.heap) (hx : xs[k1]? = none) (hy : ys[k2]? = none)
    (hQ : ∀ h', (∀ c o, c ≠ z → c ≠ TO → c ≠ i1 → c ≠ i2 → s.heap.get? c = some o → h'.get? c = some o) → Q none { s with heap := h' }) : wpAny (model prog w) A (pyNext (.ref z)) Q E s := by
  have hT : s.TypeIs (.ref z) "zip" := ⟨_, hz, rfl⟩
  unfold pyNext
  refine wpAny_bind (wpAny_attempt (wpAny_callSpecial?_slot (name := Str.ofString "__next__") hT F.slot_zip_next (wpAny_call_entry F.slot_zip_next hT F.entry_zip_next ?_ (F.args_zip_next_1 _))))
  refine zs_stop hh D Z1 Z2 hz hTI hTO h1 h2 hx hy fun h' e hk ⟨o, ho, hc⟩ => ?_
  refine wpAny_bind (wpAny_isInstance (T := "StopIteration") (b := true) ⟨o, ho, hc⟩ isSubtype_stop ?_)
  exact wpAny_pure (hQ _ hk)
theorem letGo_zs {elts : List Expr} {m : Nat} {pos : Pos} {T : Addr} {Q : Unit → Shared → Prop} (hz : ZipS s.heap z TI TO (rawInt T)) (hQ : ∀ h', ZipS h' z TI TO .none → Heap.SameBut z s.heap h' → Q () { s with heap := h' }) :
    wpAny (model prog w) A (letOwnedTupleGo (.Tuple elts m pos) (.ref z) (.ref T)) Q E s := by
  unfold letOwnedTupleGo
  refine wpAny_bind (wpAny_load hz ?_)
  dsimp only
  rw [if_pos (by simp)]
  refine wpAny_bind (wpAny_rule ?_)
  exact wpAny_setField_rec hz (by simp) fun h' z' b' => hQ h' z' b'
theorem iter_zs {f0 : Value} {Q : Value → Shared → Prop} (hz : ZipS s.heap z TI TO f0) (h : Q (.ref z) s) : wpAny (model prog w) A (pyIter (.ref z)) Q E s := by
  have hT : s.TypeIs (.ref z) "zip" := ⟨_, hz, rfl⟩
  refine wpAny_pyIter_slot hT F.slot_zip_iter (wpAny_call_entry F.slot_zip_iter hT F.entry_zip_iter ?_ (F.args_zip_iter_1 _))
  exact wpAny_pure ⟨_, rfl, "zip", _, hT, F.slot_zip_next.lookup, h⟩
end

/-! calling it -/
theorem tcall_zs (a b v : Value) : checkTypeCall "zip" ⟨[a, b], [(Str.ofString "strict", v)]⟩ = pure () := by kernel_rfl
theorem ncall_zs (a b v : Value) : checkBuiltinCall "zip.__new__" ⟨[.type "zip", a, b], [(Str.ofString "strict", v)]⟩ = pure () := by kernel_rfl
theorem icall_zs (o a b v : Value) : argsOk "object.__init__" ⟨[o, a, b], [(Str.ofString "strict", v)]⟩ := by unfold argsOk; kernel_rfl
/-- the objects that a strict zip lays down -/
def zsHeap (h : Heap) (o1 o2 : Obj) : Heap :=
  ((((h.push o1).push o2).push { cls := .type "tuple", data := .seq #[.ref h.objs.size, .ref (h.push o1).objs.size] }).push { cls := .type "tuple", data := .seq #[.none, .none] }).push
    { cls := .type "zip", data := .fields #[.none, .bool false, .bool true, .ref ((h.push o1).push o2).objs.size, .ref (((h.push o1).push o2).push { cls := .type "tuple", data := .seq #[.ref h.objs.size, .ref (h.push o1).objs.size] }).objs.size] }
def itO (t : Bool) (a : Addr) : Obj := { cls := .type (if t = true then "tuple_iterator" else "list_iterator"), data := .fields #[.ref a, .int 0 0] }
def isO (t : Bool) (h : Heap) (a : Addr) (vs : Array Value) : Prop := if t = true then h.IsTuple a vs else h.IsList a vs
theorem isO_push {t : Bool} {h : Heap} {a : Addr} {vs : Array Value} (x : isO t h a vs) (o : Obj) : isO t (h.push o) a vs := by
  cases t with
  | true => exact Heap.IsTuple.push x o
  | false =>
    obtain ⟨o', ho, r⟩ := x
    exact ⟨o', Heap.get?_push_of_some o ho, r⟩
theorem isO_iter {prog : Program} {w : World} {A : Around} {E : Value → Shared → Prop} {t : Bool} {a : Addr} {vs : Array Value} {s : Shared} {Q : Value → Shared → Prop} (x : isO t s.heap a vs) (h : Q (.ref s.heap.objs.size) { s with heap := s.heap.push (itO t a) }) : wpAny (model prog w) A (pyIter (.ref a)) Q E s := by
  cases t with
  | true => exact wpAny_pyIter_tuple x h
  | false => exact wpAny_pyIter_list x h
theorem meets_zs (t1 t2 : Bool) (a b : Addr) (xs ys : Array Value) : Meets (Builtin.«zip.__new__» ⟨[.type "zip", .ref a, .ref b], [(Str.ofString "strict", .bool true)]⟩)
    (fun _ R s => isO t1 s.heap a xs ∧ isO t2 s.heap b ys ∧ R (.ok (.ret (.ref (s.heap.objs.size + 4)))) { s with heap := zsHeap s.heap (itO t1 a) (itO t2 b) }) :=
  .of_wp fun prog w A R s h => by
    obtain ⟨hp, g, d, tk, os⟩ := s
    obtain ⟨q1, q2, h⟩ := h
    have hsub := sub_zip
    have k1 : ∀ {A' : Around} {E : Value → Shared → Prop} {Q : Value → Shared → Prop}, Q (.ref hp.objs.size) ⟨hp.push (itO t1 a), g, d, tk, os⟩ → wpAny (model prog w) A' (pyIter (.ref a)) Q E ⟨hp, g, d, tk, os⟩ := fun q => isO_iter (s := ⟨hp, g, d, tk, os⟩) q1 q
    have k2 : ∀ {A' : Around} {E : Value → Shared → Prop} {Q : Value → Shared → Prop}, Q (.ref (hp.push (itO t1 a)).objs.size) ⟨(hp.push (itO t1 a)).push (itO t2 b), g, d, tk, os⟩ → wpAny (model prog w) A' (pyIter (.ref b)) Q E ⟨hp.push (itO t1 a), g, d, tk, os⟩ := fun q => isO_iter (s := ⟨hp.push (itO t1 a), g, d, tk, os⟩) (isO_push q2 _) q
    have e2 : (Str.ofString "strict" != ("strict" : Str)) = false := by decide +kernel
    wp_walk using k1, k2
    have e : ∀ o1 o2 o3 o4 : Obj, ((((hp.push o1).push o2).push o3).push o4).objs.size = hp.objs.size + 4 := fun _ _ _ _ => by simp only [Heap.size_push]
    exact ⟨.ref (hp.objs.size + 4), congrArg (fun n => PySem.Fin.done (Flow.ret (Value.ref n))) (e _ _ _ _), h⟩
section
variable {prog : Program} {w : World} {A : Around} {E : Value → Shared → Prop} {s : Shared}
theorem call_zs {t1 t2 : Bool} {a b : Addr} {xs ys : Array Value} {Q : Value → Shared → Prop} (q1 : isO t1 s.heap a xs) (q2 : isO t2 s.heap b ys)
    (h : ∀ h', ZipS h' (s.heap.objs.size + 4) (s.heap.objs.size + 2) (s.heap.objs.size + 3) .none → IsPair h' (s.heap.objs.size + 2) (.ref s.heap.objs.size) (.ref (s.heap.objs.size + 1)) →
      IsPair h' (s.heap.objs.size + 3) .none .none → h'.get? s.heap.objs.size = some (itO t1 a) → h'.get? (s.heap.objs.size + 1) = some (itO t2 b) →
      (∀ c o, s.heap.get? c = some o → h'.get? c = some o) → Q (.ref (s.heap.objs.size + 4)) { s with heap := h' }) :
    wpAny (model prog w) A (call (.type "zip") [.ref a, .ref b] [(Str.ofString "strict", .bool true)]) Q E s := by
  refine callType_newKw F.called_zip (by decide) (tcall_zs _ _ _) (ncall_zs _ _ _) (fun obj => icall_zs obj _ _ _) F.entry_zip_new (meets_zs t1 t2 a b xs ys) ⟨q1, q2, ?_⟩
  have z1 : (s.heap.push (itO t1 a)).objs.size = s.heap.objs.size + 1 := Heap.size_push ..
  have z2 : ((s.heap.push (itO t1 a)).push (itO t2 b)).objs.size = s.heap.objs.size + 2 := by rw [Heap.size_push, z1]
  have z3 : ∀ o, (((s.heap.push (itO t1 a)).push (itO t2 b)).push o).objs.size = s.heap.objs.size + 3 := fun o => by rw [Heap.size_push, z2]
  have z4 : ∀ o o', ((((s.heap.push (itO t1 a)).push (itO t2 b)).push o).push o').objs.size = s.heap.objs.size + 4 := fun o o' => by rw [Heap.size_push, z3]
  have g5 : ∀ o o' o'', o''.isFreed = false → (((((s.heap.push (itO t1 a)).push (itO t2 b)).push o).push o').push o'').get? (s.heap.objs.size + 4) = some o'' := fun o o' o'' hf => by rw [← z4 o o']; exact Heap.get?_push_size _ hf
  have g4 : ∀ o o' o'', o'.isFreed = false → (((((s.heap.push (itO t1 a)).push (itO t2 b)).push o).push o').push o'').get? (s.heap.objs.size + 3) = some o' := fun o o' o'' hf => by rw [← z3 o]; exact Heap.get?_push_of_some _ (Heap.get?_push_size _ hf)
  have g3 : ∀ o o' o'', o.isFreed = false → (((((s.heap.push (itO t1 a)).push (itO t2 b)).push o).push o').push o'').get? (s.heap.objs.size + 2) = some o := fun o o' o'' hf => by rw [← z2]; exact Heap.get?_push_of_some _ (Heap.get?_push_of_some _ (Heap.get?_push_size _ hf))
  have g2 : ∀ o o' o'', (((((s.heap.push (itO t1 a)).push (itO t2 b)).push o).push o').push o'').get? (s.heap.objs.size + 1) = some (itO t2 b) := fun o o' o'' => by rw [← z1]; exact Heap.get?_push_of_some _ (Heap.get?_push_of_some _ (Heap.get?_push_of_some _ (Heap.get?_push_size _ rfl)))
  have g1 : ∀ o o' o'', (((((s.heap.push (itO t1 a)).push (itO t2 b)).push o).push o').push o'').get? s.heap.objs.size = some (itO t1 a) := fun o o' o'' => Heap.get?_push_of_some _ (Heap.get?_push_of_some _ (Heap.get?_push_of_some _ (Heap.get?_push_of_some _ (Heap.get?_push_size _ rfl))))
  have g5' := g5 { cls := .type "tuple", data := .seq #[.ref s.heap.objs.size, .ref (s.heap.push (itO t1 a)).objs.size] } { cls := .type "tuple", data := .seq #[.none, .none] } { cls := .type "zip", data := .fields #[.none, .bool false, .bool true, .ref ((s.heap.push (itO t1 a)).push (itO t2 b)).objs.size, .ref (((s.heap.push (itO t1 a)).push (itO t2 b)).push { cls := .type "tuple", data := .seq #[.ref s.heap.objs.size, .ref (s.heap.push (itO t1 a)).objs.size] }).objs.size] } rfl
  have g3' := g3 { cls := .type "tuple", data := .seq #[.ref s.heap.objs.size, .ref (s.heap.push (itO t1 a)).objs.size] } { cls := .type "tuple", data := .seq #[.none, .none] } { cls := .type "zip", data := .fields #[.none, .bool false, .bool true, .ref ((s.heap.push (itO t1 a)).push (itO t2 b)).objs.size, .ref (((s.heap.push (itO t1 a)).push (itO t2 b)).push { cls := .type "tuple", data := .seq #[.ref s.heap.objs.size, .ref (s.heap.push (itO t1 a)).objs.size] }).objs.size] } rfl
  refine ⟨⟨_, g5', rfl⟩, h _ ?_ ?_ (g4 _ _ _ rfl) (g1 _ _ _) (g2 _ _ _) fun c o q => Heap.get?_push_of_some _ (Heap.get?_push_of_some _ (Heap.get?_push_of_some _ (Heap.get?_push_of_some _ (Heap.get?_push_of_some _ q))))⟩
  · have q := g5'
    conv at q => rhs; rw [z2, z3]
    exact q
  · have q := g3'
    conv at q => rhs; rw [z1]
    exact q
end
/-! callWith of a built-in class with keywords -/
section
variable {M : Model} {A : Around} {E : Value → Shared → Prop} {s : Shared} {env : Env}
theorem cw_typeKw {pos : Pos} {T : String} {e : Expr} {rest : List Expr} {kws : List Keyword} {Q : Value → Shared → Prop}
    (h : wpAny M A (spliced (backTo pos (starEach (e :: rest) env))) (fun vs s₁ => wpAny M A (evalAll ((backToKw pos (keywordEach kws env)).map (·.2)))
      (fun kvs s₂ => wpAny M A (call (.type T) vs (((backToKw pos (keywordEach kws env)).filterMap (·.1)).zip kvs)) Q E s₂) E s₁) E s)
    (he : starEach (e :: rest) env = (false, eval e env) :: starEach rest env) (hp : (backTo pos (starEach (e :: rest) env)).any (·.1) = false)
    (ha : (backToKw pos (keywordEach kws env)).all (·.1.isSome) = true) (hk : (backToKw pos (keywordEach kws env)).any (·.1.isNone) = false) :
    wpAny M A (callWith pos (.type T) [] (backTo pos (starEach (e :: rest) env)) (backToKw pos (keywordEach kws env))) Q E s := by
  unfold callWith
  refine wpAny_bind (wpAny_holding (PyProof.Rows.evalArgs_kw2 ha (wpAny_mono h (fun vs s1 h1 => wpAny_mono h1 (fun kvs s2 h2 => wpAny_bind (wpAny_standAt ?_)) fun _ _ x => x) fun _ _ x => x) he))
  simp only [hp, hk, Bool.or_false]
  refine wpAny_bind (wpAny_pure ?_)
  exact wpAny_bind (wpAny_mono h2 (fun r s3 hr => wpAny_bind (wpAny_holding (wpAny_point (wpAny_pure hr)))) fun _ _ x => x)
end
/-! the walk -/
/-- a list (t false) or a tuple (t true) of the heap -/
def SqB (K : PySem.W.Frag) (t : Bool) (H : Hp) (a : Addr) (xs : List V) : Prop := if t = true then SqT K H a xs else SqL K H a xs
def ItS (K : PySem.W.Frag) (t1 t2 : Bool) (a b : Addr) : It :=
  ⟨fun i H => ∃ (xs ys : List V) (x y : V), SqB K t1 H a xs ∧ SqB K t2 H b ys ∧ xs[i]? = some x ∧ ys[i]? = some y,
    fun i H v H' => ∃ T x y, v = .ref T ∧ H T = none ∧ H' = upd H T (.tup [x, y]) ∧ (∀ xs, SqB K t1 H a xs → xs[i]? = some x) ∧ ∀ ys, SqB K t2 H b ys → ys[i]? = some y,
    fun i H => ∃ xs ys : List V, SqB K t1 H a xs ∧ SqB K t2 H b ys ∧ xs.length ≤ i ∧ ys.length ≤ i⟩
def zsB (t : Bool) (it src : Addr) (i : Nat) (h : Heap) : Prop := if t = true then h.IsTupleIter it src i else h.IsListIter it src i
section
variable {X : Cx} {pins : List (Addr × Obj)} {σ : L2.St} {H : Hp} {s : Shared}
theorem sqb_at {t : Bool} {a : Addr} {xs : List V} (I : Inv X pins σ H s) (h : SqB X.K t H a xs) : ∃ its : List Value, Vals xs its ∧ isO t s.heap a its.toArray ∧ a < s.heap.objs.size := by
  cases t with
  | true =>
    obtain ⟨its, rv, p, _⟩ := I.tuple h
    obtain ⟨o, ho, _⟩ := id p
    exact ⟨its, rv, p, Heap.lt_size ho⟩
  | false =>
    obtain ⟨its, rv, p, _⟩ := I.list h
    exact ⟨its, rv, p.isList, p.lt⟩
theorem sqb_inj {t : Bool} {a : Addr} {xs ys : List V} (I : Inv X pins σ H s) (h : SqB X.K t H a xs) (k : SqB X.K t H a ys) : xs = ys := by
  cases t with
  | true => exact I.tuple_inj h k
  | false => exact I.list_inj h k
end
theorem zsrc_B {prog : Program} {w : World} {t : Bool} {it src : Addr} {vs : Array Value} (ne : src ≠ it) : ZSrc prog w it src vs (fun i h => zsB t it src i h ∧ isO t h src vs) := by
  cases t with
  | true => exact zsrc_T ne
  | false => exact zsrc_L ne
theorem zsB_at {t : Bool} {it src : Addr} {i : Nat} {h h' : Heap} (x : zsB t it src i h) (e : ∀ o, h.get? it = some o → h'.get? it = some o) : zsB t it src i h' := by
  cases t with
  | true => exact Heap.IsTupleIter.at x e
  | false => exact Heap.IsListIter.at x e
theorem zsB_obj {t : Bool} {it src : Addr} {i : Nat} {h : Heap} (x : zsB t it src i h) : ∃ o, h.get? it = some o ∧ ∀ v, o.data ≠ .cell v := by
  cases t with
  | true => obtain ⟨o, e, _, d⟩ := x; exact ⟨o, e, fun v q => by rw [d] at q; cases q⟩
  | false => obtain ⟨o, e, _, d⟩ := x; exact ⟨o, e, fun v q => by rw [d] at q; cases q⟩
theorem turn_zs {P : Program} {w : World} {K : PySem.W.Frag} {elts : List Expr} {kk : Nat} {tpos : Pos} {t1 t2 : Bool} {a b z TI TO i1 i2 : Addr} (D : ZipApart z TI TO i1 i2 a b) :
    Turn P w K (.Tuple elts kk tpos) (ItS K t1 t2 a b) [z, TI, TO, i1, i2] z (fun i h => ZipS h z TI TO .none ∧ IsPair h TI (.ref i1) (.ref i2) ∧ (∃ x y, IsPair h TO x y) ∧ zsB t1 i1 a i h ∧ zsB t2 i2 b i h) where
  mem := by simp
  obj := fun i h st c hc => by
    obtain ⟨hz, hTI, ⟨x, y, hTO⟩, h1, h2⟩ := st
    simp only [List.mem_cons, List.not_mem_nil, or_false] at hc
    rcases hc with rfl | rfl | rfl | rfl | rfl
    · exact ⟨_, hz, fun v q => nomatch q⟩
    · exact ⟨_, hTI, fun v q => nomatch q⟩
    · exact ⟨_, hTO, fun v q => nomatch q⟩
    · exact zsB_obj h1
    · exact zsB_obj h2
  keep := fun i h h' st k => by
    obtain ⟨hz, hTI, ⟨x, y, hTO⟩, h1, h2⟩ := st
    exact ⟨k z (by simp) _ hz, k TI (by simp) _ hTI, ⟨x, y, k TO (by simp) _ hTO⟩, zsB_at h1 fun o q => k i1 (by simp) o q, zsB_at h2 fun o q => k i2 (by simp) o q⟩
  item := by
    intro X hP hw hK hc i pins s σ H E I hf st hg
    subst hP hw hK
    obtain ⟨hz, hTI, ⟨x0, y0, hTO⟩, h1, h2⟩ := st
    obtain ⟨xs, ys, x, y, hqx, hqy, hx, hy⟩ := hg
    obtain ⟨its, rv, p, _⟩ := sqb_at I hqx
    obtain ⟨its2, rv2, p2, _⟩ := sqb_at I hqy
    obtain ⟨u, hu, ru⟩ := rv.get hx
    obtain ⟨u2, hu2, ru2⟩ := rv2.get hy
    have hzl : z < s.heap.objs.size := Heap.lt_size hz
    refine pyNext_zs_item D (zsrc_B D.l1i1) (zsrc_B D.l2i2) hz hTI hTO ⟨h1, p⟩ ⟨h2, p2⟩ (x := u) (y := u2) (by simpa using hu) (by simpa using hu2) fun h' z' TO' h1' h2' hT hsz hk => ?_
    refine ⟨_, rfl, letGo_zs (s := { s with heap := h' }) z' fun h'' z'' sb => ?_⟩
    have hT2 : h''.get? s.heap.objs.size = some { cls := .type "tuple", data := .seq #[u, u2] } := (sb.2 _ (Nat.ne_of_gt hzl)).trans hT
    have new : ObjOk X.prog X.w (upd H s.heap.objs.size (.tup [x, y])) h'' s.heap.objs.size (.tup [x, y]) := ⟨by show 2 ≤ sizeLine; decide, [u, u2], .cons ru (.cons ru2 .nil), ⟨_, hT2, rfl, _, rfl⟩⟩
    have all : ∀ c o, c ∉ [z, TI, TO, i1, i2] → s.heap.get? c = some o → h''.get? c = some o := fun c o hb q => by
      simp only [List.mem_cons, List.not_mem_nil, or_false, not_or] at hb
      exact (sb.2 c hb.1).trans (hk c o hb.1 hb.2.2.1 hb.2.2.2.1 hb.2.2.2.2 q)
    have I1 : Inv X pins σ (upd H s.heap.objs.size (.tup [x, y])) { s with heap := h'' } := I.turnedNew (t' := s.toks) (ch := [z, TI, TO, i1, i2]) all hf (Nat.le_refl _) new
    refine ⟨.ref s.heap.objs.size, _, I1, rfl, ⟨_, x, y, rfl, I.hok.fresh (Nat.le_refl _), rfl, fun l hl => by rw [sqb_inj I hl hqx]; exact hx, fun l hl => by rw [sqb_inj I hl hqy]; exact hy⟩, ⟨z'', ?_, ⟨u, u2, ?_⟩, ?_, ?_⟩, fun c hcm => ?_⟩
    · exact (sb.2 _ D.TIz).trans (hk _ _ D.TIz D.TITO D.TIi1 D.TIi2 hTI)
    · exact (sb.2 _ D.TOz).trans TO'
    · exact zsB_at h1'.1 fun o q => (sb.2 _ D.i1z).trans q
    · exact zsB_at h2'.1 fun o q => (sb.2 _ D.i2z).trans q
    · have hlt : c < s.heap.objs.size := by
        simp only [List.mem_cons, List.not_mem_nil, or_false] at hcm
        rcases hcm with rfl | rfl | rfl | rfl | rfl
        · exact hzl
        · exact Heap.lt_size hTI
        · exact Heap.lt_size hTO
        · obtain ⟨_, e, _⟩ := zsB_obj h1; exact Heap.lt_size e
        · obtain ⟨_, e, _⟩ := zsB_obj h2; exact Heap.lt_size e
      rw [upd_ne (Nat.ne_of_lt hlt)]
      exact (hf c hcm).1
  done := by
    intro X hP hw hK hc i pins s σ H E I hf st hg
    subst hP hw hK
    obtain ⟨hz, hTI, ⟨x0, y0, hTO⟩, h1, h2⟩ := st
    obtain ⟨xs, ys, hqx, hqy, n1, n2⟩ := hg
    obtain ⟨its, rv, p, _⟩ := sqb_at I hqx
    obtain ⟨its2, rv2, p2, _⟩ := sqb_at I hqy
    have l1 := rv.length
    have l2 := rv2.length
    exact pyNext_zs_stop (I.ok.hd hc) D (zsrc_B D.l1i1) (zsrc_B D.l2i2) hz hTI hTO ⟨h1, p⟩ ⟨h2, p2⟩ (by simp; omega) (by simp; omega) fun h' hk => ⟨rfl, I.turnedL (t' := s.toks) (ch := [z, TI, TO, i1, i2]) (fun c o hb q => by
      simp only [List.mem_cons, List.not_mem_nil, or_false, not_or] at hb
      exact hk c o hb.1 hb.2.2.1 hb.2.2.2.1 hb.2.2.2.2 q) hf⟩
  self := fun A i s Q E st h => iter_zs st.1 h
def iZipS (K : PySem.W.Frag) (t1 t2 : Bool) (ta tk : TA) : TI := fun σ H R => ta σ H fun vs H1 => tk σ H1 fun zs H2 => ∃ a b xs ys, zs = [.bl true] ∧ vs = [.ref a, .ref b] ∧ SqB K t1 H2 a xs ∧ SqB K t2 H2 b ys ∧ R (ItS K t1 t2 a b) H2
theorem pi_zipS {X : Cx} (t1 t2 : Bool) {e e2 : Expr} {ta tk : TA} {p pos tpos : Pos} {elts : List Expr} {kk : Nat} {kws : List Keyword} (hg : Gl X "zip") (hm : X.mg "zip" = none) (ha : PA X [e, e2] ta) (hk : PK X kws tk)
    (hs : starEach [e, e2] X.env = (false, eval e X.env) :: starEach [e2] X.env := by rfl) (hpl : (backTo pos (starEach [e, e2] X.env)).any (·.1) = false := by rfl)
    (hall : (backToKw pos (keywordEach kws X.env)).all (·.1.isSome) = true := by rfl) (hnone : (backToKw pos (keywordEach kws X.env)).any (·.1.isNone) = false := by rfl) (hks : (backToKw pos (keywordEach kws X.env)).filterMap (·.1) = [Str.ofString "strict"] := by rfl) :
    PI X (.Tuple elts kk tpos) (.Call (.Name "zip" p) [e, e2] kws pos) (iZipS X.K t1 t2 ta tk) := by
  refine ⟨fun pins s σ H R I h => ?_⟩
  refine wpAny_Call_Name_kw (ld_blt I hg hm PyProof.Rows.boot_zip ?_)
  refine cw_typeKw (thn (ha.run pos pins s σ H _ I h) fun us s1 ⟨vs, H1, I1, r1, q1⟩ => thn (hk.run pos pins s1 σ H1 _ I1 q1) fun ws s2 ⟨zs, H2, I2, r2, q2⟩ => ?_) hs hpl hall hnone
  rw [hks]
  obtain ⟨a, b, xs, ys, rfl, rfl, hqx, hqy, q⟩ := q2
  obtain ⟨w1, rfl, e1⟩ := vals1 r2
  obtain rfl : w1 = Value.bool true := e1
  obtain ⟨u1, u2, rfl, c1, c2⟩ := vals2 r1
  cases c1
  cases c2
  have fresh5 : ∀ c, c ∈ [s2.heap.objs.size + 4, s2.heap.objs.size + 2, s2.heap.objs.size + 3, s2.heap.objs.size, s2.heap.objs.size + 1] → FpOk X pins H2 c := fun c hcm => by
    have hle : s2.heap.objs.size ≤ c := by
      simp only [List.mem_cons, List.not_mem_nil, or_false] at hcm
      rcases hcm with rfl | rfl | rfl | rfl | rfl <;> exact (by first | exact Nat.le_refl _ | exact Nat.le_add_right _ _)
    exact I2.fpOk hle (I2.hok.fresh hle)
  obtain ⟨its, rv, p1, l1⟩ := sqb_at I2 hqx
  obtain ⟨its2, rv2, p2, l2⟩ := sqb_at I2 hqy
  refine call_zs p1 p2 fun h' hz hTI hTO g1 g2 hk => iter_zs hz ?_
  have I3 : Inv X pins σ H2 { s2 with heap := h' } := I2.kept (t' := s2.toks) hk
  refine ⟨s2.heap.objs.size + 4, [s2.heap.objs.size + 4, s2.heap.objs.size + 2, s2.heap.objs.size + 3, s2.heap.objs.size, s2.heap.objs.size + 1], _, _, H2, rfl, I3, turn_zs (t1 := t1) (t2 := t2) (PySem.W.ktu_apart s2.heap.objs.size a b l1 l2), ⟨hz, hTI, ⟨_, _, hTO⟩, ?_, ?_⟩, fresh5, q⟩
  · cases t1 with
    | true => exact ⟨_, g1, rfl, rfl⟩
    | false => exact ⟨_, g1, rfl, rfl⟩
  · cases t2 with
    | true => exact ⟨_, g2, rfl, rfl⟩
    | false => exact ⟨_, g2, rfl, rfl⟩
theorem walk_zs {K : PySem.W.Frag} {t1 t2 : Bool} {a b : Addr} {xs ys : List V} (hl : xs.length = ys.length) : Walk (ItS K t1 t2 a b) xs.length (fun H => SqB K t1 H a xs ∧ SqB K t2 H b ys) (fun i H v H' => ∃ T x y, v = .ref T ∧ H T = none ∧ H' = upd H T (.tup [x, y]) ∧ xs[i]? = some x ∧ ys[i]? = some y) := by
  refine ⟨fun i _ hi q => ⟨xs, ys, xs[i], ys[i]'(by omega), q.1, q.2, by simp [hi], by simp [show i < ys.length by omega]⟩, fun _ q => ⟨xs, ys, q.1, q.2, Nat.le_refl _, by omega⟩, fun i H v H' _ q w => ?_⟩
  obtain ⟨T, x, y, h1, h2, h3, h4, h5⟩ := w
  exact ⟨T, x, y, h1, h2, h3, h4 xs q.1, h5 ys q.2⟩

/-! ### enumerate(t), t a tuple -/
set_option maxHeartbeats 1000000 in
theorem meets_enumT (a : Addr) (xs : Array Value) : Meets (Builtin.«enumerate.__new__» ⟨[.type "enumerate", .ref a], []⟩) (fun _ R s => s.heap.IsTuple a xs ∧
    R (.ok (.ret (.ref (s.heap.objs.size + 1)))) { s with heap := (s.heap.push { cls := .type "tuple_iterator", data := .fields #[.ref a, .int 0 0] }).push { cls := .type "enumerate", data := .fields #[.none, .bool false, .ref s.heap.objs.size, rawInt 0, .none, .none] } }) :=
  .of_wp fun prog w A R s h => by
    obtain ⟨hp, g, d, tk, os⟩ := s
    obtain ⟨h1, h⟩ := h
    have hsub := sub_enumerate
    have e : ∀ o : Obj, (hp.push o).objs.size = hp.objs.size + 1 := fun _ => Heap.size_push ..
    have k1 : ∀ {A' : Around} {E : Value → Shared → Prop} {Q : Value → Shared → Prop}, Q (.ref hp.objs.size) ⟨hp.push { cls := .type "tuple_iterator", data := .fields #[.ref a, .int 0 0] }, g, d, tk, os⟩ → wpAny (model prog w) A' (pyIter (.ref a)) Q E ⟨hp, g, d, tk, os⟩ := fun q => wpAny_pyIter_tuple (s := ⟨hp, g, d, tk, os⟩) h1 q
    wp_walk using k1
    refine wpAny_stack_any fun st => wpAny_pure ?_
    split
    · rename_i c _ _ _ _ _
      cases (c == Value.type "enumerate")
      · wp_walk using k1
        exact ⟨.ref (hp.objs.size + 1), congrArg (fun n => PySem.Fin.done (Flow.ret (Value.ref n))) (e _), h⟩
      · wp_walk using k1
        exact ⟨.ref (hp.objs.size + 1), congrArg (fun n => PySem.Fin.done (Flow.ret (Value.ref n))) (e _), h⟩
    · wp_walk using k1
      exact ⟨.ref (hp.objs.size + 1), congrArg (fun n => PySem.Fin.done (Flow.ret (Value.ref n))) (e _), h⟩
theorem call_enumT {prog : Program} {w : World} {A : Around} {E : Value → Shared → Prop} {s : Shared} {a : Addr} {xs : Array Value} {Q : Value → Shared → Prop} (hL : s.heap.IsTuple a xs)
    (h : ∀ h', IsEnum h' (s.heap.objs.size + 1) s.heap.objs.size 0 .none → h'.IsTupleIter s.heap.objs.size a 0 → (∀ b o, s.heap.get? b = some o → h'.get? b = some o) → Q (.ref (s.heap.objs.size + 1)) { s with heap := h' }) :
    wpAny (model prog w) A (call (.type "enumerate") [.ref a]) Q E s := by
  refine callType_new F.called_enumerate (by decide) (F.typeCall_enumerate_1 _) (F.newCall_enumerate_1 _) (fun obj => F.args_object_init_2 obj _) F.entry_enumerate_new (meets_enumT a xs) ⟨hL, ?_⟩
  have z : (s.heap.push { cls := .type "tuple_iterator", data := .fields #[.ref a, .int 0 0] }).objs.size = s.heap.objs.size + 1 := Heap.size_push ..
  have he : IsEnum ((s.heap.push { cls := .type "tuple_iterator", data := .fields #[.ref a, .int 0 0] }).push { cls := .type "enumerate", data := .fields #[.none, .bool false, .ref s.heap.objs.size, rawInt 0, .none, .none] }) (s.heap.objs.size + 1) s.heap.objs.size 0 .none := by
    rw [← z]
    exact Heap.get?_push_size _ rfl
  exact ⟨⟨_, he, rfl⟩, h _ he ⟨_, Heap.get?_push_of_some _ (Heap.get?_push_size _ rfl), rfl, rfl⟩ fun b o q => Heap.get?_push_of_some _ (Heap.get?_push_of_some _ q)⟩
def IteT (K : PySem.W.Frag) (a : Addr) : It :=
  ⟨fun i H => ∃ (xs : List V) (x : V), SqT K H a xs ∧ xs[i]? = some x, fun i H v H' => ∃ T x, v = .ref T ∧ H T = none ∧ H' = upd H T (.tup [.int (i : Nat), x]) ∧ ∀ xs, SqT K H a xs → xs[i]? = some x, fun i H => ∃ xs : List V, SqT K H a xs ∧ xs.length = i⟩
theorem turn_enumT {P : Program} {w : World} {K : PySem.W.Frag} {elts : List Expr} {kk : Nat} {tpos : Pos} (a e it : Addr) :
    Turn P w K (.Tuple elts kk tpos) (IteT K a) [e, it] e (fun i h => (∃ old, IsEnum h e it ((i : Nat) : Int) old) ∧ h.IsTupleIter it a i ∧ e ≠ it ∧ a ≠ it ∧ a ≠ e) where
  mem := by simp
  obj := fun i h st b hb => by
    obtain ⟨⟨old, he⟩, ⟨o, ho, hc, hd⟩, _⟩ := st
    simp only [List.mem_cons, List.not_mem_nil, or_false] at hb
    rcases hb with rfl | rfl
    · exact ⟨_, he, fun v q => nomatch q⟩
    · exact ⟨o, ho, fun v q => by rw [hd] at q; cases q⟩
  keep := fun i h h' st k => let ⟨⟨old, he⟩, hi, hne⟩ := st; ⟨⟨old, k e (by simp) _ he⟩, hi.at fun o q => k it (by simp) o q, hne⟩
  item := by
    intro X hP hw hK hc i pins s σ H E I hf st hg
    subst hP hw hK
    obtain ⟨⟨old, he⟩, hit, hne, hai, hae⟩ := st
    obtain ⟨xs, x, hq, hx⟩ := hg
    obtain ⟨its, rv, p, hz⟩ := I.tuple hq
    obtain ⟨u, hu, ru⟩ := rv.get hx
    have hel : e < s.heap.objs.size := Heap.lt_size he
    have hil : it < s.heap.objs.size := by obtain ⟨_, q, _⟩ := hit; exact Heap.lt_size q
    have hlt : i < its.toArray.size := by
      have q := (List.getElem?_eq_some_iff.mp hu).1
      simpa using q
    refine wpAny_pyNext_enum_itemC (Draws.tuple (prog := X.prog) (w := X.w) (A := X.A.in1) (I.ok.hd hc) it a hai its.toArray) he ⟨hit, p⟩ hlt hne ?_ fun x' h' tk hP ho hst hT hsz hk => ?_
    · intro hm
      simp only [List.mem_cons, List.not_mem_nil, or_false] at hm
      rcases hm with q | q
      · exact hne q
      · exact hae q.symm
    obtain rfl : x' = u := by
      rw [List.getElem?_toArray, hu] at hP
      exact (Option.some.inj hP).symm
    refine ⟨_, rfl, wpAny_letOwnedTupleGo_enum (s := { s with heap := h', toks := tk + 1 }) ho fun h2 he2 sb => ?_⟩
    have hT2 : h2.get? s.heap.objs.size = some { cls := .type "tuple", data := .seq #[.int i tk, x'] } := (sb.2 _ (Nat.ne_of_gt hel)).trans hT
    have new : ObjOk X.prog X.w (upd H s.heap.objs.size (.tup [.int (i : Nat), x])) h2 s.heap.objs.size (.tup [.int (i : Nat), x]) := ⟨by show 2 ≤ sizeLine; decide, [.int i tk, x'], .cons ⟨_, rfl⟩ (.cons ru .nil), ⟨_, hT2, rfl, _, rfl⟩⟩
    have all : ∀ b ob, b ∉ [e, it] → s.heap.get? b = some ob → h2.get? b = some ob := fun b ob hb q => by
      simp only [List.mem_cons, List.not_mem_nil, or_false, not_or] at hb
      exact (sb.2 b hb.1).trans (hk b ob hb.1 hb.2 q)
    have I1 : Inv X pins σ (upd H s.heap.objs.size (.tup [.int (i : Nat), x])) { s with heap := h2, toks := tk + 1 } := I.turnedNew (ch := [e, it]) all hf (Nat.le_refl _) new
    refine ⟨.ref s.heap.objs.size, _, I1, rfl, ⟨_, x, rfl, I.hok.fresh (Nat.le_refl _), rfl, fun ys hy => by rw [I.tuple_inj hy hq]; exact hx⟩, ⟨⟨x', ?_⟩, hst.1.at fun o q => (sb.2 it (Ne.symm hne)).trans q, hne, hai, hae⟩, fun b hb => ?_⟩
    · rw [show ((i + 1 : Nat) : Int) = (i : Int) + 1 by omega]
      exact he2
    · have hb' : b < s.heap.objs.size := by
        simp only [List.mem_cons, List.not_mem_nil, or_false] at hb
        rcases hb with rfl | rfl
        · exact hel
        · exact hil
      rw [upd_ne (Nat.ne_of_lt hb')]
      exact (hf b hb).1
  done := by
    intro X hP hw hK hc i pins s σ H E I hf st hg
    subst hP hw hK
    obtain ⟨⟨old, he⟩, hit, hne, hai, hae⟩ := st
    obtain ⟨xs, hq, hx⟩ := hg
    obtain ⟨its, rv, p, hz⟩ := I.tuple hq
    obtain ⟨f0, f1, f2, f3, f4, f5⟩ := hf it (by simp)
    have hl := rv.length
    have hT : s.TypeIs (.ref e) "enumerate" := ⟨_, he, rfl⟩
    unfold pyNext
    refine wpAny_bind (wpAny_attempt (wpAny_callSpecial?_slot (name := Str.ofString "__next__") hT F.slot_enumerate_next (wpAny_call_entry F.slot_enumerate_next hT F.entry_enumerate_next ?_ (F.args_enumerate_next_1 _))))
    show wpAny _ _ (field (.ref e) 2 >>= _) _ _ _
    refine wpAny_bind (wpAny_field he rfl (x := .ref it) rfl ?_)
    refine wpAny_bind (RZ.nextOf_tuple_end (I.ok.hd hc) hit p (by simp; omega) fun h' x eb ⟨o, ho, hcl⟩ => ?_)
    refine wpAny_bind (wpAny_isInstance (T := "StopIteration") (b := true) ⟨o, ho, hcl⟩ isSubtype_stop ?_)
    exact wpAny_pure ⟨rfl, I.turned (t' := s.toks) (fun b o hb q => eb b o hb q) f0 f1 f3 f4 f5⟩
  self := fun A i s Q E st h => let ⟨⟨_, he⟩, _⟩ := st; wpAny_pyIter_enum he h
def iEnumT (K : PySem.W.Frag) (ta : TA) : TI := fun σ H R => ta σ H fun vs H1 => ∃ a xs, vs = [.ref a] ∧ SqT K H1 a xs ∧ R (IteT K a) H1
theorem pi_enumT {X : Cx} {e : Expr} {ta : TA} {p pos tpos : Pos} {elts : List Expr} {kk : Nat} (hg : Gl X "enumerate") (hm : X.mg "enumerate" = none) (ha : PA X [e] ta) (hs : starEach [e] X.env = [(false, eval e X.env)] := by rfl) :
    PI X (.Tuple elts kk tpos) (.Call (.Name "enumerate" p) [e] [] pos) (iEnumT X.K ta) := by
  refine ⟨fun pins s σ H R I h => ?_⟩
  refine wpAny_Call_Name_kw (ld_blt I hg hm PyProof.Rows.boot_enumerate (PyProof.Rows.callWith_type1 (thn (ha.run pos pins s σ H _ I h) fun us s1 ⟨vs, H1, I1, r1, q1⟩ => ?_) hs rfl))
  obtain ⟨a, xs, rfl, hq, q⟩ := q1
  obtain ⟨u, rfl, ru⟩ := vals1 r1
  obtain rfl : u = Value.ref a := ru
  obtain ⟨its, rv, p', hz⟩ := I1.tuple hq
  have lt : a < s1.heap.objs.size := by obtain ⟨o, ho, _⟩ := id p'; exact Heap.lt_size ho
  refine call_enumT (xs := its.toArray) p' fun h' he hit hk => wpAny_pyIter_enum he ?_
  have I2 : Inv X pins σ H1 { s1 with heap := h' } := I1.kept (t' := s1.toks) hk
  refine ⟨s1.heap.objs.size + 1, [s1.heap.objs.size + 1, s1.heap.objs.size], _, _, H1, rfl, I2, turn_enumT a (s1.heap.objs.size + 1) s1.heap.objs.size, ⟨⟨.none, he⟩, hit, Nat.succ_ne_self _, Nat.ne_of_lt lt, Nat.ne_of_lt (Nat.lt_succ_of_lt lt)⟩, fun b hb => ?_, q⟩
  have hle : s1.heap.objs.size ≤ b := by
    simp only [List.mem_cons, List.not_mem_nil, or_false] at hb
    rcases hb with rfl | rfl
    · exact Nat.le_add_right _ _
    · exact Nat.le_refl _
  exact I1.fpOk hle (I1.hok.fresh hle)
theorem walk_enumT {K : PySem.W.Frag} {a : Addr} {xs : List V} : Walk (IteT K a) xs.length (fun H => SqT K H a xs) (fun i H v H' => ∃ T x, v = .ref T ∧ H T = none ∧ H' = upd H T (.tup [.int (i : Nat), x]) ∧ xs[i]? = some x) := by
  refine ⟨fun i _ hi q => ⟨xs, xs[i], q, by simp [hi]⟩, fun _ q => ⟨xs, q, rfl⟩, fun i H v H' _ q y => ?_⟩
  obtain ⟨T, x, h1, h2, h3, h4⟩ := y
  exact ⟨T, x, h1, h2, h3, h4 xs q⟩

/-! ### sorted(xs, key=f), f an own def that gives ints: the rule -/
section
variable {prog : Program} {w : World} {A : Around} {E : Value → Shared → Prop} {s : Shared} {a kS : Addr} {vs : List Value} {kz : List Int} {keys : Array Value} {e e1 : Nat} {P : PySem.Fin → Shared → Prop}
open PyProof.Rows
theorem keys_tail {st : SortSt} (ok : s.heap.get? kS = some (seqObj "list" keys e)) (oa : s.heap.get? a = some (seqObj "list" #[] e1)) (hka : kS ≠ a) (hk : IntsAre keys.toList kz) (hlen : kz.length = vs.length) (h64 : vs.length < 64)
    (hp : (arrOf st).Perm (keys.zip vs.toArray)) (hs : SortedTo (arrOf st) (arrOf st).size) (hfl : failedOf st = none)
    (h : ∀ h' out c, (∀ b o, b ≠ a → b ≠ kS → s.heap.get? b = some o → h'.get? b = some o) → h'.get? a = some (seqObj "list" out c) → h'.objs.size = s.heap.objs.size → KskOut false kz vs out.toList → P (.done (.ret .none)) { s with heap := h' }) :
    wpAny (model prog w) A (ksk_tail a false e1 (.ref kS) st) P E s := by
  have n1 : keys.size = vs.length := by
    have q := hk.length
    rw [Array.length_toList] at q
    omega
  have n2 : (arrOf st).size = vs.length := by rw [hp.size_eq, Array.size_zip, n1, List.size_toArray, Nat.min_self]
  have u1 := Heap.SameBut.update s.heap kS (Obj.mapSeq fun _ => (#[] : Array Value))
  have oa1 : (s.heap.update kS (Obj.mapSeq fun _ => (#[] : Array Value))).get? a = some (seqObj "list" #[] e1) := (u1.2 a hka.symm).trans oa
  have u2 := Heap.SameBut.update (s.heap.update kS (Obj.mapSeq fun _ => (#[] : Array Value))) a (Obj.mapSeq fun _ => (arrOf st).map (·.2))
  have oa2 := get?_update_seq oa1 fun _ => (arrOf st).map (·.2)
  unfold ksk_tail
  dsimp only
  refine wpAny_bind (listUpdate_at ok rfl ?_ (by rw [n1, sizeLine_eq]; omega) (Nat.zero_le _))
  refine wpAny_bind (wpAny_letGo (wpAny_bind (seqEpoch_at oa1 rfl ?_)))
  simp only [Bool.false_eq_true, if_false]
  refine wpAny_bind (listUpdate_at oa1 rfl ?_ (Nat.zero_le _) (by rw [Array.size_map, n2, sizeLine_eq]; omega))
  rw [hfl]
  simp only [bne_self_eq_false, Bool.false_eq_true, if_false]
  exact wpAny_pure (h _ _ _ (fun b o b1 b2 q => (u2.2 b b1).trans ((u1.2 b b2).trans q)) oa2 (by rw [u2.1, u1.1]) (by simpa using ksk_out (b := false) hk hp hs))
theorem keys_end (ok : s.heap.get? kS = some (seqObj "list" keys e)) (oa : s.heap.get? a = some (seqObj "list" #[] e1)) (hka : kS ≠ a) (hk : IntsAre keys.toList kz) (hlen : kz.length = vs.length) (h64 : vs.length < 64)
    (h : ∀ h' out c, (∀ b o, b ≠ a → b ≠ kS → s.heap.get? b = some o → h'.get? b = some o) → h'.get? a = some (seqObj "list" out c) → h'.objs.size = s.heap.objs.size → KskOut false kz vs out.toList → P (.done (.ret .none)) { s with heap := h' }) :
    wpAny (model prog w) A (ksk_end a false vs.toArray e1 (.ref kS) keys) P E s := by
  have n1 : keys.size = vs.length := by
    have q := hk.length
    rw [Array.length_toList] at q
    omega
  have nz : (keys.zip vs.toArray).size = vs.length := by rw [Array.size_zip, n1, List.size_toArray, Nat.min_self]
  unfold ksk_end
  simp only [Bool.false_eq_true, if_false]
  by_cases h2 : vs.toArray.size < 2
  · rw [if_pos h2, if_pos h2]
    refine wpAny_bind (wpAny_pure ?_)
    rw [StateT.run_pure]
    refine wpAny_bind (wpAny_pure ?_)
    refine keys_tail (st := SortSt.mk' general' (keys.zip vs.toArray) #[] 7 none) ok oa hka hk hlen h64 (Array.Perm.refl _) (fun i j hij hj => ?_) rfl h
    have hj2 : j < (keys.zip vs.toArray).size := hj
    rw [nz] at hj2
    rw [List.size_toArray] at h2
    obtain rfl : i = j := by omega
    exact Int.le_refl _
  · rw [if_neg h2, if_neg h2]
    rw [List.size_toArray] at h2
    rw [ksk_kind hk (by rw [n1]; omega)]
    refine wpAny_bind (wpAny_pure ?_)
    refine wpAny_bind (wpAny_mono (wpS_sortRuns (a₀ := keys.zip vs.toArray) (st := SortSt.mk' oneType' (keys.zip vs.toArray) #[] 7 none)
      (Q := fun _ st' => (arrOf st').Perm (keys.zip vs.toArray) ∧ failedOf st' = none ∧ SortedTo (arrOf st') (keys.zip vs.toArray).size)
      (ksk_intKeys hk) ⟨Array.Perm.refl _, rfl, rfl, rfl⟩ (by rw [nz]; omega) (by rw [nz]; exact h64) fun st' a1 a2 a3 => ⟨a1, a2, a3⟩) ?_ fun _ _ z => z)
    rintro ⟨⟨⟩, st'⟩ s' ⟨rfl, hp, hf, hs⟩
    exact keys_tail ok oa hka hk hlen h64 hp (by rw [hp.size_eq]; exact hs) hf h
end
theorem paired_perm {α β : Type} {F : α → β → Prop} {n n' : List β} (h : n.Perm n') : ∀ {m : List α}, Paired F m n → ∃ m', m'.Perm m ∧ Paired F m' n' := by
  induction h with
  | nil => intro m p; exact ⟨m, List.Perm.refl _, p⟩
  | cons x _ ih =>
    intro m p
    cases p with
    | cons r t =>
      obtain ⟨m', h1, h2⟩ := ih t
      exact ⟨_ :: m', h1.cons _, .cons r h2⟩
  | swap x y l =>
    intro m p
    cases p with
    | cons r t =>
      cases t with
      | cons r2 t2 => exact ⟨_, List.Perm.swap .., .cons r2 (.cons r t2)⟩
  | trans _ _ ih1 ih2 =>
    intro m p
    obtain ⟨m1, h1, p1⟩ := ih1 p
    obtain ⟨m2, h2, p2⟩ := ih2 p1
    exact ⟨m2, h2.trans h1, p2⟩
theorem paired_zip {kz : List Int} : ∀ {ks : List Int} {xs : List V} {vs : List Value}, Vals xs vs → Paired (fun (p : Int × V) (q : Int × Value) => p.1 = q.1 ∧ RelV p.2 q.2) (ks.zip xs) (ks.zip vs)
  | [], _, _, _ => .nil
  | _ :: _, _, _, .nil => .nil
  | _ :: _, _, _, .cons r t => .cons ⟨rfl, r⟩ (paired_zip (kz := kz) t)
/-- what is asked: a walk of the keys, J behind each; then the list in the keys' order -/
def rSortK (K : PySem.W.Frag) (f : Addr) (sp : Sp) : List V → List V → Hp → VK → Prop := fun vs zs H Q => ∃ (l : Addr) (xs : List V) (kz : List Int) (J : Nat → Hp → Prop), vs = [.ref l] ∧ zs = [.ref f] ∧ SqL K H l xs ∧ kz.length = xs.length ∧ xs.length < 64 ∧ J 0 H ∧
  (∀ i x k H', xs[i]? = some x → kz[i]? = some k → J i H' → sp [x] H' (fun v H2 => v = .int k ∧ J (i + 1) H2) E0) ∧
  ∀ (ps : List (Int × V)) (p : Addr) (H' : Hp), J xs.length H' → ps.Perm (kz.zip xs) → ps.Pairwise (fun a b => a.1 ≤ b.1) → H' p = none → Q (.ref p) (upd H' p (.lst (ps.map Prod.snd)))
section
variable {X : Cx}
open PyProof.Rows
theorem run_key {CX : CXT} {k : Nat} {f : Addr} {fd : FuncData} {ps : List Str} {sp : Sp} {pins : List (Addr × Obj)} {σ : L2.St} {H : Hp} {s : Shared} {Q : VK} {u : Value} {v : V} {A' : Around} (F : FnOk X.prog X.w X.K X.mg X.base CX0 k f fd ps sp) (hr : Room k A') (hf : A'.frames = X.A.frames)
    (hb : Binds X.K fd ps []) (I : Inv X pins σ H s) (r : RelV v u) (h : sp [v] H Q E0) : wpAny (model X.prog X.w) A' (call (.ref f) [u]) (EP X pins σ Q) (fun _ _ => False) s := by
  have r2 : Vals [v] [u] := .cons r .nil
  have hl : ([u] ++ ([] : List Value)).length = ps.length := F.len _ _ _ _ h
  have e0 := I.env0
  refine wpAny_call (codeAny_mono (F.run A' X.stack s H ⟨[u], []⟩ [u] [v] Q E0 hr ⟨hf.trans e0.frames, e0.mod, e0.bs, e0.bsz, e0.funs, e0.frf, e0.hok, e0.bare⟩ (hb s [u] I.kIn hl) r2 h) fun r s' hq => ?_)
  cases r with
  | error e => exact False.elim hq
  | ok fl =>
    cases fl with
    | ret u => exact I.after hq
    | next => exact False.elim hq
    | brk => exact False.elim hq
    | cont => exact False.elim hq
theorem ints_snoc {n : Int} {t : Tok} {us : List Value} {ns : List Int} (h : IntsAre us ns) : IntsAre (us ++ [.int n t]) (ns ++ [n]) := ksk_snoc h
theorem seq_nocell {T : String} {ks : Array Value} {c : Nat} : ∀ v, (seqObj T ks c).data ≠ .cell v := fun v q => by cases q
theorem keys_rest {k : Nat} {f : Addr} {fd : FuncData} {ps : List Str} {sp : Sp} {pins : List (Addr × Obj)} {σ : L2.St} {H : Hp} {s : Shared} {A' : Around} {a kS : Addr} {vs : List Value} {xs : List V} {kz : List Int} {e1 : Nat} {J : Nat → Hp → Prop} {P : PySem.Fin → Shared → Prop} {E : Value → Shared → Prop}
    (F : FnOk X.prog X.w X.K X.mg X.base CX0 k f fd ps sp) (hr : Room k A') (hf : A'.frames = X.A.frames) (hb : Binds X.K fd ps []) (I : Inv X pins σ H s) (ok : s.heap.get? kS = some (seqObj "list" #[] 0)) (oa : s.heap.get? a = some (seqObj "list" #[] e1))
    (fk : FpOk X pins H kS) (fa : FpOk X pins H a) (hka : kS ≠ a) (rv : Vals xs vs) (hlen : kz.length = xs.length) (h64 : xs.length < 64) (j0 : J 0 H)
    (step : ∀ i x k H', xs[i]? = some x → kz[i]? = some k → J i H' → sp [x] H' (fun v H2 => v = .int k ∧ J (i + 1) H2) E0)
    (h : ∀ H' s' out c, Inv X pins σ H' s' → s'.heap.get? a = some (seqObj "list" out c) → H' a = none → J xs.length H' → KskOut false kz vs out.toList → P (.done (.ret .none)) s') :
    wpAny (model X.prog X.w) A' (ksk_rest a (.ref f) false vs.toArray e1 (.ref kS)) P E s := by
  have lv : xs.length = vs.length := rv.length
  unfold ksk_rest
  refine wpAny_bind (wpAny_rule ?_)
  rw [List.forIn_toArray]
  refine wpAny_bind (ksk_fold (fun i s' => ∃ H' kA e, Inv X ((kS, seqObj "list" kA e) :: (a, seqObj "list" #[] e1) :: pins) σ H' s' ∧ IntsAre kA.toList (kz.take i) ∧ J i H') vs 0 s ?st ?stp ?fn)
  case st =>
    refine ⟨H, #[], 0, I.pins_of fun p hp => ?_, by simpa using IntsAre.nil, j0⟩
    rcases List.mem_cons.mp hp with rfl | hp
    · exact ⟨ok, fk.1, fk.2.1, fk.2.2.1, seq_nocell⟩
    · rcases List.mem_cons.mp hp with rfl | hp
      · exact ⟨oa, fa.1, fa.2.1, fa.2.2.1, seq_nocell⟩
      · exact I.pin p (List.mem_append_right _ hp)
  case stp =>
    rintro j u s1 hu ⟨H1, kA, e, I1, hk, j1⟩
    rw [Nat.zero_add] at hk j1 ⊢
    have hj : j < vs.length := (List.getElem?_eq_some_iff.mp hu).1
    obtain ⟨x, hx⟩ : ∃ x, xs[j]? = some x := ⟨_, List.getElem?_eq_getElem (by omega)⟩
    obtain ⟨ky, hky⟩ : ∃ k, kz[j]? = some k := ⟨_, List.getElem?_eq_getElem (by omega)⟩
    obtain ⟨u', hu', ru⟩ := rv.get hx
    rw [hu] at hu'
    cases hu'
    have nA : kA.size ≤ vs.length := by
      have q := hk.length
      rw [Array.length_toList, List.length_take] at q
      omega
    refine wpAny_bind (wpAny_attempt (wpAny_mono (run_key (CX := CX0) F hr hf hb I1 ru (step j x ky H1 hx hky j1)) (fun v s2 hv => ?_) fun _ _ z => z.elim))
    obtain ⟨v', H2, I2, rv2, rfl, j2⟩ := hv
    obtain ⟨t2, rfl⟩ := rv2
    obtain ⟨p1, p2, p3, p4, _⟩ := I2.pin (kS, seqObj "list" kA e) (List.mem_append_right _ (List.mem_cons_self ..))
    obtain ⟨q1, q2, q3, q4, _⟩ := I2.pin (a, seqObj "list" #[] e1) (List.mem_append_right _ (List.mem_cons_of_mem _ (List.mem_cons_self ..)))
    have p1 : s2.heap.get? kS = some (seqObj "list" kA e) := p1
    have q1 : s2.heap.get? a = some (seqObj "list" #[] e1) := q1
    have I3 : Inv X pins σ H2 s2 := I2.pins_of fun p hp => I2.pin p (List.mem_append_right _ (List.mem_cons_of_mem _ (List.mem_cons_of_mem _ hp)))
    have sb := Heap.SameBut.update s2.heap kS (Obj.mapSeq (·.push (.int ky t2)))
    obtain ⟨c3, o3⟩ : ∃ c, (s2.heap.update kS (Obj.mapSeq (·.push (.int ky t2)))).get? kS = some (seqObj "list" (kA.push (.int ky t2)) c) := ⟨_, get?_update_seq p1 (·.push (.int ky t2))⟩
    have I4 := I3.turned (t' := s2.toks) (it := kS) (h' := s2.heap.update kS (Obj.mapSeq (·.push (.int ky t2)))) (fun b o hb q => (sb.2 b hb).trans q) p2 p3 fk.2.2.2.1 fk.2.2.2.2.1 fk.2.2.2.2.2
    refine wpAny_bind (listUpdate_at p1 rfl ?_ (by rw [sizeLine_eq]; omega) (Nat.le_trans (Nat.le_of_eq (Array.size_push ..)) (by rw [sizeLine_eq]; omega)))
    have ek : kz.take (j + 1) = kz.take j ++ [ky] := by rw [List.take_add_one, hky]; simp
    refine wpAny_pure ⟨rfl, H2, kA.push (.int ky t2), c3, I4.pins_of fun p hp => ?_, by rw [Array.toList_push, ek]; exact ints_snoc hk, j2⟩
    rcases List.mem_cons.mp hp with rfl | hp
    · exact ⟨o3, p2, p3, p4, seq_nocell⟩
    · rcases List.mem_cons.mp hp with rfl | hp
      · exact ⟨(sb.2 a hka.symm).trans q1, q2, q3, q4, seq_nocell⟩
      · exact I4.pin p (List.mem_append_right _ hp)
  case fn =>
    rintro s1 ⟨H1, kA, e, I1, hk, j1⟩
    rw [Nat.zero_add, ← lv, ← hlen, List.take_length] at hk
    rw [Nat.zero_add, ← lv] at j1
    obtain ⟨p1, p2, p3, p4, _⟩ := I1.pin (kS, seqObj "list" kA e) (List.mem_append_right _ (List.mem_cons_self ..))
    obtain ⟨q1, q2, q3, q4, _⟩ := I1.pin (a, seqObj "list" #[] e1) (List.mem_append_right _ (List.mem_cons_of_mem _ (List.mem_cons_self ..)))
    have p1 : s1.heap.get? kS = some (seqObj "list" kA e) := p1
    have q1 : s1.heap.get? a = some (seqObj "list" #[] e1) := q1
    have I3 : Inv X pins σ H1 s1 := I1.pins_of fun p hp => I1.pin p (List.mem_append_right _ (List.mem_cons_of_mem _ (List.mem_cons_of_mem _ hp)))
    refine wpAny_bind (listItems_at p1 rfl ?_)
    refine keys_end p1 q1 hka hk (by omega) (by omega) fun h' out c kp oa' hsz ko => h H1 _ out c ?_ oa' q2 j1 ko
    refine I3.turnedL (t' := s1.toks) (ch := [a, kS]) (fun b o hb q => kp b o (fun z => hb (by simp [z])) (fun z => hb (by simp [z])) q) fun b hb => ?_
    simp only [List.mem_cons, List.not_mem_nil, or_false] at hb
    rcases hb with rfl | rfl
    · exact ⟨q2, fa.2.1, fa.2.2.1, fa.2.2.2.1, fa.2.2.2.2.1, fa.2.2.2.2.2⟩
    · exact ⟨p2, fk.2.1, fk.2.2.1, fk.2.2.2.1, fk.2.2.2.2.1, fk.2.2.2.2.2⟩
theorem cr_sortK {k : Nat} {f : Addr} {fd : FuncData} {ps : List Str} {sp : Sp} (F : FnOk X.prog X.w X.K X.mg X.base CX0 k f fd ps sp) (hb : Binds X.K fd ps []) (hr : Room (k + 2) X.A) : CallRK X (.builtin "sorted") [Str.ofString "key"] (rSortK X.K f sp) := by
  intro pins s σ H xs0 zs0 us ws Q I r rz h
  obtain ⟨l, xs, kz, J, rfl, rfl, hs, hlen, h64, j0, step, fin⟩ := h
  obtain ⟨u1, rfl, c1⟩ := vals1 r
  obtain rfl : u1 = Value.ref l := c1
  obtain ⟨w1, rfl, c2⟩ := vals1 rz
  obtain rfl : w1 = Value.ref f := c2
  obtain ⟨vs, rv, hl, hz⟩ := I.list hs
  have lv : xs.length = vs.length := rv.length
  have hl : s.heap.IsList l vs.toArray := hl.isList
  show wpAny _ _ (call (.builtin "sorted") [.ref l] [(Str.ofString "key", .ref f)]) _ _ _
  refine call_function_entry_kw kind_sorted plain_sorted entry_sorted (ksk_s1 _ _) ?_
  unfold Builtin.«sorted»
  refine wpAny_bind (m := checkCount "sorted" 1 1 _) (wpAny_pure ?_)
  refine wpAny_bind (collect_list hl ?_ (by rw [sizeLine_eq]; omega))
  refine wpAny_bind (wpAny_newList ?_ (by rw [sizeLine_eq]; omega))
  have z1 : ((s.heap.push (seqObj "list" #[] 0)).update s.heap.objs.size (Obj.mapSeq (· ++ vs.toArray))).objs.size = s.heap.objs.size + 1 := by rw [Heap.size_update, size_push']
  have o1 : (((s.heap.push (seqObj "list" #[] 0)).update s.heap.objs.size (Obj.mapSeq (· ++ vs.toArray))).push (seqObj "list" vs.toArray 0)).get? (s.heap.objs.size + 1) = some (seqObj "list" vs.toArray 0) := by rw [← z1]; exact Heap.get?_push_size _ rfl
  have keep1 : ∀ b o, s.heap.get? b = some o → (((s.heap.push (seqObj "list" #[] 0)).update s.heap.objs.size (Obj.mapSeq (· ++ vs.toArray))).push (seqObj "list" vs.toArray 0)).get? b = some o := fun b o q => by
    have hlt : b < s.heap.objs.size := Heap.lt_size q
    refine Heap.get?_push_of_some _ ?_
    rw [Heap.get?_update_ne _ _ _ _ (Nat.ne_of_lt hlt)]
    exact Heap.get?_push_of_some _ q
  show wpAny _ _ _ _ _ { s with heap := ((s.heap.push (seqObj "list" #[] 0)).update s.heap.objs.size (Obj.mapSeq (· ++ vs.toArray))).push (seqObj "list" vs.toArray 0) }
  rw [z1]
  obtain ⟨a, ea⟩ : ∃ a, a = s.heap.objs.size + 1 := ⟨_, rfl⟩
  rw [← ea] at o1 ⊢
  have fa : FpOk X pins H a := I.fpOk (by rw [ea]; exact Nat.le_succ _) (I.hok.fresh (by rw [ea]; exact Nat.le_succ _))
  obtain ⟨h1, eh1⟩ : ∃ h1, h1 = ((s.heap.push (seqObj "list" #[] 0)).update s.heap.objs.size (Obj.mapSeq (· ++ vs.toArray))).push (seqObj "list" vs.toArray 0) := ⟨_, rfl⟩
  rw [← eh1] at o1 keep1 ⊢
  have I1 : Inv X pins σ H { s with heap := h1 } := I.kept (t' := s.toks) keep1
  refine wpAny_bind (wpAny_holding (wpAny_call_entry_kw slot_list_sort ⟨_, o1, rfl⟩ entry_list_sort ?body (ksk_l1 _ _)))
  case body =>
    show wpAny (model X.prog X.w) X.A.in1.in1 (Builtin.«list.sort» ⟨[.ref a], [(Str.ofString "key", .ref f)]⟩) _ _ _
    rw [ksk_t1]
    unfold ksk_tree
    refine wpAny_bind (listItems_at o1 rfl ?_)
    refine wpAny_bind (listUpdate_at o1 rfl ?_ (by rw [List.size_toArray, sizeLine_eq]; omega) (Nat.zero_le _))
    obtain ⟨e1, o2⟩ : ∃ e1, (h1.update a (Obj.mapSeq fun _ => (#[] : Array Value))).get? a = some (seqObj "list" #[] e1) := ⟨_, get?_update_seq o1 fun _ => #[]⟩
    have sb2 := Heap.SameBut.update h1 a (Obj.mapSeq fun _ => (#[] : Array Value))
    obtain ⟨h2, eh2⟩ : ∃ h2, h2 = h1.update a (Obj.mapSeq fun _ => (#[] : Array Value)) := ⟨_, rfl⟩
    rw [← eh2] at o2 sb2
    show wpAny _ _ _ _ _ { s with heap := h1.update a (Obj.mapSeq fun _ => (#[] : Array Value)) }
    rw [← eh2]
    have I2 : Inv X pins σ H { s with heap := h2 } := I1.turned (s := { s with heap := h1 }) (t' := s.toks) (it := a) (fun b o hb q => (sb2.2 b hb).trans q) fa.1 fa.2.1 fa.2.2.2.1 fa.2.2.2.2.1 fa.2.2.2.2.2
    refine wpAny_bind (seqEpoch_at o2 rfl ?_)
    refine wpAny_bind (wpAny_newTuple ?_ (by show vs.length ≤ _; rw [sizeLine_eq]; omega))
    refine wpAny_bind (wpAny_newList ?_ (Nat.zero_le _))
    refine wpAny_holding ?_
    obtain ⟨T, eT⟩ : ∃ T : Obj, T = { cls := Value.type "tuple", data := Data.seq vs.toArray.toList.toArray } := ⟨_, rfl⟩
    have I4 : Inv X pins σ H { s with heap := (h2.push T).push (seqObj "list" #[] 0) } := I2.kept (s := { s with heap := h2 }) (t' := s.toks) fun b o q => Heap.get?_push_of_some _ (Heap.get?_push_of_some _ q)
    have lt : a < (h2.push T).objs.size := by rw [Heap.size_push]; exact Nat.lt_succ_of_lt (Heap.lt_size o2)
    have fk : FpOk X pins H (h2.push T).objs.size := I2.fpOk (s := { s with heap := h2 }) (by show h2.objs.size ≤ _; rw [Heap.size_push]; exact Nat.le_succ _) (I2.hok.fresh (by show h2.objs.size ≤ _; rw [Heap.size_push]; exact Nat.le_succ _))
    rw [eT] at I4 lt fk
    refine keys_rest F hr.in1.in1 rfl hb I4 (Heap.get?_push_size _ rfl) (Heap.get?_push_of_some _ (Heap.get?_push_of_some _ o2)) fk fa (Nat.ne_of_gt lt) rv hlen h64 j0 step fun H' s' out c I5 oa hn jn ko => ⟨_, rfl, wpAny_pure ⟨_, rfl, ?_⟩⟩
    obtain ⟨qs, hq, ho, hw⟩ := ko
    obtain ⟨ms, m1, m2⟩ := paired_perm hq.symm (paired_zip (kz := kz) (ks := kz) rv)
    have no : ∀ (l1 : List (Int × V)) (l2 : List (Int × Value)), Paired (fun p q => p.1 = q.1 ∧ RelV p.2 q.2) l1 l2 → Vals (l1.map Prod.snd) (l2.map Prod.snd) := fun l1 l2 hp => by
      induction hp with
      | nil => exact .nil
      | cons r _ ih => exact .cons r.2 ih
    have so : ∀ (l1 : List (Int × V)) (l2 : List (Int × Value)), Paired (fun p q => p.1 = q.1 ∧ RelV p.2 q.2) l1 l2 → l2.map Prod.fst = l1.map Prod.fst := fun l1 l2 hp => by
      induction hp with
      | nil => rfl
      | cons r _ ih => rw [List.map_cons, List.map_cons, ih, r.1]
    have vo := no _ _ m2
    rw [← ho] at vo
    have ln : (ms.map Prod.snd).length ≤ sizeLine := by
      rw [List.length_map, m1.length_eq, List.length_zip, sizeLine_eq]
      omega
    refine ⟨.ref a, upd H' a (.lst (ms.map Prod.snd)), ?_, rfl, fin ms a H' jn m1 ?_ hn⟩
    · have no' : ∀ {b : Addr} {o : HO}, H' b = some o → b ≠ a := fun q z => by rw [z, hn] at q; cases q
      refine I5.call' (ch := [a]) rfl ⟨fun b o q n _ _ => q, fun b o q n _ _ => ⟨o.slots, q⟩, fun b o q n hc => by rw [upd_ne (fun z => hc (by simp [z]))]; exact n, fun b o q _ => ⟨o, q⟩, fun b ys q => by rw [upd_ne (no' q)]; exact q, fun b o v q => by rw [upd_ne (no' q)]; exact q, fun b qs q => ⟨#[], by rw [upd_ne (no' q), q]; simp⟩⟩ (fun b u q => ?_) I5.bare fun b hb => ?_
      · by_cases hba : b = a
        · subst hba
          rw [upd_same] at q
          cases q
          exact ⟨ln, out.toList, c, vo, by rw [Array.toArray_toList]; exact oa⟩
        · rw [upd_ne hba] at q
          exact (I5.hok b u q).stay (fun _ _ _ z => z) (fun d z => by rw [upd_ne (no' z)]; exact z) fun d ys z => by rw [upd_ne (no' z)]; exact z
      · rw [List.mem_singleton.mp hb]
        exact ⟨fa.2.2.2.1, fa.2.1, fa.2.2.2.2.1, fa.2.2.2.2.2⟩
    · have q : (qs.map Prod.fst).Pairwise (· ≤ ·) := by
        rw [List.pairwise_map]
        exact hw.imp fun h => by simpa using h
      rw [so _ _ m2, List.pairwise_map] at q
      exact q
end

/-! ### is_integer -/
abbrev sIsInt : Stmt := topS 4
abbrev NIsInt : List Str := ["value"]
abbrev PIsInt : List Str := ["value"]
theorem scIsInt : FnScope NIsInt PIsInt (defScope sIsInt) := ⟨rfl, rfl, rfl, by decide +kernel, rfl, by decide +kernel, by decide +kernel⟩
structure TxInt (mg : Str → Option Value) : Prop where
  n_int : mg "int" = none
  n_bool : mg "bool" = none
  n_isinstance : mg "isinstance" = none
def NoInt (K : PySem.W.Frag) (H : Hp) (v : V) : Prop := ∃ t b, TyX K H v t ∧ PySem.W.kitOne K t (.type "int") = some b ∧ (b = true → PySem.W.kitOne K t (.type "bool") = some true)
def spIsInt (K : PySem.W.Frag) : Sp := fun vs H Q _ => ∃ v, vs = [v] ∧ ((∃ i : Int, v = .int i ∧ Q (.bl true) H) ∨ (NoInt K H v ∧ Q (.bl false) H))
theorem ok_IsInt {P : Program} {w : World} {K : PySem.W.Frag} {mg : Str → Option Value} {base : Heap} {f : Addr} {fd : FuncData} (F : Fun K "is_integer" "is_integer" sIsInt f fd) (T : TxInt mg) : FnOk P w K mg base CX0 1 f fd PIsInt (spIsInt K) := by
  refine F.ok scIsInt (fun vs H Q E h => ?_) (fun cdv A outer s H vs Q E hr h => ?_)
  · obtain ⟨v, rfl, _⟩ := h
    rfl
  · obtain ⟨v, rfl, h⟩ := h
    refine ⟨_, (pss_one (ps_ret (pe_and (pe_callB call_isi (by rfl) T.n_isinstance bb_isinstance (pa_cons (pv 0) (pa_cons (pe_bltn (v := .ty "int") (by rfl) T.n_int bb_int rfl) pa_nil))) (pe_one (pe_not (pe_callB call_isi (by rfl) T.n_isinstance bb_isinstance (pa_cons (pv 0) (pa_cons (pe_bltn (v := .ty "bool") (by rfl) T.n_bool bb_bool rfl) pa_nil)))))))), ?_⟩
    rcases h with ⟨i, rfl, k⟩ | ⟨⟨t, b, ty, k1, k2⟩, k⟩
    · refine ⟨_, rfl, _, _, _, _, _, rfl, .ty _, .base (.int i), kit_ty (r := true) (by decide +kernel), _, rfl, ?_⟩
      exact ⟨_, rfl, _, _, _, _, _, rfl, .ty _, .base (.int i), kit_ty (r := false) (by decide +kernel), _, rfl, k⟩
    · refine ⟨_, rfl, _, _, _, _, _, rfl, .ty _, ty, k1, _, rfl, ?_⟩
      cases b with
      | false => exact k
      | true => exact ⟨_, rfl, _, _, _, _, _, rfl, .ty _, ty, k2 rfl, _, rfl, k⟩

/-! ### comprehensions whose steps only lay new objects down -/
theorem same_new {H : Hp} {p : Addr} {o : HO} (h : H p = none) : Same H (upd H p o) := fun b x e => by
  rw [upd_ne (ne_of_none e h)]
  exact e
theorem take_snoc {α : Type} {l : List α} {i : Nat} {z : α} (h : l[i]? = some z) : l.take (i + 1) = l.take i ++ [z] := by
  rw [List.take_succ, h]; rfl
theorem int_at {ns : List Int} {i : Nat} {x : V} (h : (ns.map V.int)[i]? = some x) : ∃ z, ns[i]? = some z ∧ x = V.int z := by
  rw [List.getElem?_map] at h
  cases e : ns[i]? with
  | none => rw [e] at h; cases h
  | some z => rw [e] at h; exact ⟨z, rfl, (Option.some.inj h).symm⟩
def rListOf (K : PySem.W.Frag) : List V → Hp → VK → Prop := fun xs H Q => ∃ p ys, xs = [.ref p] ∧ (SqL K H p ys ∨ SqT K H p ys) ∧ ∀ l, H l = none → Q (.ref l) (upd H l (.lst ys))
def rTupOf (K : PySem.W.Frag) : List V → Hp → VK → Prop := fun xs H Q => ∃ p ys, xs = [.ref p] ∧ ((SqL K H p ys ∧ ∀ l, H l = none → Q (.ref l) (upd H l (.tup ys))) ∨ (SqT K H p ys ∧ Q (.ref p) H))
def rLenS (K : PySem.W.Frag) : List V → Hp → VK → Prop := fun xs H Q => ∃ p ys, xs = [.ref p] ∧ (SqL K H p ys ∨ SqT K H p ys) ∧ Q (.int (ys.length : Nat)) H
/-- tuples stay -/
def TSame (H H' : Hp) : Prop := ∀ b xs, H b = some (.tup xs) → H' b = some (.tup xs)
theorem TSame.of {H H' : Hp} (s : Same H H') : TSame H H' := fun b xs e => s b _ e
theorem TSame.trans {H H1 H2 : Hp} (a : TSame H H1) (b : TSame H1 H2) : TSame H H2 := fun x xs e => b x xs (a x xs e)
/-- each step gives some y with P i y; the steps lay new objects down -/
theorem lc_rel {J : It} {n : Nat} {G : Hp → Prop} {Y : Nat → Hp → V → Hp → Prop} (w : Walk J n G Y) {g : TG} {te : TE} {vs : List Nat} {σ : L2.St} {H1 : Hp} {D : Addr} {Qd : Hp → Prop} (P : Nat → V → Hp → Prop) (hP : ∀ i y H H', TSame H H' → P i y H → P i y H') (hD : H1 D = none) (hn : n ≤ 1000) (hG : ∀ H, Same H1 H → G H)
    (hs : ∀ i x H H' (k : VK), i < n → Same H1 H → Y i H x H' → (∀ y H4, Same H H4 → P i y H4 → k y H4) → g x (wipe σ vs) H' fun σ2 H2 => wipe σ2 vs = wipe σ vs ∧ te σ2 H2 k)
    (hd : ∀ ys H, Same H1 H → H D = some (.lst ys) → ys.length = n → (∀ i y, ys[i]? = some y → P i y H) → Qd H) :
    ∃ W : Nat → Nat → Hp → Prop, (∃ m, W 0 m (upd H1 D (.lst []))) ∧ ∀ i m H, W i m H →
      (J.stop i H ∧ Qd H) ∨ (J.go i H ∧ ∃ Nx : Hp → Prop, (∀ H', Nx H' → ∃ m', m' < m ∧ W (i + 1) m' H') ∧ ∀ x H', J.yld i H x H' → g x (wipe σ vs) H' fun σ2 H2 => wipe σ2 vs = wipe σ vs ∧ tYes σ2 H2 fun b H3 =>
        if b = true then te σ2 H3 fun y H4 => ∃ acc, H4 D = some (.lst acc) ∧ acc.length < sizeLine ∧ Nx (upd H4 D (.lst (acc ++ [y]))) else Nx H3) := by
  refine lc_it w (fun i H => Same H1 H ∧ ∃ ys, H D = some (.lst ys) ∧ ys.length = i ∧ ∀ j y, ys[j]? = some y → P j y H) ⟨same_new hD, [], upd_same, rfl, fun j y z => by simp at z⟩ (fun i H _ h => hG H h.1) (fun i x H H' hi ⟨s1, ys, e1, l1, p1⟩ y => ?_) (fun H ⟨s1, ys, e1, l1, p1⟩ => hd ys H s1 e1 l1 p1)
  refine hs i x H H' _ hi s1 y fun y H4 s4 p4 => ?_
  have t4 : TSame H4 (upd H4 D (.lst (ys ++ [y]))) := fun b xs z => by
    rw [upd_ne (ne_of z (s4 _ _ e1) (fun q => by cases q))]
    exact z
  refine ⟨ys, s4 _ _ e1, small1000 (by omega), fun b o z => ?_, ys ++ [y], upd_same, by rw [List.length_append, l1]; rfl, fun j z hz => ?_⟩
  · rw [upd_ne (ne_of_none z hD)]
    exact s4 b o (s1 b o z)
  · by_cases hj : j < ys.length
    · rw [List.getElem?_append_left hj] at hz
      exact hP _ _ _ _ ((TSame.of s4).trans t4) (p1 j z hz)
    · rw [List.getElem?_append_right (by omega)] at hz
      have hj' : j - ys.length = 0 := by
        have q := (List.getElem?_eq_some_iff.mp hz).1
        simp at q
        omega
      rw [hj'] at hz
      cases hz
      obtain rfl : j = i := by omega
      exact hP _ _ _ _ t4 p4
/-- each step gives f i -/
theorem lc_map {J : It} {n : Nat} {G : Hp → Prop} {Y : Nat → Hp → V → Hp → Prop} (w : Walk J n G Y) {g : TG} {te : TE} {vs : List Nat} {σ : L2.St} {H1 : Hp} {D : Addr} {Qd : Hp → Prop} (f : Nat → V) (hD : H1 D = none) (hn : n ≤ 1000) (hG : ∀ H, Same H1 H → G H)
    (hs : ∀ i x H H' (k : VK), i < n → Same H1 H → Y i H x H' → (∀ H4, Same H H4 → k (f i) H4) → g x (wipe σ vs) H' fun σ2 H2 => wipe σ2 vs = wipe σ vs ∧ te σ2 H2 k)
    (hd : ∀ H, Same H1 H → H D = some (.lst ((List.range n).map f)) → Qd H) :
    ∃ W : Nat → Nat → Hp → Prop, (∃ m, W 0 m (upd H1 D (.lst []))) ∧ ∀ i m H, W i m H →
      (J.stop i H ∧ Qd H) ∨ (J.go i H ∧ ∃ Nx : Hp → Prop, (∀ H', Nx H' → ∃ m', m' < m ∧ W (i + 1) m' H') ∧ ∀ x H', J.yld i H x H' → g x (wipe σ vs) H' fun σ2 H2 => wipe σ2 vs = wipe σ vs ∧ tYes σ2 H2 fun b H3 =>
        if b = true then te σ2 H3 fun y H4 => ∃ acc, H4 D = some (.lst acc) ∧ acc.length < sizeLine ∧ Nx (upd H4 D (.lst (acc ++ [y]))) else Nx H3) := by
  refine lc_rel w (fun i y _ => y = f i) (fun _ _ _ _ _ h => h) hD hn hG (fun i x H H' k hi s1 y kk => hs i x H H' k hi s1 y fun H4 s4 => kk _ H4 s4 rfl) fun ys H s1 e1 l1 p1 => hd H s1 ?_
  rw [e1]
  congr 2
  refine List.ext_getElem? fun j => ?_
  by_cases hj : j < n
  · rw [List.getElem?_map, List.getElem?_range hj]
    obtain ⟨y, hy⟩ : ∃ y, ys[j]? = some y := ⟨ys[j], by simp [l1, hj]⟩
    rw [hy, p1 j y hy]
    rfl
  · rw [List.getElem?_eq_none (by omega), List.getElem?_eq_none (by rw [List.length_map, List.length_range]; omega)]
theorem range_map {α β : Type} (l : List α) (F : α → β) (f : Nat → β) (h : ∀ (i : Nat) (x : α), l[i]? = some x → f i = F x) : (List.range l.length).map f = l.map F := by
  refine List.ext_getElem? fun j => ?_
  by_cases hj : j < l.length
  · rw [List.getElem?_map, List.getElem?_range hj, List.getElem?_map, List.getElem?_eq_getElem hj]
    exact congrArg some (h j _ (List.getElem?_eq_getElem hj))
  · rw [List.getElem?_eq_none (by rw [List.length_map, List.length_range]; omega), List.getElem?_eq_none (by rw [List.length_map]; omega)]
theorem Paired.snocP {α β : Type} {F : α → β → Prop} : ∀ {l₁ : List α} {l₂ : List β} {a : α} {b : β}, Paired F l₁ l₂ → F a b → Paired F (l₁ ++ [a]) (l₂ ++ [b])
  | _, _, _, _, .nil, h => .cons h .nil
  | _, _, _, _, .cons r t, h => .cons r (Paired.snocP t h)

/-! ### rows -/
abbrev sIsRow : Stmt := topS 5
abbrev NIsRow : List Str := ["value", "width", "one"]
abbrev PIsRow : List Str := ["value", "width"]
theorem scIsRow : FnScope NIsRow PIsRow (defScope sIsRow) := ⟨rfl, rfl, rfl, by decide +kernel, rfl, by decide +kernel, by decide +kernel⟩
abbrev sCF : Stmt := topS 6
abbrev NCF : List Str := ["one", "other"]
abbrev PCF : List Str := ["one", "other"]
theorem scCF : FnScope NCF PCF (defScope sCF) := ⟨rfl, rfl, rfl, by decide +kernel, rfl, by decide +kernel, by decide +kernel⟩
abbrev sPrim : Stmt := topS 7
abbrev NPrim : List Str := ["row", "factor", "one", "first", "sign"]
abbrev PPrim : List Str := ["row"]
theorem scPrim : FnScope NPrim PPrim (defScope sPrim) := ⟨rfl, rfl, rfl, by decide +kernel, rfl, by decide +kernel, by decide +kernel⟩
abbrev sLead : Stmt := topS 8
abbrev NLead : List Str := ["row", "index", "one"]
abbrev PLead : List Str := ["row"]
theorem scLead : FnScope NLead PLead (defScope sLead) := ⟨rfl, rfl, rfl, by decide +kernel, rfl, by decide +kernel, by decide +kernel⟩
abbrev sWo : Stmt := topS 9
abbrev NWo : List Str := ["row", "other", "at", "one", "more"]
abbrev PWo : List Str := ["row", "other"]
theorem scWo : FnScope NWo PWo (defScope sWo) := ⟨rfl, rfl, rfl, by decide +kernel, rfl, by decide +kernel, by decide +kernel⟩
abbrev sRB : Stmt := topS 10
abbrev NRB : List Str := ["rows", "row", "other"]
abbrev PRB : List Str := ["rows", "row"]
theorem scRB : FnScope NRB PRB (defScope sRB) := ⟨rfl, rfl, rfl, by decide +kernel, rfl, by decide +kernel, by decide +kernel⟩
abbrev sAdded : Stmt := topS 11
abbrev NAdded : List Str := ["rows", "row", "rest", "found", "other"]
abbrev PAdded : List Str := ["rows", "row"]
theorem scAdded : FnScope NAdded PAdded (defScope sAdded) := ⟨rfl, rfl, rfl, by decide +kernel, rfl, by decide +kernel, by decide +kernel⟩
abbrev sRed : Stmt := topS 12
abbrev NRed : List Str := ["rows", "width", "found", "row"]
abbrev PRed : List Str := ["rows", "width"]
theorem scRed : FnScope NRed PRed (defScope sRed) := ⟨rfl, rfl, rfl, by decide +kernel, rfl, by decide +kernel, by decide +kernel⟩
abbrev Row := List Int
structure TxRow (mg : Str → Option Value) : Prop extends TxInt mg where
  n_len : mg "len" = none
  n_tuple : mg "tuple" = none
  n_list : mg "list" = none
  n_all : mg "all" = none
  n_abs : mg "abs" = none
  n_sorted : mg "sorted" = none
  n_zip : mg "zip" = none
  n_enumerate : mg "enumerate" = none
theorem bb_abs : bootBuiltins "abs" = some (.builtin "abs") := by decide +kernel
theorem bb_sorted : bootBuiltins "sorted" = some (.builtin "sorted") := by decide +kernel
def TupAt (H : Hp) (p : Addr) (r : Row) : Prop := H p = some (.tup (r.map V.int))
theorem abs_if (a : Int) : (if a < 0 then -a else a) = ((a.natAbs : Nat) : Int) := by
  split <;> omega
/-! what they compute -/
def gcdR (r : Row) : Nat := r.foldl (fun g x => Int.gcd g x) 0
def leadN (r : Row) : Option Nat := r.findIdx? (· ≠ 0)
def signR (r : Row) : Int := match r.find? (· ≠ 0) with | some x => if x > 0 then 1 else -1 | none => 1
def prim (r : Row) : Row := if gcdR r = 0 then r else r.map fun x => (signR r * x) / (gcdR r : Nat)
theorem gcd_fold : ∀ (r : Row) (g : Nat), (∀ x ∈ r, ((r.foldl (fun g x => Int.gcd g x) g : Nat) : Int) ∣ x) ∧ (r.foldl (fun g x => Int.gcd g x) g) ∣ g
  | [], g => ⟨(fun _ z => nomatch z), Nat.dvd_refl g⟩
  | y :: r, g => by
    obtain ⟨h1, h2⟩ := gcd_fold r (Int.gcd g y)
    refine ⟨fun x hx => ?_, Nat.dvd_trans h2 ?_⟩
    · rcases List.mem_cons.mp hx with e | e
      · rw [e]
        exact Int.dvd_trans (Int.natCast_dvd_natCast.mpr h2) (Int.gcd_dvd_right ..)
      · exact h1 x e
    · exact Int.natCast_dvd_natCast.mp (Int.gcd_dvd_left ..)
theorem gcd_dvd {r : Row} {x : Int} (h : x ∈ r) : ((gcdR r : Nat) : Int) ∣ x := (gcd_fold r 0).1 x h
theorem gcd_zero {r : Row} (h : gcdR r = 0) {x : Int} (hx : x ∈ r) : x = 0 := by
  have q := gcd_dvd hx
  rw [h] at q
  exact Int.zero_dvd.mp q
theorem gcd_small {r : Row} {B : Nat} (hB : ∀ x ∈ r, x.natAbs < 2 ^ B) : gcdR r < 2 ^ B ∨ ∀ x ∈ r, x = 0 := by
  by_cases h : ∀ x ∈ r, x = 0
  · exact .inr h
  · left
    simp only [Classical.not_forall] at h
    obtain ⟨x, hx, hne⟩ := h
    have q := Int.natAbs_dvd_natAbs.mpr (gcd_dvd hx)
    rw [Int.natAbs_natCast] at q
    exact Nat.lt_of_le_of_lt (Nat.le_of_dvd (by omega) q) (hB x hx)
theorem gcd_all {r : Row} (h : ∀ x ∈ r, x = 0) : gcdR r = 0 := by
  have : ∀ (r : Row) (g : Nat), (∀ x ∈ r, x = 0) → r.foldl (fun g x => Int.gcd g x) g = g := by
    intro r
    induction r with
    | nil => intro g _; rfl
    | cons y r ih =>
      intro g h
      rw [List.foldl_cons, h y (List.mem_cons_self ..), Int.gcd_zero_right, Int.natAbs_natCast]
      exact ih g fun x hx => h x (List.mem_cons_of_mem _ hx)
  exact this r 0 h
def Small (r : Row) (B : Nat) : Prop := ∀ x ∈ r, x.natAbs < 2 ^ B
section
variable {P : Program} {w : World} {K : PySem.W.Frag} {mg : Str → Option Value} {base : Heap}
/-! common_factor -/
def spCF : Sp := fun vs H Q _ => ∃ a b : Int, vs = [.int a, .int b] ∧ Q (.int (Int.gcd a b : Nat)) H
theorem ok_CF {f : Addr} {fd : FuncData} (F : Fun K "common_factor" "common_factor" sCF f fd) (T : TxRow mg) : FnOk P w K mg base CX0 1 f fd PCF spCF := by
  refine F.ok scCF (fun vs H Q E h => ?_) (fun cdv A outer s H vs Q E hr h => ?_)
  · obtain ⟨a, b, rfl, _⟩ := h
    rfl
  · obtain ⟨a, b, rfl, k⟩ := h
    refine ⟨_, (pss_cons (ps_par (i := 0) (j := 1) (by rfl) scCF.nd rfl rfl (by decide) rfl rfl (pa_cons (pe_callB call_abs (by rfl) T.n_abs bb_abs (pa_cons (pv 0) pa_nil)) (pa_cons (pe_callB call_abs (by rfl) T.n_abs bb_abs (pa_cons (pv 1) pa_nil)) pa_nil)) (by rfl))
  (pss_cons (ps_while PassesOwn.never (pt_cmpR op_ne (pv 1) pe_int (nomark _))
  (pss_one (ps_par (i := 0) (j := 1) (by rfl) scCF.nd rfl rfl (by decide) rfl rfl (pa_cons (pv 1) (pa_cons (pe_op op_mod (pv 0) (pv 1)) pa_nil)) (by rfl))))
  (pss_one (ps_ret (pv 0))))), ?_⟩
    refine ⟨_, rfl, _, rfl, _, rfl, _, rfl, _, _, rfl, ?_⟩
    rw [abs_if, abs_if]
    refine ⟨fun m σ H' => ∃ n : Nat, σ = [some (.int (n : Int)), some (.int (m : Int))] ∧ Nat.gcd n m = Int.gcd a b ∧ H' = H, ⟨b.natAbs, a.natAbs, rfl, rfl, rfl⟩, ?_⟩
    rintro m σ H1 ⟨n, rfl, hg, eH⟩
    refine ⟨_, rfl, rfl, _, rfl, ite2 (fun hne => ?_) (fun he => ?_)⟩
    · have hm : 0 < m := by
        rcases Nat.eq_zero_or_pos m with z | z
        · rw [z] at hne
          exact absurd hne (by decide)
        · exact z
      refine ⟨fun σ' H' => ∃ n' m' : Nat, m' < m ∧ σ' = [some (.int (n' : Int)), some (.int (m' : Int))] ∧ Nat.gcd n' m' = Int.gcd a b ∧ H' = H, fun σ' H' ⟨n', m', h1, h2, h3, h4⟩ => ⟨m', h1, n', h2, h3, h4⟩, ?_⟩
      refine ⟨_, rfl, _, rfl, _, rfl, _, _, rfl, rfl, (show (0 : Int) < (m : Int) by omega), _, _, rfl, m, n % m, Nat.mod_lt _ hm, rfl, ?_, eH⟩
      rw [← hg, Nat.gcd_comm m, ← Nat.gcd_rec, Nat.gcd_comm]
    · have hm : m = 0 := by
        rcases Nat.eq_zero_or_pos m with z | z
        · exact z
        · exfalso
          apply he
          show (!decide (V.int (m : Int) = V.int 0)) = true
          rw [decide_eq_false (fun q => by injection q with q; omega)]
          rfl
      subst hm
      rw [Nat.gcd_zero_right] at hg
      subst hg
      rw [eH]
      exact ⟨_, rfl, k⟩
theorem sgn_b (r : Row) (sg : Int) (h : sg = signR r) : -(2 ^ 64) < sg ∧ sg < 2 ^ 64 := by
  rw [h]
  unfold signR
  split
  · split <;> decide
  · decide
/-! primitive -/
def spPrim : Sp := fun vs H Q _ => ∃ (p : Addr) (r : Row), vs = [.ref p] ∧ TupAt H p r ∧ r.length ≤ 100 ∧ Small r 9000 ∧ ∀ (q : Addr) (H' : Hp), Same H H' → TupAt H' q (prim r) → Q (.ref q) H'
theorem ok_Prim {f : Addr} {fd : FuncData} (F : Fun K "primitive" "primitive" sPrim f fd) (T : TxRow mg) (GC : Has P w K mg base CX0 1 "common_factor" PCF spCF) : FnOk P w K mg base CX0 2 f fd PPrim spPrim := by
  refine F.ok scPrim (fun vs H Q E h => ?_) (fun cdv A outer s H vs Q E hr h => ?_)
  · obtain ⟨p, r, rfl, _⟩ := h
    rfl
  · obtain ⟨p, r, rfl, hp, hl, sm, k⟩ := h
    refine ⟨_, (pss_cons (ps_set (i := 1) scPrim.nd rfl (Or.inr rfl) pe_int)
  (pss_cons (ps_for PassesOwn.never rfl (pi_tup (pv 0)) (pg_name (i := 2) scPrim.nd rfl (Or.inl rfl))
  (pss_one (ps_set (i := 1) scPrim.nd rfl (Or.inr rfl) (pe_callH GC hr rfl pass0 (pa_cons (pv 1) (pa_cons (pv 2) pa_nil))))))
  (pss_cons (ps_if (pt_cmpR op_eq (pv 1) pe_int (nomark _))
  (pss_one (ps_ret (pv 0)))
  pss_nil)
  (pss_cons (ps_set (i := 3) scPrim.nd rfl (Or.inl rfl) (pe_ix (r := rIxL K) ix_list (pe_lc (own := [("one", 2)]) (g := gName 2) rfl scPrim.nd (pi_tup (pv 0)) (blkOk_by (own := [("one", 2)]) (N := NPrim) (sc := (defScope sPrim)) (by decide +kernel)) (fun _ _ _ _ _ => (pg_name (i := 2) scPrim.nd rfl (Or.inl rfl))) (fun _ _ _ _ _ => (pts_one (pt_cmpR op_ne (pv 2) pe_int (nomark _)))) (fun _ _ _ _ _ => (pv 2))) pe_int (fun _ _ => rfl)))
  (pss_cons (ps_set (i := 4) scPrim.nd rfl (Or.inr rfl) (pe_ifExp (pt_cmpR op_gt (pv 3) pe_int (nomark _)) pe_int (pe_un un_neg pe_int)))
  (pss_one (ps_ret (pe_callTy call_tuple_of (by rfl) T.n_tuple bb_tuple (pa_cons (pe_lc (own := [("one", 2)]) (g := gName 2) (tt := tYes) rfl scPrim.nd (pi_tup (pv 0)) (blkOk_by (own := [("one", 2)]) (N := NPrim) (sc := (defScope sPrim)) (by decide +kernel)) (fun _ _ _ _ _ => (pg_name (i := 2) scPrim.nd rfl (Or.inl rfl))) (fun _ _ _ _ _ => pts_nil) (fun _ _ _ _ _ => (pe_op op_fdivW (pe_op op_mul (pv 4) (pv 2)) (pv 1)))) pa_nil))))))))), ?_⟩
    -- the factor
    have hS := SqT.of (K := K) hp
    refine ⟨_, rfl, p, rfl, ⟨_, hS⟩, for_tup (K := K) (a := p) (xs := r.map V.int) (fun i σ H' => ∃ x : Option V, σ = [some (.ref p), some (.int ((r.take i).foldl (fun g x => Int.gcd g x) 0 : Nat)), x, none, none] ∧ H' = H) ⟨none, rfl, rfl⟩ (fun i σ H' _ ⟨_, _, e⟩ => by rw [e]; exact hS) ?_ ?_⟩
    · rintro i x σ H' hx ⟨y, rfl, rfl⟩
      obtain ⟨z, hz, rfl⟩ := int_at hx
      refine ⟨_, rfl, _, rfl, _, _, rfl, some (.int z), ?_, rfl⟩
      rw [take_snoc hz, List.foldl_append]
      rfl
    · rintro σ H' ⟨y, rfl, rfl⟩
      rw [List.length_map, List.take_length]
      refine ⟨_, rfl, rfl, _, rfl, ite2 (fun hz => ?_) (fun hz => ?_)⟩
      · have g0 : gcdR r = 0 := by
          have q := of_decide_eq_true hz
          injection q with q
          exact Int.ofNat.inj q
        exact ⟨_, rfl, k p _ (Same.refl _) (by unfold prim; rw [if_pos g0]; exact hp)⟩
      · have g0 : gcdR r ≠ 0 := fun q => hz (decide_eq_true (by show V.int ((gcdR r : Nat) : Int) = V.int 0; rw [q]; rfl))
        obtain ⟨x0, hx0⟩ : ∃ x0, r.find? (· ≠ 0) = some x0 := by
          cases e : r.find? (· ≠ 0) with
          | some x => exact ⟨x, rfl⟩
          | none => exact absurd (gcd_all fun x hx => by simpa using List.find?_eq_none.mp e x hx) g0
        have hx0' : (r.filter (· ≠ 0))[0]? = some x0 := by rw [← List.head?_eq_getElem?, List.head?_filter]; exact hx0
        refine ⟨_, rfl, p, rfl, ⟨_, hS⟩, fun D hD => lc_tup (K := K) (a := p) (xs := r.map V.int) (fun i H1 => Same H' H1 ∧ H1 D = some (.lst (((r.take i).filter (· ≠ 0)).map V.int))) ⟨same_new hD, upd_same⟩ (fun i H1 _ h1 => SqT.of (h1.1 _ _ hp)) ?_ ?_⟩
        · rintro i x H1 hx ⟨s1, e1⟩
          obtain ⟨z, hz', rfl⟩ := int_at hx
          refine ⟨rfl, _, rfl, rfl, _, rfl, ite2 (fun hne => ?_) (fun hne => ?_)⟩
          · have zne : z ≠ 0 := fun q => by rw [q] at hne; exact absurd hne (by decide)
            refine ⟨_, rfl, _, e1, small1000 ?_, fun b o e => by rw [upd_ne (ne_of_none e hD)]; exact s1 b o e, ?_⟩
            · rw [List.length_map]
              have q1 := List.length_filter_le (fun x : Int => decide (x ≠ 0)) (r.take i)
              rw [List.length_take] at q1
              omega
            · rw [upd_same, take_snoc hz', List.filter_append, List.map_append]
              simp [zne]
          · have ze : z = 0 := by
              by_cases q : z = 0
              · exact q
              · exact absurd (show (!decide (V.int z = V.int 0)) = true by rw [decide_eq_false (fun q' => by injection q' with q'; exact q q')]; rfl) hne
            refine ⟨s1, ?_⟩
            rw [take_snoc hz', List.filter_append]
            simp [ze, e1]
        · rintro H1 ⟨s1, e1⟩
          rw [List.length_map, List.take_length] at e1
          refine ⟨D, _, _, _, rfl, rfl, SqL.of e1, atI_nat (j := 0) (by rw [List.getElem?_map, hx0']; rfl), ?_⟩
          have fin : ∀ sg : Int, sg = signR r → tRet (tCB (fun xs H_1 Q => ∃ p ys, xs = [V.ref p] ∧ ((SqL K H_1 p ys ∧ ∀ l, H_1 l = none → Q (.ref l) (upd H_1 l (.tup ys))) ∨ (SqT K H_1 p ys ∧ Q (.ref p) H_1))) (tCons (tLc (iTup K (tVar 0)) (gName 2) tYes (tOp (rI CDivW fun i j => V.int (i / j)) (tOp (rI CMul fun i j => V.int (i * j)) (tVar 4) (tVar 2)) (tVar 1)) [2]) tNil))
              { nx := fun x H' => Q V.non H', rt := Q } [some (.ref p), some (.int ((gcdR r : Nat) : Int)), y, some (.int x0), some (.int sg)] H1 := by
            intro sg hsg
            have hp1 := s1 _ _ hp
            refine ⟨_, rfl, p, rfl, ⟨_, SqT.of hp1⟩, fun D2 hD2 => lc_map (n := r.length) (by rw [← List.length_map (f := V.int)]; exact walk_tup (xs := r.map V.int)) (fun i => V.int ((sg * r.getD i 0) / ((gcdR r : Nat) : Int))) hD2 (by omega) (fun H2 s2 => SqT.of (s2 _ _ hp1)) ?_ ?_⟩
            · rintro i x H2 H3 kk hi s2 ⟨rfl, hx⟩ kc
              obtain ⟨z, hz', rfl⟩ := int_at hx
              have ez : r.getD i 0 = z := by rw [List.getD_eq_getElem?_getD, hz']; rfl
              refine ⟨rfl, _, rfl, _, rfl, _, _, rfl, rfl, .inl ⟨?_, ?_⟩, _, rfl, _, _, rfl, rfl, ?_, ?_⟩
              · exact (sgn_b r sg hsg).1
              · exact (sgn_b r sg hsg).2
              · rcases gcd_small sm with q | q
                · exact wide_div (by omega) (by rw [Int.natAbs_natCast]; exact q) (by decide) (Nat.le_refl _)
                · exact absurd (gcd_all q) g0
              · have q := kc H3 (Same.refl _)
                rw [ez] at q
                exact q
            · intro H2 s2 e2
              refine ⟨D2, _, rfl, .inl ⟨SqL.of e2, fun l hl => ?_⟩⟩
              refine k l _ ((s1.trans s2).trans (same_new hl)) ?_
              show upd _ l _ l = _
              rw [upd_same]
              congr 2
              unfold prim
              rw [if_neg g0, List.map_map]
              refine range_map r _ _ fun i x hx => ?_
              rw [List.getD_eq_getElem?_getD, hx, hsg]
              rfl
          refine ⟨_, rfl, _, _, rfl, rfl, _, rfl, ite2 (fun hc => fin 1 ?_) (fun hc => ⟨_, rfl, fin (-1) ?_⟩)⟩
          · unfold signR
            rw [hx0]
            exact (if_pos (of_decide_eq_true hc)).symm
          · unfold signR
            rw [hx0]
            exact (if_neg (fun q => hc (decide_eq_true q))).symm
/-! lead -/
def optV : Option Nat → V
  | none => .non
  | some n => .int (n : Nat)
def spLead : Sp := fun vs H Q _ => ∃ (p : Addr) (r : Row), vs = [.ref p] ∧ TupAt H p r ∧ ∀ H', Same H H' → Q (optV (leadN r)) H'
theorem find_take {r : Row} {i : Nat} (h : ∀ x ∈ r.take i, x = 0) (hi : i ≤ r.length) : leadN r = (leadN (r.drop i)).map (· + i) := by
  conv => lhs; rw [← List.take_append_drop i r]
  unfold leadN
  rw [List.findIdx?_append]
  have e : (r.take i).findIdx? (· ≠ 0) = none := by
    rw [List.findIdx?_eq_none_iff]
    intro x hx
    simp [h x hx]
  rw [e, List.length_take, Nat.min_eq_left hi]
  simp
theorem ok_Lead {f : Addr} {fd : FuncData} (F : Fun K "lead" "lead" sLead f fd) (T : TxRow mg) : FnOk P w K mg base CX0 1 f fd PLead spLead := by
  refine F.ok scLead (fun vs H Q E h => ?_) (fun cdv A outer s H vs Q E hr h => ?_)
  · obtain ⟨p, r, rfl, _⟩ := h
    rfl
  · obtain ⟨p, r, rfl, hp, k⟩ := h
    refine ⟨_, (pss_cons (ps_for PassesOwn.never rfl (pi_enumT (by rfl) T.n_enumerate (pa_cons (pv 0) pa_nil)) (pg_tup (by rfl) (pgs_cons (pg_name (i := 1) scLead.nd rfl (Or.inl rfl)) (pgs_cons (pg_name (i := 2) scLead.nd rfl (Or.inl rfl)) pgs_nil)))
  (pss_one (ps_if (pt_cmpR op_ne (pv 2) pe_int (nomark _))
  (pss_one (ps_ret (pv 1)))
  pss_nil)))
  (pss_one (ps_ret pe_non))), ?_⟩
    refine ⟨_, rfl, p, _, rfl, SqT.of hp, ?_⟩
    refine for_it walk_enumT (fun i σ H' => (∃ x y : Option V, σ = [some (.ref p), x, y]) ∧ Same H H' ∧ ∀ x ∈ r.take i, x = 0) ⟨⟨none, none, rfl⟩, Same.refl _, by simp⟩ (fun i σ H' _ h' => SqT.of (h'.2.1 _ _ hp)) ?_ ?_
    · rintro i v σ H1 H2 hi ⟨⟨x, y, rfl⟩, s1, z1⟩ ⟨T', u, rfl, hT, rfl, hu⟩
      obtain ⟨z, hz, rfl⟩ := int_at hu
      have hil : i < r.length := by
        have q := (List.getElem?_eq_some_iff.mp hz).1
        exact q
      have s2 := s1.trans (same_new (o := .tup [.int (i : Nat), .int z]) hT)
      refine ⟨T', _, rfl, SqT.of upd_same, rfl, _, _, rfl, _, _, rfl, rfl, ?_⟩
      refine ⟨_, rfl, rfl, _, rfl, ite2 (fun hne => ?_) (fun hne => ?_)⟩
      · have zne : z ≠ 0 := fun q => by rw [q] at hne; exact absurd hne (by decide)
        have e : leadN r = some i := by
          rw [find_take z1 (Nat.le_of_lt hil), List.drop_eq_getElem_cons hil]
          have ez : r[i] = z := (List.getElem?_eq_some_iff.mp hz).2
          unfold leadN
          rw [List.findIdx?_cons, ez]
          simp [zne]
        have q := k _ s2
        rw [e] at q
        exact ⟨_, rfl, q⟩
      · have ze : z = 0 := by
          by_cases q : z = 0
          · exact q
          · exact absurd (show (!decide (V.int z = V.int 0)) = true by rw [decide_eq_false (fun q' => by injection q' with q'; exact q q')]; rfl) hne
        refine ⟨⟨_, _, rfl⟩, s2, fun x hx => ?_⟩
        rw [take_snoc hz] at hx
        rcases List.mem_append.mp hx with q | q
        · exact z1 x q
        · rw [List.mem_singleton.mp q]; exact ze
    · rintro σ H1 ⟨⟨x, y, rfl⟩, s1, z1⟩
      rw [List.length_map, List.take_length] at z1
      have e : leadN r = none := by
        unfold leadN
        rw [List.findIdx?_eq_none_iff]
        intro x hx
        simp [z1 x hx]
      have q := k _ s1
      rw [e] at q
      exact q
/-! without -/
def wo (row other : Row) : Row := match leadN other with
  | none => row
  | some at_ => if row.getD at_ 0 = 0 then row else prim (List.zipWith (fun o m => o * other.getD at_ 0 - m * row.getD at_ 0) row other)
theorem sub_lt {a b : Int} {n : Nat} (ha : a.natAbs < 2 ^ n) (hb : b.natAbs < 2 ^ n) : (a - b).natAbs < 2 ^ (n + 1) := by
  rw [Nat.pow_succ]
  omega
theorem getD_of {r : Row} {i : Nat} {z : Int} (h : r[i]? = some z) : r.getD i 0 = z := by
  rw [List.getD_eq_getElem?_getD, h]
  rfl
theorem cross_small {r o : Row} {B C : Nat} {d z : Int} (sr : Small r B) (so : Small o C) (hd : d.natAbs < 2 ^ C) (hz : z.natAbs < 2 ^ B) : Small (List.zipWith (fun x m => x * d - m * z) r o) (B + C + 1) := by
  intro v hv
  obtain ⟨i, hi, rfl⟩ := List.mem_iff_getElem.mp hv
  rw [List.getElem_zipWith]
  refine sub_lt (wide_lt (sr _ (List.getElem_mem _)) hd) ?_
  rw [Nat.add_comm B C]
  exact wide_lt (so _ (List.getElem_mem _)) hz
theorem lead_at {o : Row} {n : Nat} (h : leadN o = some n) : ∃ d, o[n]? = some d ∧ d ≠ 0 := by
  unfold leadN at h
  obtain ⟨hn, h1, _⟩ := List.findIdx?_eq_some_iff_getElem.mp h
  exact ⟨o[n], by simp [hn], by simpa using h1⟩
def spWo : Sp := fun vs H Q _ => ∃ (p q : Addr) (r o : Row) (B C : Nat), vs = [.ref p, .ref q] ∧ TupAt H p r ∧ TupAt H q o ∧ r.length = o.length ∧ r.length ≤ 100 ∧ Small r B ∧ Small o C ∧ 0 < B ∧ 0 < C ∧ B + C + 1 ≤ 9000 ∧ leadN o ≠ none ∧
  ∀ (t : Addr) (H' : Hp), Same H H' → TupAt H' t (wo r o) → Q (.ref t) H'
theorem ok_Wo {f : Addr} {fd : FuncData} (F : Fun K "without" "without" sWo f fd) (T : TxRow mg) (GL : Has P w K mg base CX0 1 "lead" PLead spLead) (GP : Has P w K mg base CX0 2 "primitive" PPrim spPrim) : FnOk P w K mg base CX0 3 f fd PWo spWo := by
  refine F.ok scWo (fun vs H Q E h => ?_) (fun cdv A outer s H vs Q E hr h => ?_)
  · obtain ⟨p, q, r, o, B, C, rfl, _⟩ := h
    rfl
  · obtain ⟨p, q, r, o, B, C, rfl, hp, hq, hl, hl1, sr, so, b0, c0, bc, ld, k⟩ := h
    have hr1 := hr.mono (j := 1) (by decide)
    refine ⟨_, (pss_cons (ps_set (i := 2) scWo.nd rfl (Or.inr rfl) (pe_callH GL hr1 rfl pass0 (pa_cons (pv 1) pa_nil)))
  (pss_cons (ps_if (pt_cmpR op_eq (pe_ix (r := rIxT K) ix_tup (pv 0) (pv 2) (fun _ _ => rfl)) pe_int (nomark _))
  (pss_one (ps_ret (pv 0)))
  pss_nil)
  (pss_one (ps_ret (pe_callH GP hr rfl pass0 (pa_cons (pe_callTy call_tuple_of (by rfl) T.n_tuple bb_tuple (pa_cons (pe_lc (own := [("one", 3), ("more", 4)]) (g := gTup K 2 (gCons (gName 3) (gCons (gName 4) gNil))) (tt := tYes) rfl scWo.nd (pi_zipS true true (by rfl) T.n_zip (pa_cons (pv 0) (pa_cons (pv 1) pa_nil)) (pk_cons pe_bl pk_nil)) (blkOk_by (own := [("one", 3), ("more", 4)]) (N := NWo) (sc := (defScope sWo)) (by decide +kernel)) (fun _ _ _ _ _ => (pg_tup (by rfl) (pgs_cons (pg_name (i := 3) scWo.nd rfl (Or.inl rfl)) (pgs_cons (pg_name (i := 4) scWo.nd rfl (Or.inl rfl)) pgs_nil)))) (fun _ _ _ _ _ => pts_nil) (fun _ _ _ _ _ => (pe_op op_sub (pe_op op_mulW (pv 3) (pe_ix (r := rIxT K) ix_tup (pv 1) (pv 2) (fun _ _ => rfl))) (pe_op op_mulW (pv 4) (pe_ix (r := rIxT K) ix_tup (pv 0) (pv 2) (fun _ _ => rfl)))))) pa_nil)) pa_nil)))))), ?_⟩
    obtain ⟨n, hn⟩ : ∃ n, leadN o = some n := Option.ne_none_iff_exists'.mp ld
    obtain ⟨d, hd, dne⟩ := lead_at hn
    have nlt : n < o.length := (List.getElem?_eq_some_iff.mp hd).1
    obtain ⟨z, hz⟩ : ∃ z, r[n]? = some z := ⟨r[n]'(by omega), by simp [show n < r.length by omega]⟩
    refine ⟨_, rfl, q, o, rfl, hq, fun H1 s1 => ?_⟩
    rw [hn]
    have hp1 := s1 _ _ hp
    have hq1 := s1 _ _ hq
    have az : atI (r.map V.int) ((n : Nat) : Int) = some (V.int z) := atI_nat (by rw [List.getElem?_map, hz]; rfl)
    have ad : atI (o.map V.int) ((n : Nat) : Int) = some (V.int d) := atI_nat (by rw [List.getElem?_map, hd]; rfl)
    have sz : z.natAbs < 2 ^ B := sr _ (List.mem_of_getElem? hz)
    have sd : d.natAbs < 2 ^ C := so _ (List.mem_of_getElem? hd)
    refine ⟨_, rfl, _, rfl, p, _, _, _, rfl, rfl, SqT.of hp1, az, rfl, _, rfl, ite2 (fun h0 => ?_) (fun h0 => ?_)⟩
    · have z0 : z = 0 := by
        have q := of_decide_eq_true h0
        injection q
      exact ⟨_, rfl, k p H1 s1 (by unfold wo; rw [hn]; show TupAt H1 p (if r.getD n 0 = 0 then r else _); rw [if_pos (by rw [getD_of hz]; exact z0)]; exact hp1)⟩
    · have z0 : z ≠ 0 := fun q => h0 (decide_eq_true (by rw [q]))
      refine ⟨_, rfl, _, rfl, p, q, _, _, rfl, rfl, SqT.of hp1, SqT.of hq1, fun D hD => ?_⟩
      refine lc_map (walk_zs (K := K) (t1 := true) (t2 := true) (a := p) (b := q) (xs := r.map V.int) (ys := o.map V.int) (by rw [List.length_map, List.length_map]; exact hl)) (fun i => V.int (r.getD i 0 * d - o.getD i 0 * z)) hD (by rw [List.length_map]; omega) (fun H2 s2 => ⟨SqT.of (s2 _ _ hp1), SqT.of (s2 _ _ hq1)⟩) ?_ ?_
      · rintro i x H2 H3 kk hi s2 ⟨T', u, v, rfl, hT, rfl, hu, hv⟩ kc
        obtain ⟨x1, hx1, rfl⟩ := int_at hu
        obtain ⟨y1, hy1, rfl⟩ := int_at hv
        have s3 := same_new (o := .tup [.int x1, .int y1]) hT
        have hp3 := s3 _ _ (s2 _ _ hp1)
        have hq3 := s3 _ _ (s2 _ _ hq1)
        refine ⟨T', _, rfl, SqT.of upd_same, rfl, _, _, rfl, _, _, rfl, rfl, rfl, _, rfl, _, rfl, _, rfl, q, _, _, _, rfl, rfl, SqT.of hq3, ad, _, _, rfl, rfl, wide_mul (sr _ (List.mem_of_getElem? hx1)) sd b0 c0 (by omega), _, rfl, _, rfl, _, rfl, p, _, _, _, rfl, rfl, SqT.of hp3, az, _, _, rfl, rfl, wide_mul (so _ (List.mem_of_getElem? hy1)) sz c0 b0 (by omega), _, _, rfl, rfl, ?_⟩
        have qq := kc _ s3
        rw [getD_of hx1, getD_of hy1] at qq
        exact qq
      · intro H2 s2 e2
        refine ⟨D, _, rfl, .inl ⟨SqL.of e2, fun l hl' => ?_⟩⟩
        have s3 := same_new (o := .tup ((List.range (r.map V.int).length).map fun i => V.int (r.getD i 0 * d - o.getD i 0 * z))) hl'
        have ez : (List.range (r.map V.int).length).map (fun i => V.int (r.getD i 0 * d - o.getD i 0 * z)) = (List.zipWith (fun x m => x * d - m * z) r o).map V.int := by
          refine List.ext_getElem? fun j => ?_
          rw [List.getElem?_map, List.getElem?_map, List.getElem?_zipWith]
          by_cases hj : j < r.length
          · rw [List.getElem?_range (by rw [List.length_map]; exact hj), List.getElem?_eq_getElem hj, List.getElem?_eq_getElem (show j < o.length by omega)]
            show some (V.int (r.getD j 0 * d - o.getD j 0 * z)) = some (V.int (r[j] * d - o[j] * z))
            rw [getD_of (List.getElem?_eq_getElem hj), getD_of (List.getElem?_eq_getElem (show j < o.length by omega))]
          · rw [List.getElem?_eq_none (by rw [List.length_range, List.length_map]; omega), List.getElem?_eq_none (show r.length ≤ j by omega)]
            rfl
        have cs := cross_small sr so sd sz
        refine ⟨l, List.zipWith (fun x m => x * d - m * z) r o, rfl, ?_, ?_, ?_, fun t H4 s4 e4 => k t H4 (((s1.trans s2).trans s3).trans s4) ?_⟩
        · show upd _ l _ l = _
          rw [upd_same, ez]
        · rw [List.length_zipWith]
          omega
        · exact fun x hx => Nat.lt_of_lt_of_le (cs x hx) (Nat.pow_le_pow_right (by decide) bc)
        · unfold wo
          rw [hn]
          show TupAt H4 t (if r.getD n 0 = 0 then r else _)
          rw [if_neg (by rw [getD_of hz]; exact z0), getD_of hz, getD_of hd]
          exact e4
/-! reduced_by -/
def woAll (rs : List Row) (r : Row) : Row := rs.foldl wo r
def RowsIn (H : Hp) (xs : List V) (rs : List Row) : Prop := Paired (fun v r => ∃ p, v = .ref p ∧ TupAt H p r) xs rs
theorem RowsIn.same {H H' : Hp} {xs : List V} {rs : List Row} (h : RowsIn H xs rs) (s : TSame H H') : RowsIn H' xs rs := Paired.mapP h fun _ _ ⟨p, e, q⟩ => ⟨p, e, s _ _ q⟩
theorem Paired.at {α β : Type} {F : α → β → Prop} {xs : List α} {ys : List β} (hp : Paired F xs ys) : ∀ {i : Nat} {x : α}, xs[i]? = some x → ∃ y, ys[i]? = some y ∧ F x y := by
  induction hp with
  | nil => intro i x z; simp at z
  | cons r _ ih =>
    intro i x z
    cases i with
    | zero => simp at z; subst z; exact ⟨_, rfl, r⟩
    | succ j => simp at z ⊢; exact ih z
theorem len_prim (r : Row) : (prim r).length = r.length := by
  unfold prim
  split
  · rfl
  · exact List.length_map ..
theorem abs_div_le (x : Int) (g : Nat) : (x / (g : Int)).natAbs ≤ x.natAbs := by
  rcases Nat.eq_zero_or_pos g with z | z
  · rw [z]
    simp
  · rcases Int.le_total 0 x with h | h
    · have h1 : 0 ≤ x / (g : Int) := Int.ediv_nonneg h (by omega)
      have h2 : x / (g : Int) ≤ x := Int.ediv_le_self _ h
      omega
    · have h1 : x / (g : Int) ≤ 0 := by
        have := Int.ediv_le_ediv (a := x) (b := 0) (c := (g : Int)) (by omega) h
        simpa using this
      have h2 : x ≤ x / (g : Int) := by
        rw [Int.le_ediv_iff_mul_le (by omega)]
        have : x * (g : Int) ≤ x * 1 := Int.mul_le_mul_of_nonpos_left h (by omega)
        simpa using this
      omega
theorem sgn_abs (r : Row) (x : Int) : (signR r * x).natAbs = x.natAbs := by
  unfold signR
  split
  · split <;> simp
  · simp
theorem small_prim {r : Row} {B : Nat} (h : Small r B) : Small (prim r) B := by
  unfold prim
  split
  · exact h
  · intro y hy
    obtain ⟨x, hx, rfl⟩ := List.mem_map.mp hy
    refine Nat.lt_of_le_of_lt (abs_div_le _ _) ?_
    rw [sgn_abs]
    exact h x hx
theorem len_wo {r o : Row} (h : r.length = o.length) : (wo r o).length = r.length := by
  unfold wo
  split
  · rfl
  · split
    · rfl
    · rw [len_prim, List.length_zipWith]
      omega
theorem small_mono {r : Row} {B C : Nat} (h : Small r B) (hc : B ≤ C) : Small r C := fun x hx => Nat.lt_of_lt_of_le (h x hx) (Nat.pow_le_pow_right (by decide) hc)
theorem getD_small {r : Row} {B : Nat} (h : Small r B) (i : Nat) : (r.getD i 0).natAbs < 2 ^ B := by
  rw [List.getD_eq_getElem?_getD]
  cases e : r[i]? with
  | none => exact Nat.two_pow_pos B
  | some x => exact h x (List.mem_of_getElem? e)
theorem small_wo {r o : Row} {B C : Nat} (hr : Small r B) (ho : Small o C) : Small (wo r o) (B + C + 1) := by
  unfold wo
  split
  · exact small_mono hr (by omega)
  · split
    · exact small_mono hr (by omega)
    · exact small_prim (cross_small hr ho (getD_small ho _) (getD_small hr _))
theorem woAll_inv {rs : List Row} {C n : Nat} : ∀ {r : Row} {B : Nat}, (∀ o ∈ rs, o.length = n ∧ Small o C) → r.length = n → Small r B → (woAll rs r).length = n ∧ Small (woAll rs r) (B + rs.length * (C + 1)) := by
  induction rs with
  | nil => intro r B _ hr hs; exact ⟨hr, by simpa [woAll] using hs⟩
  | cons o rs ih =>
    intro r B h hr hs
    obtain ⟨h1, h2⟩ := h o (List.mem_cons_self ..)
    have q := ih (r := wo r o) (B := B + C + 1) (fun x hx => h x (List.mem_cons_of_mem _ hx)) ((len_wo (hr.trans h1.symm)).trans hr) (small_wo hs h2)
    refine ⟨q.1, small_mono q.2 ?_⟩
    rw [List.length_cons, Nat.add_mul]
    omega
def spRB (K : PySem.W.Frag) : Sp := fun vs H Q _ => ∃ (L p : Addr) (xs : List V) (rs : List Row) (r : Row) (B C : Nat), vs = [.ref L, .ref p] ∧ H L = some (.lst xs) ∧ RowsIn H xs rs ∧ TupAt H p r ∧ (∀ o ∈ rs, o.length = r.length ∧ Small o C ∧ leadN o ≠ none) ∧ r.length ≤ 100 ∧ Small r B ∧ 0 < B ∧ 0 < C ∧ B + rs.length * (C + 1) ≤ 9000 ∧
  ∀ (t : Addr) (H' : Hp), Same H H' → TupAt H' t (prim (woAll rs r)) → Q (.ref t) H'
theorem ok_RB {f : Addr} {fd : FuncData} (F : Fun K "reduced_by" "reduced_by" sRB f fd) (T : TxRow mg) (GW : Has P w K mg base CX0 3 "without" PWo spWo) (GP : Has P w K mg base CX0 2 "primitive" PPrim spPrim) : FnOk P w K mg base CX0 4 f fd PRB (spRB K) := by
  refine F.ok scRB (fun vs H Q E h => ?_) (fun cdv A outer s H vs Q E hr h => ?_)
  · obtain ⟨L, p, xs, rs, r, B, C, rfl, _⟩ := h
    rfl
  · obtain ⟨L, p, xs, rs, r, B, C, rfl, hL, hx, hp, ho, hl, sr, b0, c0, bc, k⟩ := h
    have hr2 := hr.mono (j := 2) (by decide)
    refine ⟨_, (pss_cons (ps_for PassesOwn.never rfl (pi_list (pv 0)) (pg_name (i := 2) scRB.nd rfl (Or.inl rfl))
  (pss_one (ps_set (i := 1) scRB.nd rfl (Or.inl rfl) (pe_callH GW hr rfl pass0 (pa_cons (pv 1) (pa_cons (pv 2) pa_nil))))))
  (pss_one (ps_ret (pe_callH GP hr2 rfl pass0 (pa_cons (pv 1) pa_nil))))), ?_⟩
    have lx : xs.length = rs.length := Paired.length hx
    have inv : ∀ i, i ≤ rs.length → (woAll (rs.take i) r).length = r.length ∧ Small (woAll (rs.take i) r) (B + i * (C + 1)) := fun i hi => by
      have q := woAll_inv (rs := rs.take i) (C := C) (n := r.length) (fun o h => ⟨(ho o (List.mem_of_mem_take h)).1, (ho o (List.mem_of_mem_take h)).2.1⟩) rfl sr
      rw [List.length_take, Nat.min_eq_left hi] at q
      exact q
    refine ⟨_, rfl, L, rfl, ⟨_, SqL.of hL⟩, for_list (K := K) (a := L) (xs := xs) (fun i σ H' => Same H H' ∧ ∃ (t : Addr) (x : Option V), σ = [some (.ref L), some (.ref t), x] ∧ TupAt H' t (woAll (rs.take i) r)) ⟨Same.refl _, p, none, rfl, hp⟩ (fun i σ H' _ h' => SqL.of (h'.1 _ _ hL)) ?_ ?_⟩
    · rintro i v σ H1 hv ⟨s1, t, x, rfl, ht⟩
      obtain ⟨o, hoi, q, rfl, hq⟩ := Paired.at hx hv
      have hi : i < rs.length := (List.getElem?_eq_some_iff.mp hoi).1
      obtain ⟨o1, o2, o3⟩ := ho o (List.mem_of_getElem? hoi)
      obtain ⟨i1, i2⟩ := inv i (Nat.le_of_lt hi)
      have bi : i * (C + 1) + (C + 1) ≤ rs.length * (C + 1) := by
        rw [← Nat.succ_mul]
        exact Nat.mul_le_mul_right _ hi
      refine ⟨_, rfl, _, rfl, t, q, _, o, B + i * (C + 1), C, rfl, ht, s1 _ _ hq, i1.trans o1.symm, by omega, i2, o2, by omega, c0, by omega, o3, fun t' H2 s2 e2 => ⟨s1.trans s2, t', _, rfl, ?_⟩⟩
      rw [take_snoc hoi]
      unfold woAll at e2 ⊢
      rw [List.foldl_append]
      exact e2
    · rintro σ H1 ⟨s1, t, x, rfl, ht⟩
      rw [lx, List.take_length] at ht
      obtain ⟨i1, i2⟩ := inv rs.length (Nat.le_refl _)
      rw [List.take_length] at i1 i2
      exact ⟨_, rfl, t, _, rfl, ht, by omega, small_mono i2 bc, fun t' H2 s2 e2 => k t' H2 (s1.trans s2) e2⟩
/-! added -/
def leadD (r : Row) : Nat := (leadN r).getD 0
def restOf (rs : List Row) (r : Row) : Row := prim (woAll rs r)
/-- what added gives -/
def Adds (rs : List Row) (r : Row) (out : List Row) : Prop := (leadN (restOf rs r) = none ∧ out = rs) ∨
  (leadN (restOf rs r) ≠ none ∧ out.Perm ((rs.map (fun o => prim (wo o (restOf rs r)))) ++ [prim (restOf rs r)]) ∧ out.Pairwise (fun a b => leadD a ≤ leadD b))
theorem prim_zero {r : Row} (i : Nat) : (prim r).getD i 0 = 0 ↔ r.getD i 0 = 0 := by
  unfold prim
  split
  · exact Iff.rfl
  · rename_i g0
    rw [List.getD_eq_getElem?_getD, List.getD_eq_getElem?_getD, List.getElem?_map]
    cases e : r[i]? with
    | none => simp
    | some x =>
      simp only [Option.map_some, Option.getD_some]
      have d := gcd_dvd (List.mem_of_getElem? e)
      obtain ⟨c, hc⟩ := d
      have gz : ((gcdR r : Nat) : Int) ≠ 0 := by omega
      constructor
      · intro h
        rw [hc, Int.mul_left_comm, Int.mul_ediv_cancel_left _ gz] at h
        rcases Int.mul_eq_zero.mp h with q | q
        · exfalso
          unfold signR at q
          split at q
          · split at q <;> omega
          · omega
        · rw [hc, q, Int.mul_zero]
      · intro h
        rw [h]
        simp
theorem lead_of_zero {r o : Row} (hl : r.length = o.length) (h : ∀ i, r.getD i 0 = 0 ↔ o.getD i 0 = 0) : leadN r = leadN o := by
  unfold leadN
  have : ∀ (r o : Row), r.length = o.length → (∀ i, r.getD i 0 = 0 ↔ o.getD i 0 = 0) → r.findIdx? (· ≠ 0) = o.findIdx? (· ≠ 0) := by
    intro r
    induction r with
    | nil => intro o hl _; cases o with | nil => rfl | cons _ _ => cases hl
    | cons x r ih =>
      intro o hl h
      cases o with
      | nil => cases hl
      | cons y o =>
        have h0 := h 0
        simp only [List.getD_cons_zero] at h0
        rw [List.findIdx?_cons, List.findIdx?_cons, ih o (by simpa using hl) fun i => by simpa using h (i + 1)]
        have : decide (x ≠ 0) = decide (y ≠ 0) := by
          by_cases hx : x = 0
          · simp [hx, h0.mp hx]
          · have hy : ¬ y = 0 := fun q => hx (h0.mpr q)
            simp [hx, hy]
        rw [this]
  exact this r o hl h
theorem lead_prim (r : Row) : leadN (prim r) = leadN r := lead_of_zero (len_prim r) prim_zero
theorem rows_of {H : Hp} : ∀ {ys : List V} {fs : List Row}, ys.length = fs.length → (∀ i y, ys[i]? = some y → ∃ p, y = .ref p ∧ TupAt H p (fs.getD i [])) → RowsIn H ys fs
  | [], [], _, _ => .nil
  | [], _ :: _, h, _ => by cases h
  | _ :: _, [], h, _ => by cases h
  | y :: ys, f :: fs, h, k => .cons (k 0 y rfl) (rows_of (by simpa using h) fun i z hz => by simpa using k (i + 1) z (by simpa using hz))
theorem rows_at {H : Hp} {xs : List V} {rs : List Row} (h : RowsIn H xs rs) {i : Nat} {x : V} (hx : xs[i]? = some x) : ∃ p, x = .ref p ∧ TupAt H p (rs.getD i []) ∧ i < rs.length := by
  obtain ⟨r, hr, p, e, q⟩ := Paired.at h hx
  exact ⟨p, e, by rw [List.getD_eq_getElem?_getD, hr]; exact q, (List.getElem?_eq_some_iff.mp hr).1⟩
theorem getD_mem {rs : List Row} {i : Nat} (h : i < rs.length) : rs.getD i [] ∈ rs := by
  rw [List.getD_eq_getElem?_getD, List.getElem?_eq_getElem h]
  exact List.getElem_mem h
theorem RowsIn.snoc {H : Hp} : ∀ {xs : List V} {rs : List Row} {v : V} {r : Row}, RowsIn H xs rs → (∃ p, v = .ref p ∧ TupAt H p r) → RowsIn H (xs ++ [v]) (rs ++ [r])
  | _, _, _, _, .nil, h => .cons h .nil
  | _, _, _, _, .cons a t, h => .cons a (RowsIn.snoc t h)
theorem keyed {H : Hp} : ∀ {xs : List V} {rs : List Row}, RowsIn H xs rs → Paired (fun (r : Row) (a : Int × V) => a.1 = ((leadD r : Nat) : Int) ∧ ∃ p, a.2 = .ref p ∧ TupAt H p r) rs ((rs.map fun r => ((leadD r : Nat) : Int)).zip xs)
  | _, _, .nil => .nil
  | _, _, .cons a t => .cons ⟨rfl, a⟩ (keyed t)
theorem unkey {H : Hp} : ∀ {out : List Row} {ps : List (Int × V)}, Paired (fun (r : Row) (a : Int × V) => a.1 = ((leadD r : Nat) : Int) ∧ ∃ p, a.2 = .ref p ∧ TupAt H p r) out ps → RowsIn H (ps.map Prod.snd) out ∧ ps.map Prod.fst = out.map fun r => ((leadD r : Nat) : Int)
  | _, _, .nil => ⟨.nil, rfl⟩
  | _, _, .cons a t => ⟨.cons a.2 (unkey t).1, by rw [List.map_cons, List.map_cons, (unkey t).2, a.1]⟩
def spAdded (K : PySem.W.Frag) : Sp := fun vs H Q _ => ∃ (L p : Addr) (xs : List V) (rs : List Row) (r : Row) (B C : Nat), vs = [.ref L, .ref p] ∧ H L = some (.lst xs) ∧ RowsIn H xs rs ∧ TupAt H p r ∧ (∀ o ∈ rs, o.length = r.length ∧ Small o C ∧ leadN o ≠ none) ∧ r.length ≤ 100 ∧ rs.length < 60 ∧ Small r B ∧ 0 < B ∧ 0 < C ∧ B + (rs.length + 1) * (C + 1) ≤ 9000 ∧
  (leadN (restOf rs r) ≠ none → ∀ o ∈ rs, leadN (wo o (restOf rs r)) ≠ none) ∧
  ∀ (L' : Addr) (xs' : List V) (out : List Row) (H' : Hp), Same H H' → (L' = L ∨ H L' = none) → H' L' = some (.lst xs') → RowsIn H' xs' out → Adds rs r out → Q (.ref L') H'
theorem ok_Added {f : Addr} {fd : FuncData} (F : Fun K "added" "added" sAdded f fd) (T : TxRow mg) (GW : Has P w K mg base CX0 3 "without" PWo spWo) (GP : Has P w K mg base CX0 2 "primitive" PPrim spPrim) (GB : Has P w K mg base CX0 4 "reduced_by" PRB (spRB K))
    (GL : Has P w K mg base CX0 1 "lead" PLead spLead) : FnOk P w K mg base CX0 5 f fd PAdded (spAdded K) := by
  refine F.ok scAdded (fun vs H Q E h => ?_) (fun cdv A outer s H vs Q E hr h => ?_)
  · obtain ⟨L, p, xs, rs, r, B, C, rfl, _⟩ := h
    rfl
  · obtain ⟨L, p, xs, rs, r, B, C, rfl, hL, hx, hp, ho, hl, hl60, sr, b0, c0, bc, hw, k⟩ := h
    have hr3 := hr.mono (j := 3) (by decide)
    have hr2 := hr.mono (j := 2) (by decide)
    have hr1 := hr.mono (j := 1) (by decide)
    obtain ⟨fl, fdl, FL, ml, kl, bl⟩ := id GL.ex
    refine ⟨_, (pss_cons (ps_set (i := 2) scAdded.nd rfl (Or.inr rfl) (pe_callH GB hr rfl pass0 (pa_cons (pv 0) (pa_cons (pv 1) pa_nil))))
  (pss_cons (ps_if (pt_cmpR op_isN (pe_callH GL hr1 rfl pass0 (pa_cons (pv 2) pa_nil)) pe_non (nomark _))
  (pss_one (ps_ret (pv 0)))
  pss_nil)
  (pss_cons (ps_set (i := 3) scAdded.nd rfl (Or.inl rfl) (pe_lst (StX.pa_star (pe_lc (own := [("other", 4)]) (g := gName 4) (tt := tYes) rfl scAdded.nd (pi_list (pv 0)) (blkOk_by (own := [("other", 4)]) (N := NAdded) (sc := (defScope sAdded)) (by decide +kernel)) (fun _ _ _ _ _ => (pg_name (i := 4) scAdded.nd rfl (Or.inl rfl))) (fun _ _ _ _ _ => pts_nil) (fun _ _ _ _ _ => (pe_callH GW hr3 rfl pass0 (pa_cons (pv 4) (pa_cons (pv 2) pa_nil))))) (pa_cons (pv 2) pa_nil))))
  (pss_one (ps_ret (pe_callBK (cr_sortK FL bl hr3) (by rfl) T.n_sorted bb_sorted (pa_cons (pe_lc (own := [("other", 4)]) (g := gName 4) (tt := tYes) rfl scAdded.nd (pi_list (pv 3)) (blkOk_by (own := [("other", 4)]) (N := NAdded) (sc := (defScope sAdded)) (by decide +kernel)) (fun _ _ _ _ _ => (pg_name (i := 4) scAdded.nd rfl (Or.inl rfl))) (fun _ _ _ _ _ => pts_nil) (fun _ _ _ _ _ => (pe_callH GP hr2 rfl pass0 (pa_cons (pv 4) pa_nil)))) pa_nil) (pk_cons (pe_glob (v := .ref fl) rfl ml rfl) pk_nil))))))), ?_⟩
    have lx : xs.length = rs.length := Paired.length hx
    obtain ⟨w1, w2⟩ := woAll_inv (rs := rs) (C := C) (n := r.length) (fun o h => ⟨(ho o h).1, (ho o h).2.1⟩) rfl sr
    obtain ⟨rest, er⟩ : ∃ rest, rest = restOf rs r := ⟨_, rfl⟩
    have r1 : rest.length = r.length := by rw [er]; exact (len_prim _).trans w1
    have r2 : Small rest (B + rs.length * (C + 1)) := by rw [er]; exact small_prim w2
    have rm : (rs.length + 1) * (C + 1) = rs.length * (C + 1) + (C + 1) := Nat.succ_mul ..
    refine ⟨_, rfl, _, rfl, L, p, xs, rs, r, B, C, rfl, hL, hx, hp, ho, hl, sr, b0, c0, by omega, fun t H1 s1 ht => ?_⟩
    have ht : TupAt H1 t rest := by rw [er]; exact ht
    refine ⟨_, rfl, t, rest, rfl, ht, fun H2 s2 => ?_⟩
    have s12 := s1.trans s2
    have ht2 := s2 _ _ ht
    have hL2 := s12 _ _ hL
    have hx2 := hx.same (TSame.of s12)
    cases el : leadN rest with
    | none => exact ⟨rfl, _, rfl, _, rfl, k L xs rs H2 s12 (.inl rfl) hL2 hx2 (.inl ⟨by rw [← er]; exact el, rfl⟩)⟩
    | some n =>
      have lne : leadN rest ≠ none := by rw [el]; exact fun q => by cases q
      have hwo : ∀ o ∈ rs, leadN (wo o rest) ≠ none := by rw [er]; exact hw (by rw [← er]; exact lne)
      refine ⟨rfl, _, rfl, ?_⟩
      refine ⟨_, rfl, L, rfl, ⟨_, SqL.of hL2⟩, fun D hD => ?_⟩
      refine lc_rel (walk_list (K := K) (a := L) (xs := xs)) (fun i y H' => ∃ q, y = .ref q ∧ TupAt H' q (wo (rs.getD i []) rest)) (fun i y Ha Hb ts ⟨q, e, z⟩ => ⟨q, e, ts _ _ z⟩) hD (by omega) (fun H' s' => SqL.of (s' _ _ hL2)) ?_ ?_
      · rintro i x H3 H4 kk hi s3 ⟨rfl, hxi⟩ kc
        obtain ⟨q, rfl, hq, hil⟩ := rows_at hx2 hxi
        obtain ⟨o1, o2, o3⟩ := ho _ (getD_mem hil)
        refine ⟨rfl, _, rfl, _, rfl, q, t, _, rest, C, B + rs.length * (C + 1), rfl, s3 _ _ hq, s3 _ _ ht2, by rw [o1, r1], by omega, o2, r2, c0, by omega, by omega, lne, fun t' H5 s5 e5 => kc _ H5 s5 ⟨t', rfl, e5⟩⟩
      · intro ys H3 s3 eD ly py
        have R3 : RowsIn H3 ys (rs.map fun o => wo o rest) := rows_of (by rw [List.length_map]; omega) fun i y hy => by
          obtain ⟨q, e, z⟩ := py i y hy
          have hi : i < rs.length := by
            have := (List.getElem?_eq_some_iff.mp hy).1
            omega
          refine ⟨q, e, ?_⟩
          rw [List.getD_eq_getElem?_getD, List.getElem?_map, List.getElem?_eq_getElem hi]
          rw [List.getD_eq_getElem?_getD, List.getElem?_eq_getElem hi] at z
          exact z
        have ht3 := s3 _ _ ht2
        refine ⟨D, _, rfl, .inr (SqL.of eD), _, rfl, Nat.le_of_lt (small1000 (by rw [List.length_append]; show ys.length + 1 ≤ 1000; omega)), fun G hG => ?_⟩
        have s4 := same_new (o := .lst (ys ++ [.ref t])) hG
        have R4 : RowsIn (upd H3 G (.lst (ys ++ [.ref t]))) (ys ++ [.ref t]) ((rs.map fun o => wo o rest) ++ [rest]) := RowsIn.snoc (R3.same (TSame.of s4)) ⟨t, rfl, s4 _ _ ht3⟩
        obtain ⟨fs, efs⟩ : ∃ fs, fs = (rs.map fun o => wo o rest) ++ [rest] := ⟨_, rfl⟩
        rw [← efs] at R4
        have lfs : fs.length = rs.length + 1 := by rw [efs, List.length_append, List.length_map]; rfl
        have lys : (ys ++ [V.ref t]).length = fs.length := Paired.length R4
        have bfs : ∀ o ∈ fs, o.length ≤ 100 ∧ Small o 9000 ∧ leadN o ≠ none := fun o h => by
          rw [efs] at h
          rcases List.mem_append.mp h with q | q
          · obtain ⟨o', h', rfl⟩ := List.mem_map.mp q
            obtain ⟨o1, o2, o3⟩ := ho o' h'
            exact ⟨by rw [len_wo (by rw [o1, r1])]; omega, small_mono (small_wo o2 r2) (by omega), hwo o' h'⟩
          · rw [List.mem_singleton.mp q]
            exact ⟨by omega, small_mono r2 (by omega), lne⟩
        obtain ⟨H5, eH5⟩ : ∃ H5, H5 = upd H3 G (.lst (ys ++ [.ref t])) := ⟨_, rfl⟩
        have eG : H5 G = some (.lst (ys ++ [.ref t])) := by rw [eH5]; exact upd_same
        rw [← eH5] at R4 s4
        rw [← eH5]
        refine ⟨_, rfl, G, rfl, ⟨_, SqL.of eG⟩, fun D2 hD2 => ?_⟩
        refine lc_rel (walk_list (K := K) (a := G) (xs := ys ++ [.ref t])) (fun i y H' => ∃ q, y = .ref q ∧ TupAt H' q (prim (fs.getD i []))) (fun i y Ha Hb ts ⟨q, e, z⟩ => ⟨q, e, ts _ _ z⟩) hD2 (by omega) (fun H' s' => SqL.of (s' _ _ eG)) ?_ ?_
        · rintro i x H6 H7 kk hi s6 ⟨rfl, hxi⟩ kc
          obtain ⟨q, rfl, hq, hil⟩ := rows_at R4 hxi
          obtain ⟨o1, o2, o3⟩ := bfs _ (getD_mem hil)
          exact ⟨rfl, _, rfl, q, _, rfl, s6 _ _ hq, o1, o2, fun t' H8 s8 e8 => kc _ H8 s8 ⟨t', rfl, e8⟩⟩
        · intro zs H6 s6 eD2 lz pz
          have R6 : RowsIn H6 zs (fs.map prim) := rows_of (by rw [List.length_map]; omega) fun i y hy => by
            obtain ⟨q, e, z⟩ := pz i y hy
            have hi : i < fs.length := by
              have := (List.getElem?_eq_some_iff.mp hy).1
              omega
            refine ⟨q, e, ?_⟩
            rw [List.getD_eq_getElem?_getD, List.getElem?_map, List.getElem?_eq_getElem hi]
            rw [List.getD_eq_getElem?_getD, List.getElem?_eq_getElem hi] at z
            exact z
          have lz' : zs.length = (fs.map prim).length := Paired.length R6
          refine ⟨D2, zs, (fs.map prim).map fun r => ((leadD r : Nat) : Int), fun _ H' => Same H6 H', rfl, rfl, SqL.of eD2, by rw [List.length_map]; exact lz'.symm, by rw [lz', List.length_map]; omega, Same.refl _, ?_, ?_⟩
          · intro i x ky H' hx' hk s'
            obtain ⟨q, rfl, hq, hil⟩ := rows_at R6 hx'
            rw [List.getElem?_map, List.getElem?_eq_getElem hil] at hk
            rw [List.getD_eq_getElem?_getD, List.getElem?_eq_getElem hil] at hq
            have hk : some (((leadD ((fs.map prim)[i]) : Nat) : Int)) = some ky := hk
            have hm : (fs.map prim)[i] ∈ fs.map prim := List.getElem_mem hil
            refine ⟨q, _, rfl, s' _ _ hq, fun H7 s7 => ⟨?_, s'.trans s7⟩⟩
            obtain ⟨o, hom, eo⟩ := List.mem_map.mp hm
            show optV (leadN ((fs.map prim)[i])) = _
            rw [← Option.some.inj hk]
            unfold leadD
            cases q : leadN ((fs.map prim)[i]) with
            | none =>
              rw [← eo, lead_prim] at q
              exact absurd q (bfs o hom).2.2
            | some n => rfl
          · intro ps P' H7 s7 hperm hpw hP'
            obtain ⟨out, o1, o2⟩ := paired_perm hperm.symm (keyed (R6.same (TSame.of s7)))
            obtain ⟨u1, u2⟩ := unkey o2
            have s8 := same_new (o := .lst (ps.map Prod.snd)) hP'
            refine k P' _ out _ ((((s12.trans s3).trans s4).trans (s6.trans s7)).trans s8) (.inr ((((s12.trans s3).trans s4).trans (s6.trans s7)).free hP')) upd_same (u1.same (TSame.of s8)) (.inr ⟨by rw [← er]; exact lne, ?_, ?_⟩)
            · rw [← er]
              rw [efs, List.map_append, List.map_map] at o1
              exact o1
            · have q : (ps.map Prod.fst).Pairwise (· ≤ ·) := by rw [List.pairwise_map]; exact hpw
              rw [u2, List.pairwise_map] at q
              exact q.imp fun h => by omega
/-! is_row, where it is one -/
def spRow : Sp := fun vs H Q _ => ∃ (p : Addr) (r : Row), vs = [.ref p, .int (r.length : Nat)] ∧ TupAt H p r ∧ r.length ≤ 1000 ∧ ∀ H', Same H H' → Q (.bl true) H'
theorem ok_IsRow {f : Addr} {fd : FuncData} (F : Fun K "is_row" "is_row" sIsRow f fd) (T : TxRow mg) (GI : Has P w K mg base CX0 1 "is_integer" PIsInt (spIsInt K)) : FnOk P w K mg base CX0 2 f fd PIsRow spRow := by
  refine F.ok scIsRow (fun vs H Q E h => ?_) (fun cdv A outer s H vs Q E hr h => ?_)
  · obtain ⟨p, r, rfl, _⟩ := h
    rfl
  · obtain ⟨p, r, rfl, hp, hl, k⟩ := h
    refine ⟨_, (pss_one (ps_ret (pe_and (pe_callB call_isi (by rfl) T.n_isinstance bb_isinstance (pa_cons (pv 0) (pa_cons (pe_bltn (v := .ty "tuple") (by rfl) T.n_tuple bb_tuple rfl) pa_nil))) (pe_and (pe_cmpR op_eq (pe_callB call_len_seq (by rfl) T.n_len bb_len (pa_cons (pv 0) pa_nil)) (pv 1) (nomark _)) (pe_one (pe_callB (cr_all rfl) (by rfl) T.n_all bb_all (pa_cons (pe_lc (own := [("one", 2)]) (g := gName 2) (tt := tYes) rfl scIsRow.nd (pi_tup (pv 0)) (blkOk_by (own := [("one", 2)]) (N := NIsRow) (sc := (defScope sIsRow)) (by decide +kernel)) (fun _ _ _ _ _ => (pg_name (i := 2) scIsRow.nd rfl (Or.inl rfl))) (fun _ _ _ _ _ => pts_nil) (fun _ _ _ _ _ => (pe_callH GI hr rfl pass0 (pa_cons (pv 2) pa_nil)))) pa_nil))))))), ?_⟩
    refine ⟨_, rfl, _, _, _, _, _, rfl, .ty _, .base (.tup hp), kit_ty (r := true) (by decide +kernel), _, rfl, ?_⟩
    refine ⟨_, rfl, p, _, rfl, .inr (SqT.of hp), _, rfl, rfl, ?_⟩
    rw [List.length_map]
    refine ⟨true, by rw [decide_eq_true rfl], ?_⟩
    refine ⟨_, rfl, p, rfl, ⟨_, SqT.of hp⟩, fun D hD => ?_⟩
    refine lc_map (walk_tup (K := K) (a := p) (xs := r.map V.int)) (fun _ => V.bl true) hD (by rw [List.length_map]; exact hl) (fun H' s' => SqT.of (s' _ _ hp)) ?_ ?_
    · rintro i x H3 H4 kk hi s3 ⟨rfl, hxi⟩ kc
      obtain ⟨z, hz, rfl⟩ := int_at hxi
      exact ⟨rfl, _, rfl, _, rfl, .inl ⟨z, rfl, kc _ (Same.refl _)⟩⟩
    · intro H3 s3 e3
      refine ⟨D, (List.range (r.map V.int).length).map (fun _ => true), rfl, SqL.of (by rw [e3, List.map_map]; rfl), ?_⟩
      have ea : ((List.range (r.map V.int).length).map (fun _ => true)).all id = true := by
        rw [List.all_eq_true]
        intro b hb
        obtain ⟨_, _, rfl⟩ := List.mem_map.mp hb
        rfl
      rw [ea]
      exact k _ s3
end

/-! ### the plain law of rows: spans over the rationals -/
def ev (r : Row) (i : Nat) : Int := r.getD i 0
abbrev Vec := Nat → Int
inductive InSp (S : Row → Prop) : Vec → Prop
  | zero : InSp S (fun _ => 0)
  | add {u : Vec} (c : Int) {r : Row} : InSp S u → S r → InSp S (fun i => u i + c * ev r i)
theorem InSp.cg {S : Row → Prop} {u v : Vec} (h : InSp S u) (e : ∀ i, u i = v i) : InSp S v := by
  have : u = v := funext e
  rw [← this]
  exact h
theorem InSp.plus {S : Row → Prop} {u v : Vec} (h : InSp S u) (k : InSp S v) : InSp S (fun i => u i + v i) := by
  induction k with
  | zero => exact h.cg fun i => by simp
  | add c _ m ih => exact (InSp.add c ih m).cg fun i => by rw [Int.add_assoc]
theorem InSp.smul {S : Row → Prop} {u : Vec} (a : Int) (h : InSp S u) : InSp S (fun i => a * u i) := by
  induction h with
  | zero => exact InSp.zero.cg fun i => by simp
  | add c _ m ih => exact (InSp.add (a * c) ih m).cg fun i => by rw [Int.mul_add, Int.mul_assoc]
def QS (S : Row → Prop) (v : Vec) : Prop := ∃ m : Int, m ≠ 0 ∧ InSp S (fun i => m * v i)
theorem QS.cg {S : Row → Prop} {u v : Vec} (h : QS S u) (e : ∀ i, u i = v i) : QS S v := by
  have : u = v := funext e
  rw [← this]
  exact h
theorem QS.mem {S : Row → Prop} {r : Row} (h : S r) : QS S (ev r) := ⟨1, by decide, (InSp.add 1 .zero h).cg fun i => by simp⟩
theorem QS.plus {S : Row → Prop} {u v : Vec} (h : QS S u) (k : QS S v) : QS S (fun i => u i + v i) := by
  obtain ⟨m, m0, h⟩ := h
  obtain ⟨n, n0, k⟩ := k
  refine ⟨n * m, Int.mul_ne_zero n0 m0, ((h.smul n).plus (k.smul m)).cg fun i => ?_⟩
  rw [Int.mul_add, Int.mul_assoc, Int.mul_comm n m, Int.mul_assoc]
theorem QS.smul {S : Row → Prop} {u : Vec} (a : Int) (h : QS S u) : QS S (fun i => a * u i) := by
  obtain ⟨m, m0, h⟩ := h
  exact ⟨m, m0, (h.smul a).cg fun i => by rw [← Int.mul_assoc, ← Int.mul_assoc, Int.mul_comm a m]⟩
theorem QS.div {S : Row → Prop} {u : Vec} {a : Int} (ha : a ≠ 0) (h : QS S (fun i => a * u i)) : QS S u := by
  obtain ⟨m, m0, h⟩ := h
  exact ⟨m * a, Int.mul_ne_zero m0 ha, h.cg fun i => by rw [Int.mul_assoc]⟩
theorem QS.zero {S : Row → Prop} : QS S (fun _ => 0) := ⟨1, by decide, InSp.zero.cg fun i => by simp⟩
theorem InSp.trans {S T : Row → Prop} (h : ∀ r, S r → QS T (ev r)) {u : Vec} (k : InSp S u) : QS T u := by
  induction k with
  | zero => exact QS.zero
  | add c _ m ih => exact ih.plus ((h _ m).smul c)
theorem QS.trans {S T : Row → Prop} (h : ∀ r, S r → QS T (ev r)) {u : Vec} (k : QS S u) : QS T u := by
  obtain ⟨m, m0, k⟩ := k
  exact QS.div m0 (k.trans h)
/-- a combination: a * x = c * y - d * z -/
theorem QS.lin {S : Row → Prop} {x y z : Vec} {a c d : Int} (a0 : a ≠ 0) (e : ∀ i, a * x i = c * y i - d * z i) (hy : QS S y) (hz : QS S z) : QS S x :=
  QS.div a0 (((hy.smul c).plus (hz.smul (-d))).cg fun i => by rw [e i, Int.neg_mul]; omega)
/-! zeros and leads -/
theorem ev_out {r : Row} {i : Nat} (h : r.length ≤ i) : ev r i = 0 := by
  unfold ev
  rw [List.getD_eq_getElem?_getD, List.getElem?_eq_none h]
  rfl
theorem lead_none {r : Row} : leadN r = none ↔ ∀ i, ev r i = 0 := by
  unfold leadN ev
  rw [List.findIdx?_eq_none_iff]
  constructor
  · intro h i
    rw [List.getD_eq_getElem?_getD]
    cases e : r[i]? with
    | none => rfl
    | some x => simpa using h x (List.mem_of_getElem? e)
  · intro h x hx
    obtain ⟨i, hi, rfl⟩ := List.mem_iff_getElem.mp hx
    have q := h i
    rw [List.getD_eq_getElem?_getD, List.getElem?_eq_getElem hi] at q
    simpa using q
theorem lead_some {r : Row} {n : Nat} : leadN r = some n ↔ ev r n ≠ 0 ∧ ∀ j, j < n → ev r j = 0 := by
  unfold leadN
  rw [List.findIdx?_eq_some_iff_getElem]
  constructor
  · rintro ⟨hn, h1, h2⟩
    refine ⟨?_, fun j hj => ?_⟩
    · unfold ev
      rw [List.getD_eq_getElem?_getD, List.getElem?_eq_getElem hn]
      simpa using h1
    · unfold ev
      rw [List.getD_eq_getElem?_getD, List.getElem?_eq_getElem (by omega)]
      simpa using h2 j hj
  · rintro ⟨h1, h2⟩
    have hn : n < r.length := by
      rcases Nat.lt_or_ge n r.length with q | q
      · exact q
      · exact absurd (ev_out q) h1
    refine ⟨hn, ?_, fun j hj => ?_⟩
    · unfold ev at h1
      rw [List.getD_eq_getElem?_getD, List.getElem?_eq_getElem hn] at h1
      simpa using h1
    · have q := h2 j hj
      unfold ev at q
      rw [List.getD_eq_getElem?_getD, List.getElem?_eq_getElem (by omega)] at q
      simpa using q
theorem leadD_of {r : Row} {n : Nat} (h : leadN r = some n) : leadD r = n := by unfold leadD; rw [h]; rfl
theorem sgn_one (r : Row) : signR r = 1 ∨ signR r = -1 := by
  unfold signR
  split
  · split
    · exact .inl rfl
    · exact .inr rfl
  · exact .inl rfl
theorem prim_lin (r : Row) : ∃ a c : Int, a ≠ 0 ∧ c ≠ 0 ∧ ∀ i, a * ev (prim r) i = c * ev r i := by
  by_cases g0 : gcdR r = 0
  · refine ⟨1, 1, by decide, by decide, fun i => ?_⟩
    unfold prim
    rw [if_pos g0]
  · refine ⟨(gcdR r : Nat), signR r, by omega, ?_, fun i => ?_⟩
    · rcases sgn_one r with q | q <;> rw [q] <;> decide
    · unfold prim ev
      rw [if_neg g0, List.getD_eq_getElem?_getD, List.getD_eq_getElem?_getD, List.getElem?_map]
      cases e : r[i]? with
      | none => simp
      | some x =>
        show ((gcdR r : Nat) : Int) * ((signR r * x) / ((gcdR r : Nat) : Int)) = signR r * x
        obtain ⟨c, hc⟩ := gcd_dvd (List.mem_of_getElem? e)
        rw [Int.mul_ediv_cancel']
        exact ⟨signR r * c, by rw [hc, Int.mul_left_comm]⟩
theorem ev_prim {r : Row} {i : Nat} : ev (prim r) i = 0 ↔ ev r i = 0 := prim_zero i
theorem prim_pos {r : Row} {n : Nat} (h : leadN r = some n) : 0 < ev (prim r) n := by
  obtain ⟨h1, h2⟩ := lead_some.mp h
  have g0 : gcdR r ≠ 0 := fun q => by
    have hn : n < r.length := by
      rcases Nat.lt_or_ge n r.length with q | q
      · exact q
      · exact absurd (ev_out q) h1
    have e : ev r n = r[n] := by unfold ev; rw [List.getD_eq_getElem?_getD, List.getElem?_eq_getElem hn]; rfl
    exact h1 (e.trans (gcd_zero q (List.getElem_mem hn)))
  have hn : n < r.length := by
    rcases Nat.lt_or_ge n r.length with q | q
    · exact q
    · exact absurd (ev_out q) h1
  have e : r[n]? = some (ev r n) := by unfold ev; rw [List.getD_eq_getElem?_getD, List.getElem?_eq_getElem hn]; rfl
  have fx : r.find? (· ≠ 0) = some (ev r n) := by
    have q : leadN r = some n := h
    unfold leadN at q
    obtain ⟨_, q1, q2⟩ := List.findIdx?_eq_some_iff_getElem.mp q
    rw [List.find?_eq_some_iff_getElem]
    refine ⟨by simpa using h1, n, hn, ?_, fun j hj => by simpa using q2 j hj⟩
    rw [List.getElem?_eq_getElem hn] at e
    exact Option.some.inj e
  have sg : 0 < signR r * ev r n := by
    unfold signR
    rw [fx]
    show 0 < (if ev r n > 0 then (1 : Int) else -1) * ev r n
    split
    · omega
    · omega
  have val : ev (prim r) n = (signR r * ev r n) / ((gcdR r : Nat) : Int) := by
    unfold prim
    rw [if_neg g0]
    show (List.map _ r).getD n 0 = _
    rw [List.getD_eq_getElem?_getD, List.getElem?_map, e]
    rfl
  rw [val]
  obtain ⟨c, hc⟩ := gcd_dvd (List.mem_of_getElem? e)
  have gp : (0 : Int) < ((gcdR r : Nat) : Int) := by omega
  rw [hc, Int.mul_left_comm, Int.mul_ediv_cancel_left _ (by omega)]
  rw [hc, Int.mul_left_comm, Int.mul_comm] at sg
  exact Int.pos_of_mul_pos_left sg gp
theorem wo_lin {r o : Row} {n : Nat} (hl : r.length = o.length) (h : leadN o = some n) : ∃ a c d : Int, a ≠ 0 ∧ c ≠ 0 ∧ (∀ i, a * ev (wo r o) i = c * ev r i - d * ev o i) ∧ ev (wo r o) n = 0 ∧ (ev r n = 0 → wo r o = r) := by
  have on : ev o n ≠ 0 := (lead_some.mp h).1
  have hw : wo r o = if r.getD n 0 = 0 then r else prim (List.zipWith (fun x m => x * o.getD n 0 - m * r.getD n 0) r o) := by
    unfold wo
    rw [h]
  by_cases z : ev r n = 0
  · have e : wo r o = r := by rw [hw]; exact if_pos z
    refine ⟨1, 1, 0, by decide, by decide, fun i => ?_, ?_, fun _ => e⟩
    · rw [e]; omega
    · rw [e]; exact z
  · have e : wo r o = prim (List.zipWith (fun x m => x * o.getD n 0 - m * r.getD n 0) r o) := by rw [hw]; exact if_neg z
    have ez : ∀ i, ev (List.zipWith (fun x m => x * o.getD n 0 - m * r.getD n 0) r o) i = ev r i * ev o n - ev o i * ev r n := fun i => by
      by_cases hi : i < r.length
      · show (List.zipWith _ r o).getD i 0 = _
        rw [List.getD_eq_getElem?_getD, List.getElem?_zipWith, List.getElem?_eq_getElem hi, List.getElem?_eq_getElem (show i < o.length by omega)]
        show r[i] * ev o n - o[i] * ev r n = _
        have e1 : ev r i = r[i] := by unfold ev; rw [List.getD_eq_getElem?_getD, List.getElem?_eq_getElem hi]; rfl
        have e2 : ev o i = o[i]'(by omega) := by unfold ev; rw [List.getD_eq_getElem?_getD, List.getElem?_eq_getElem (show i < o.length by omega)]; rfl
        rw [e1, e2]
      · rw [ev_out (by rw [List.length_zipWith]; omega), ev_out (show r.length ≤ i by omega), ev_out (show o.length ≤ i by omega)]
        simp
    obtain ⟨a, c, a0, c0, hp⟩ := prim_lin (List.zipWith (fun x m => x * o.getD n 0 - m * r.getD n 0) r o)
    refine ⟨a, c * ev o n, c * ev r n, a0, Int.mul_ne_zero c0 on, fun i => ?_, ?_, fun q => absurd q z⟩
    · rw [e, hp i, ez i, Int.mul_sub, Int.mul_assoc, Int.mul_assoc, Int.mul_comm (ev o n) (ev r i), Int.mul_comm (ev r n) (ev o i)]
    · rw [e, ev_prim, ez n, Int.mul_comm, Int.sub_self]
/-! reduced systems -/
structure RS (w : Nat) (rs : List Row) : Prop where
  len : ∀ o ∈ rs, o.length = w
  ld : ∀ o ∈ rs, ∃ n, leadN o = some n ∧ 0 < ev o n
  red : rs.Pairwise (fun a b => leadD a < leadD b ∧ ev b (leadD a) = 0 ∧ ev a (leadD b) = 0)
theorem RS.lead {w : Nat} {rs : List Row} (h : RS w rs) {o : Row} (ho : o ∈ rs) : leadN o = some (leadD o) ∧ 0 < ev o (leadD o) := by
  obtain ⟨n, h1, h2⟩ := h.ld o ho
  rw [leadD_of h1]
  exact ⟨h1, h2⟩
theorem pw_of {α : Type} {R : α → α → Prop} {l : List α} (h : l.Pairwise R) : ∀ {a b : α}, a ∈ l → b ∈ l → a = b ∨ R a b ∨ R b a := by
  induction h with
  | nil => intro a b ha; cases ha
  | cons hx _ ih =>
    intro a b ha hb
    rcases List.mem_cons.mp ha with e | e
    · rcases List.mem_cons.mp hb with f | f
      · exact .inl (e.trans f.symm)
      · exact .inr (.inl (by rw [e]; exact hx b f))
    · rcases List.mem_cons.mp hb with f | f
      · exact .inr (.inr (by rw [f]; exact hx a e))
      · exact ih e f
theorem RS.zero {w : Nat} {rs : List Row} (h : RS w rs) {a b : Row} (ha : a ∈ rs) (hb : b ∈ rs) (ne : a ≠ b) : ev b (leadD a) = 0 := by
  rcases pw_of h.red ha hb with q | q | q
  · exact absurd q ne
  · exact q.2.1
  · exact q.2.2
theorem sum_upd {f g : Row → Int} {c : Int} {r : Row} : ∀ {rs : List Row}, rs.Nodup → r ∈ rs → (rs.map (fun o => (if o = r then f o + c else f o) * g o)).sum = (rs.map (fun o => f o * g o)).sum + c * g r
  | [], _, h => by cases h
  | o :: rs, nd, h => by
    obtain ⟨n1, n2⟩ := List.nodup_cons.mp nd
    rw [List.map_cons, List.map_cons, List.sum_cons, List.sum_cons]
    rcases List.mem_cons.mp h with e | e
    · subst e
      have q : ∀ x ∈ rs, (fun o => (if o = r then f o + c else f o) * g o) x = (fun o => f o * g o) x := fun x hx => by
        show (if x = r then f x + c else f x) * g x = f x * g x
        rw [if_neg (fun z => n1 (by rw [← z]; exact hx))]
      rw [List.map_congr_left q, if_pos rfl, Int.add_mul]
      omega
    · rw [sum_upd n2 e, if_neg (fun z => n1 (by rw [z]; exact e))]
      omega
theorem sum_one {f : Row → Int} {r : Row} : ∀ {rs : List Row}, rs.Nodup → r ∈ rs → (∀ o ∈ rs, o ≠ r → f o = 0) → (rs.map f).sum = f r
  | [], _, h, _ => by cases h
  | o :: rs, nd, h, z => by
    obtain ⟨n1, n2⟩ := List.nodup_cons.mp nd
    rw [List.map_cons, List.sum_cons]
    rcases List.mem_cons.mp h with e | e
    · subst e
      have q : ∀ rs : List Row, (∀ x ∈ rs, f x = 0) → (rs.map f).sum = 0 := by
        intro rs
        induction rs with
        | nil => intro _; rfl
        | cons y rs ih => intro hz; rw [List.map_cons, List.sum_cons, hz y (List.mem_cons_self ..), ih fun x hx => hz x (List.mem_cons_of_mem _ hx)]; rfl
      rw [q rs fun x hx => z x (List.mem_cons_of_mem _ hx) fun w => n1 (by rw [← w]; exact hx)]
      omega
    · rw [sum_one n2 e fun x hx => z x (List.mem_cons_of_mem _ hx), z o (List.mem_cons_self ..) fun w => n1 (by rw [w]; exact e)]
      omega
theorem sum_ne {f : Row → Int} : ∀ {rs : List Row}, (rs.map f).sum ≠ 0 → ∃ o ∈ rs, f o ≠ 0
  | [], h => absurd rfl h
  | o :: rs, h => by
    by_cases z : f o = 0
    · obtain ⟨x, hx, q⟩ := sum_ne (f := f) (rs := rs) (fun w => h (by rw [List.map_cons, List.sum_cons, z, w]; rfl))
      exact ⟨x, List.mem_cons_of_mem _ hx, q⟩
    · exact ⟨o, List.mem_cons_self .., z⟩
theorem RS.nodup {w : Nat} {rs : List Row} (h : RS w rs) : rs.Nodup := h.red.imp fun q e => by rw [e] at q; omega
theorem coefs {rs : List Row} (nd : rs.Nodup) {u : Vec} (k : InSp (· ∈ rs) u) : ∃ c : Row → Int, ∀ i, u i = (rs.map fun o => c o * ev o i).sum := by
  induction k with
  | zero =>
    refine ⟨fun _ => 0, fun i => ?_⟩
    have q : ∀ rs : List Row, (rs.map fun o => (0 : Int) * ev o i).sum = 0 := by
      intro rs
      induction rs with
      | nil => rfl
      | cons y rs ih => rw [List.map_cons, List.sum_cons, ih]; simp
    rw [q]
  | @add u c r _ m ih =>
    obtain ⟨f, hf⟩ := ih
    refine ⟨fun o => if o = r then f o + c else f o, fun i => ?_⟩
    show u i + c * ev r i = _
    rw [sum_upd (g := fun o => ev o i) nd m, hf i]
/-- what lies in the span of a reduced system has its lead among the leads -/
theorem RS.key {w : Nat} {rs : List Row} (h : RS w rs) {v : Row} {n : Nat} (hv : QS (· ∈ rs) (ev v)) (hn : leadN v = some n) : ∃ o ∈ rs, leadD o = n := by
  obtain ⟨m, m0, k⟩ := hv
  obtain ⟨c, hc⟩ := coefs h.nodup k
  obtain ⟨v1, v2⟩ := lead_some.mp hn
  have ne : (rs.map fun o => c o * ev o n).sum ≠ 0 := by
    rw [← hc n]
    exact Int.mul_ne_zero m0 v1
  obtain ⟨o, ho, hon⟩ := sum_ne ne
  have co : c o ≠ 0 := fun z => hon (by rw [z]; simp)
  have on : ev o n ≠ 0 := fun z => hon (by rw [z]; simp)
  obtain ⟨l1, l2⟩ := h.lead ho
  obtain ⟨l3, l4⟩ := lead_some.mp l1
  refine ⟨o, ho, ?_⟩
  have a1 : leadD o ≤ n := by
    rcases Nat.lt_or_ge n (leadD o) with q | q
    · exact absurd (l4 n q) on
    · exact q
  have at_ : m * ev v (leadD o) = c o * ev o (leadD o) := by
    rw [hc (leadD o)]
    exact sum_one (f := fun x => c x * ev x (leadD o)) h.nodup ho fun x hx hne => by
      show c x * ev x (leadD o) = 0
      rw [h.zero ho hx (Ne.symm hne)]
      simp
  have a2 : n ≤ leadD o := by
    rcases Nat.lt_or_ge (leadD o) n with q | q
    · exfalso
      rw [v2 _ q] at at_
      have z : c o * ev o (leadD o) = 0 := by rw [← at_]; simp
      rcases Int.mul_eq_zero.mp z with q' | q'
      · exact co q'
      · exact l3 q'
    · exact q
  omega
/-! added -/
theorem lead_ne_zero {r : Row} {n : Nat} (h : leadN r = some n) : leadN r ≠ none := by rw [h]; exact fun q => by cases q
theorem woAll_facts {w : Nat} {rs : List Row} (h : RS w rs) : ∀ (part : List Row), (∀ o ∈ part, o ∈ rs) → ∀ r : Row, r.length = w → (woAll part r).length = w ∧
    (∀ S : Row → Prop, (∀ o ∈ rs, S o) → QS S (ev r) → QS S (ev (woAll part r))) ∧ (∀ S : Row → Prop, (∀ o ∈ rs, S o) → QS S (ev (woAll part r)) → QS S (ev r)) ∧
    (∀ o ∈ rs, (o ∈ part ∨ ev r (leadD o) = 0) → ev (woAll part r) (leadD o) = 0) := by
  intro part
  induction part with
  | nil => exact fun _ r hr => ⟨hr, fun _ _ q => q, fun _ _ q => q, fun o _ q => q.elim (fun z => nomatch z) id⟩
  | cons o part ih =>
    intro hp r hr
    have ho := hp o (List.mem_cons_self ..)
    obtain ⟨l1, l2⟩ := h.lead ho
    have hl : r.length = o.length := hr.trans (h.len o ho).symm
    obtain ⟨a, c, d, a0, c0, e1, e2, e3⟩ := wo_lin hl l1
    obtain ⟨i1, i2, i3, i4⟩ := ih (fun x hx => hp x (List.mem_cons_of_mem _ hx)) (wo r o) ((len_wo hl).trans hr)
    refine ⟨i1, fun S hS q => i2 S hS (QS.lin a0 e1 q (QS.mem (hS o ho))), fun S hS q => ?_, fun x hx q => i4 x hx ?_⟩
    · refine QS.lin (x := ev r) (y := ev (wo r o)) (z := ev o) (a := c) (c := a) (d := -d) c0 (fun i => ?_) (i3 S hS q) (QS.mem (hS o ho))
      have := e1 i
      rw [Int.neg_mul]
      omega
    · by_cases hxo : x = o
      · subst hxo
        exact .inr e2
      · rcases q with q | q
        · rcases List.mem_cons.mp q with z | z
          · exact absurd z hxo
          · exact .inl z
        · refine .inr ?_
          have := e1 (leadD x)
          rw [q, h.zero hx ho hxo] at this
          have z : a * ev (wo r o) (leadD x) = 0 := by rw [this]; simp
          rcases Int.mul_eq_zero.mp z with z | z
          · exact absurd z a0
          · exact z
theorem rest_facts {w : Nat} {rs : List Row} (h : RS w rs) {r : Row} (hr : r.length = w) : (restOf rs r).length = w ∧
    (∀ S : Row → Prop, (∀ o ∈ rs, S o) → (QS S (ev r) ↔ QS S (ev (restOf rs r)))) ∧ ∀ o ∈ rs, ev (restOf rs r) (leadD o) = 0 := by
  obtain ⟨i1, i2, i3, i4⟩ := woAll_facts h rs (fun _ q => q) r hr
  obtain ⟨a, c, a0, c0, e⟩ := prim_lin (woAll rs r)
  refine ⟨(len_prim _).trans i1, fun S hS => ⟨fun q => ?_, fun q => i3 S hS ?_⟩, fun o ho => ev_prim.mpr (i4 o ho (.inl ho))⟩
  · exact QS.div a0 (((i2 S hS q).smul c).cg fun i => (e i).symm)
  · exact QS.div c0 ((q.smul a).cg fun i => e i)
theorem wo_rest {w : Nat} {rs : List Row} (h : RS w rs) {t o : Row} {l : Nat} (ht : t.length = w) (hl : leadN t = some l) (hz : ∀ o ∈ rs, ev t (leadD o) = 0) (ho : o ∈ rs) :
    (wo o t).length = w ∧ leadN (wo o t) = some (leadD o) ∧ ev (wo o t) l = 0 ∧ (∀ x ∈ rs, x ≠ o → ev (wo o t) (leadD x) = 0) ∧ leadD o ≠ l := by
  obtain ⟨l1, l2⟩ := h.lead ho
  obtain ⟨l3, l4⟩ := lead_some.mp l1
  obtain ⟨t3, t4⟩ := lead_some.mp hl
  have hlen : o.length = t.length := (h.len o ho).trans ht.symm
  obtain ⟨a, c, d, a0, c0, e1, e2, e3⟩ := wo_lin hlen hl
  have nel : leadD o ≠ l := fun q => t3 (by rw [← q]; exact hz o ho)
  have zero : ∀ {i : Nat}, ev o i = 0 → ev t i = 0 → ev (wo o t) i = 0 := fun {i} q1 q2 => by
    have := e1 i
    rw [q1, q2] at this
    have z : a * ev (wo o t) i = 0 := by rw [this]; simp
    rcases Int.mul_eq_zero.mp z with z | z
    · exact absurd z a0
    · exact z
  refine ⟨(len_wo hlen).trans (h.len o ho), ?_, e2, fun x hx ne => zero (h.zero hx ho ne) (hz x hx), nel⟩
  rcases Nat.lt_or_ge l (leadD o) with q | q
  · rw [e3 (l4 l q)]
    exact l1
  · rw [lead_some]
    refine ⟨fun z => ?_, fun j hj => zero (l4 j hj) (t4 j (by omega))⟩
    have := e1 (leadD o)
    rw [z, hz o ho] at this
    have z2 : c * ev o (leadD o) = 0 := by omega
    rcases Int.mul_eq_zero.mp z2 with z | z
    · exact c0 z
    · exact l3 z
theorem QS.prim {S : Row → Prop} {r : Row} : QS S (ev (prim r)) ↔ QS S (ev r) := by
  obtain ⟨a, c, a0, c0, e⟩ := prim_lin r
  exact ⟨fun q => QS.div c0 ((q.smul a).cg fun i => e i), fun q => QS.div a0 ((q.smul c).cg fun i => (e i).symm)⟩
theorem adds_RS {w : Nat} {rs out : List Row} {r : Row} (h : RS w rs) (hr : r.length = w) (ha : Adds rs r out) :
    RS w out ∧ (∀ v, QS (· ∈ out) v ↔ QS (fun x => x ∈ rs ∨ x = r) v) ∧ ((out.length = rs.length ∧ QS (· ∈ rs) (ev r)) ∨ (out.length = rs.length + 1 ∧ ¬ QS (· ∈ rs) (ev r))) := by
  obtain ⟨t1, t2, t3⟩ := rest_facts h hr
  rcases ha with ⟨ln, rfl⟩ | ⟨ln, hp, hs⟩
  · have inS : QS (· ∈ out) (ev r) := (t2 _ fun _ q => q).mpr (QS.zero.cg fun i => (lead_none.mp ln i).symm)
    refine ⟨h, fun v => ⟨fun q => q.trans fun x hx => QS.mem (.inl hx), fun q => q.trans fun x hx => ?_⟩, .inl ⟨rfl, inS⟩⟩
    rcases hx with hx | rfl
    · exact QS.mem hx
    · exact inS
  · obtain ⟨t, et⟩ : ∃ t, t = restOf rs r := ⟨_, rfl⟩
    rw [← et] at t1 t2 t3 ln hp
    obtain ⟨l, hl⟩ := Option.ne_none_iff_exists'.mp ln
    have wr := fun {o : Row} (ho : o ∈ rs) => wo_rest h t1 hl t3 ho
    have np : ∀ o ∈ rs, leadN (Aon.prim (wo o t)) = some (leadD o) := fun o ho => (lead_prim _).trans (wr ho).2.1
    have nd : ∀ o ∈ rs, leadD (Aon.prim (wo o t)) = leadD o := fun o ho => leadD_of (np o ho)
    have td : leadD (Aon.prim t) = l := leadD_of ((lead_prim t).trans hl)
    have mem : ∀ {x : Row}, x ∈ out ↔ (∃ o ∈ rs, Aon.prim (wo o t) = x) ∨ x = Aon.prim t := fun {x} => by
      rw [hp.mem_iff, List.mem_append, List.mem_map, List.mem_singleton]
    have nel : ∀ o ∈ rs, leadD o ≠ l := fun o ho => (wr ho).2.2.2.2
    have pn : out.Pairwise (fun a b => leadD a ≠ leadD b ∧ ev b (leadD a) = 0 ∧ ev a (leadD b) = 0) := by
      refine (hp.pairwise_iff (fun q => ⟨Ne.symm q.1, q.2.2, q.2.1⟩)).mpr ?_
      rw [List.pairwise_append]
      refine ⟨?_, List.pairwise_singleton _ _, ?_⟩
      · rw [List.pairwise_map]
        refine h.red.imp_of_mem fun {a b} ha hb q => ?_
        rw [nd a ha, nd b hb]
        have ne : a ≠ b := fun z => by rw [z] at q; omega
        exact ⟨by omega, ev_prim.mpr ((wr hb).2.2.2.1 a ha ne), ev_prim.mpr ((wr ha).2.2.2.1 b hb (Ne.symm ne))⟩
      · intro a ha b hb
        obtain ⟨o, ho, rfl⟩ := List.mem_map.mp ha
        rw [List.mem_singleton.mp hb, nd o ho, td]
        exact ⟨nel o ho, ev_prim.mpr (t3 o ho), ev_prim.mpr (wr ho).2.2.1⟩
    have toOut : ∀ x, x ∈ rs ∨ x = t → QS (· ∈ out) (ev x) := fun x hx => by
      have ht : QS (· ∈ out) (ev t) := QS.prim.mp (QS.mem (mem.mpr (.inr rfl)))
      rcases hx with hx | rfl
      · obtain ⟨a, c, d, a0, c0, e1, _, _⟩ := wo_lin ((h.len x hx).trans t1.symm) hl
        have hw : QS (· ∈ out) (ev (wo x t)) := QS.prim.mp (QS.mem (mem.mpr (.inl ⟨x, hx, rfl⟩)))
        refine QS.lin (x := ev x) (y := ev (wo x t)) (z := ev t) (a := c) (c := a) (d := -d) c0 (fun i => ?_) hw ht
        have := e1 i
        rw [Int.neg_mul]
        omega
      · exact ht
    refine ⟨⟨fun x hx => ?_, fun x hx => ?_, ?_⟩, fun v => ⟨fun q => q.trans fun x hx => ?_, fun q => q.trans fun x hx => ?_⟩, .inr ⟨?_, fun q => ?_⟩⟩
    · rcases mem.mp hx with ⟨o, ho, rfl⟩ | rfl
      · exact (len_prim _).trans (wr ho).1
      · exact (len_prim _).trans t1
    · rcases mem.mp hx with ⟨o, ho, rfl⟩ | rfl
      · exact ⟨_, np o ho, prim_pos (wr ho).2.1⟩
      · exact ⟨l, (lead_prim t).trans hl, prim_pos hl⟩
    · refine (hs.and pn).imp fun q => ?_
      exact ⟨by omega, q.2.2.1, q.2.2.2⟩
    · have tS : QS (fun x => x ∈ rs ∨ x = r) (ev t) := (t2 _ fun _ q => .inl q).mp (QS.mem (.inr rfl))
      rcases mem.mp hx with ⟨o, ho, rfl⟩ | rfl
      · obtain ⟨a, c, d, a0, c0, e1, _, _⟩ := wo_lin ((h.len o ho).trans t1.symm) hl
        exact QS.prim.mpr (QS.lin a0 e1 (QS.mem (.inl ho)) tS)
      · exact QS.prim.mpr tS
    · rcases hx with hx | rfl
      · exact toOut x (.inl hx)
      · have q : QS (fun y => y ∈ rs ∨ y = t) (ev x) := (t2 _ fun _ z => .inl z).mpr (QS.mem (.inr rfl))
        exact q.trans toOut
    · rw [hp.length_eq, List.length_append, List.length_map]
      rfl
    · obtain ⟨o, ho, e⟩ := h.key ((t2 _ fun _ z => z).mp q) hl
      exact nel o ho e
/-- what added wants known -/
theorem adds_pre {w : Nat} {rs : List Row} {r : Row} (h : RS w rs) (hr : r.length = w) : leadN (restOf rs r) ≠ none → ∀ o ∈ rs, leadN (wo o (restOf rs r)) ≠ none := fun ln o ho => by
  obtain ⟨t1, t2, t3⟩ := rest_facts h hr
  obtain ⟨l, hl⟩ := Option.ne_none_iff_exists'.mp ln
  rw [(wo_rest h t1 hl t3 ho).2.1]
  exact fun q => by cases q
/-! echelon systems, and how many rows they have -/
structure Ech (rs : List Row) : Prop where
  ld : ∀ o ∈ rs, leadN o ≠ none
  red : rs.Pairwise (fun a b => leadD a < leadD b)
theorem RS.ech {w : Nat} {rs : List Row} (h : RS w rs) : Ech rs := ⟨fun o ho => by rw [(h.lead ho).1]; exact fun q => (by cases q), h.red.imp fun q => q.1⟩
theorem Ech.key {rs : List Row} (h : Ech rs) {v : Row} {n : Nat} (hv : QS (· ∈ rs) (ev v)) (hn : leadN v = some n) : ∃ o ∈ rs, leadD o = n := by
  obtain ⟨m, m0, k⟩ := hv
  have nd : rs.Nodup := h.red.imp fun q e => by rw [e] at q; omega
  obtain ⟨c, hc⟩ := coefs nd k
  obtain ⟨v1, v2⟩ := lead_some.mp hn
  clear k nd
  -- the first row with a part
  have main : ∀ rs : List Row, Ech rs → (∀ i, m * ev v i = (rs.map fun o => c o * ev o i).sum) → ∃ o ∈ rs, leadD o = n := by
    intro rs
    induction rs with
    | nil =>
      intro _ e
      have := e n
      simp only [List.map_nil, List.sum_nil] at this
      exact absurd this (Int.mul_ne_zero m0 v1)
    | cons o rs ih =>
      intro hE e
      obtain ⟨p1, p2⟩ := List.pairwise_cons.mp hE.red
      have hE' : Ech rs := ⟨fun x hx => hE.ld x (List.mem_cons_of_mem _ hx), p2⟩
      by_cases co : c o = 0
      · obtain ⟨x, hx, q⟩ := ih hE' fun i => by rw [e i, List.map_cons, List.sum_cons, co]; simp
        exact ⟨x, List.mem_cons_of_mem _ hx, q⟩
      · refine ⟨o, List.mem_cons_self .., ?_⟩
        obtain ⟨l, hl⟩ := Option.ne_none_iff_exists'.mp (hE.ld o (List.mem_cons_self ..))
        obtain ⟨o3, o4⟩ := lead_some.mp hl
        have ol := leadD_of hl
        have zr : ∀ i, i ≤ l → (rs.map fun x => c x * ev x i).sum = 0 := fun i hi => by
          by_cases z : (rs.map fun x => c x * ev x i).sum = 0
          · exact z
          · exfalso
            obtain ⟨x, hx, q⟩ := sum_ne (f := fun x => c x * ev x i) z
            obtain ⟨lx, hlx⟩ := Option.ne_none_iff_exists'.mp (hE.ld x (List.mem_cons_of_mem _ hx))
            have := p1 x hx
            rw [ol, leadD_of hlx] at this
            exact q (by show c x * ev x i = 0; rw [(lead_some.mp hlx).2 i (by omega)]; simp)
        have low : ∀ i, i < l → ev v i = 0 := fun i hi => by
          have := e i
          rw [List.map_cons, List.sum_cons, zr i (by omega), o4 i hi] at this
          have z : m * ev v i = 0 := by rw [this]; simp
          rcases Int.mul_eq_zero.mp z with z | z
          · exact absurd z m0
          · exact z
        have atl : ev v l ≠ 0 := fun z => by
          have := e l
          rw [List.map_cons, List.sum_cons, zr l (Nat.le_refl _), z] at this
          have z2 : c o * ev o l = 0 := by
            have h2 : m * 0 = c o * ev o l + 0 := this
            omega
          rcases Int.mul_eq_zero.mp z2 with z | z
          · exact co z
          · exact o3 z
        rw [ol]
        have := lead_some.mpr ⟨atl, low⟩
        rw [hn] at this
        exact (Option.some.inj this).symm
  exact main rs h hc
theorem nodup_le : ∀ {a b : List Nat}, a.Nodup → (∀ x ∈ a, x ∈ b) → a.length ≤ b.length
  | [], _, _, _ => Nat.zero_le _
  | x :: a, b, nd, h => by
    obtain ⟨n1, n2⟩ := List.nodup_cons.mp nd
    have hx := h x (List.mem_cons_self ..)
    have q := nodup_le (a := a) (b := b.erase x) n2 fun y hy => by
      rw [List.mem_erase_of_ne (fun z => n1 (by rw [← z]; exact hy))]
      exact h y (List.mem_cons_of_mem _ hy)
    rw [List.length_erase_of_mem hx] at q
    have := List.length_pos_of_mem hx
    rw [List.length_cons]
    omega
theorem Ech.le {a b : List Row} (ha : Ech a) (hb : Ech b) (h : ∀ r ∈ a, QS (· ∈ b) (ev r)) : a.length ≤ b.length := by
  have nd : (a.map leadD).Nodup := by
    rw [List.nodup_iff_pairwise_ne, List.pairwise_map]
    exact ha.red.imp fun q => by omega
  have q := nodup_le (b := b.map leadD) nd fun n hn => by
    obtain ⟨r, hr, rfl⟩ := List.mem_map.mp hn
    obtain ⟨l, hl⟩ := Option.ne_none_iff_exists'.mp (ha.ld r hr)
    obtain ⟨o, ho, e⟩ := hb.key (h r hr) hl
    rw [leadD_of hl]
    exact List.mem_map.mpr ⟨o, ho, e⟩
  rw [List.length_map, List.length_map] at q
  exact q
theorem Ech.eq {a b : List Row} (ha : Ech a) (hb : Ech b) (h : ∀ v, QS (· ∈ a) v ↔ QS (· ∈ b) v) : a.length = b.length :=
  Nat.le_antisymm (ha.le hb fun r hr => (h _).mp (QS.mem hr)) (hb.le ha fun r hr => (h _).mpr (QS.mem hr))
theorem ev_range {n : Nat} {f : Nat → Int} {i : Nat} (h : i < n) : ev ((List.range n).map f) i = f i := by
  unfold ev
  rw [List.getD_eq_getElem?_getD, List.getElem?_map, List.getElem?_range h]
  rfl

/-! ### reduced rows without common factors are told by their span -/
theorem gcd_great {p q : Nat} : ∀ {r : Row} {g : Nat}, (∀ x ∈ r, (p : Int) ∣ (q : Int) * x) → p ∣ q * g → p ∣ q * r.foldl (fun g x => Int.gcd g x) g
  | [], _, _, h => h
  | y :: r, g, hx, h => gcd_great (r := r) (fun x hx' => hx x (List.mem_cons_of_mem _ hx')) (by
      have hy := hx y (List.mem_cons_self ..)
      have e : q * Int.gcd (g : Int) y = Nat.gcd (q * g) (q * y.natAbs) := by rw [Nat.gcd_mul_left]; rfl
      rw [e]
      refine Nat.dvd_gcd h ?_
      have z := Int.natAbs_dvd_natAbs.mpr hy
      rwa [Int.natAbs_natCast, Int.natAbs_mul, Int.natAbs_natCast] at z)
theorem row_ext {a b : Row} (hl : a.length = b.length) (h : ∀ i, ev a i = ev b i) : a = b := by
  refine List.ext_getElem hl fun i h1 h2 => ?_
  have z := h i
  unfold ev at z
  rw [List.getD_eq_getElem?_getD, List.getD_eq_getElem?_getD, List.getElem?_eq_getElem h1, List.getElem?_eq_getElem h2] at z
  exact z
theorem mem_ev {r : Row} {x : Int} (h : x ∈ r) : ∃ i, x = ev r i := by
  obtain ⟨i, hi⟩ := List.mem_iff_getElem?.mp h
  exact ⟨i, (getD_of hi).symm⟩
theorem ev_mem {r : Row} {i : Nat} (h : i < r.length) : ev r i ∈ r := by
  unfold ev
  rw [List.getD_eq_getElem?_getD, List.getElem?_eq_getElem h]
  exact List.getElem_mem h
theorem uniq_dvd {o o' : Row} {p q : Nat} (g1 : gcdR o = 1) (e : ∀ i, (q : Int) * ev o i = (p : Int) * ev o' i) : p ∣ q := by
  have z := gcd_great (p := p) (q := q) (r := o) (g := 0) (fun x hx => by
    obtain ⟨i, rfl⟩ := mem_ev hx
    rw [e i]
    exact Int.dvd_mul_right ..) (by rw [Nat.mul_zero]; exact Nat.dvd_zero _)
  rw [show o.foldl (fun g x => Int.gcd g x) 0 = 1 from g1, Nat.mul_one] at z
  exact z
theorem uniq_row {o o' : Row} {n : Nat} (hl : o.length = o'.length) (p0 : 0 < ev o n) (q0 : 0 < ev o' n) (g1 : gcdR o = 1) (g2 : gcdR o' = 1) (e : ∀ i, ev o' n * ev o i = ev o n * ev o' i) : o = o' := by
  obtain ⟨p, ep⟩ : ∃ p : Nat, ev o n = (p : Int) := ⟨(ev o n).toNat, by omega⟩
  obtain ⟨q, eq⟩ : ∃ q : Nat, ev o' n = (q : Int) := ⟨(ev o' n).toNat, by omega⟩
  rw [ep, eq] at e
  rw [ep] at p0
  rw [eq] at q0
  have h1 : p ∣ q := uniq_dvd g1 e
  have h2 : q ∣ p := uniq_dvd g2 fun i => (e i).symm
  obtain rfl : p = q := Nat.dvd_antisymm h1 h2
  exact row_ext hl fun i => Int.eq_of_mul_eq_mul_left (by omega) (e i)
theorem gcd_pos_of {r : Row} {n : Nat} (h : leadN r = some n) : gcdR r ≠ 0 := fun z => by
  obtain ⟨h1, _⟩ := lead_some.mp h
  refine h1 ?_
  by_cases hn : n < r.length
  · exact gcd_zero z (ev_mem hn)
  · exact ev_out (by omega)
theorem gcd_prim {r : Row} (h : gcdR r ≠ 0) : gcdR (prim r) = 1 := by
  obtain ⟨g, eg⟩ : ∃ g, g = gcdR r := ⟨_, rfl⟩
  obtain ⟨d, ed⟩ : ∃ d, d = gcdR (prim r) := ⟨_, rfl⟩
  have key : d * g ∣ 1 * gcdR r := gcd_great (r := r) (g := 0) (fun x hx => by
    have hg : ((gcdR r : Nat) : Int) ∣ signR r * x := Int.dvd_trans (gcd_dvd hx) (Int.dvd_mul_left ..)
    have hd : ((d : Nat) : Int) ∣ signR r * x / ((gcdR r : Nat) : Int) := by
      rw [ed]
      refine gcd_dvd ?_
      unfold prim
      rw [if_neg h]
      exact List.mem_map.mpr ⟨x, hx, rfl⟩
    obtain ⟨k, hk⟩ := hd
    have e1 : signR r * x = ((gcdR r : Nat) : Int) * (((d : Nat) : Int) * k) := by rw [← hk, Int.mul_ediv_cancel' hg]
    have e2 : x = signR r * (((gcdR r : Nat) : Int) * (((d : Nat) : Int) * k)) := by
      rw [← e1, ← Int.mul_assoc]
      rcases sgn_one r with z | z <;> rw [z] <;> simp
    refine ⟨signR r * k, ?_⟩
    rw [e2, eg, Int.natCast_mul, Int.natCast_one, Int.one_mul]
    simp only [Int.mul_assoc, Int.mul_comm, Int.mul_left_comm]) (by simp)
  rw [Nat.one_mul, ← eg] at key
  rw [← ed]
  have g0 : 0 < g := by omega
  obtain ⟨k, hk⟩ := key
  have h3 : g * (d * k) = g * 1 := by rw [Nat.mul_one]; conv => rhs; rw [hk]
                                      rw [Nat.mul_comm d g, Nat.mul_assoc]
  have h4 := Nat.eq_of_mul_eq_mul_left g0 h3
  exact Nat.eq_one_of_mul_eq_one_right h4
theorem sorted_ext {f : Row → Nat} : ∀ {a b : List Row}, a.Pairwise (fun x y => f x < f y) → b.Pairwise (fun x y => f x < f y) → (∀ x, x ∈ a ↔ x ∈ b) → a = b
  | [], [], _, _, _ => rfl
  | [], y :: b, _, _, h => nomatch (h y).mpr (List.mem_cons_self ..)
  | x :: a, [], _, _, h => nomatch (h x).mp (List.mem_cons_self ..)
  | x :: a, y :: b, ha, hb, h => by
    rw [List.pairwise_cons] at ha hb
    have exy : x = y := by
      rcases List.mem_cons.mp ((h x).mp (List.mem_cons_self ..)) with e | e
      · exact e
      · rcases List.mem_cons.mp ((h y).mpr (List.mem_cons_self ..)) with e2 | e2
        · exact e2.symm
        · have := ha.1 y e2
          have := hb.1 x e
          omega
    subst exy
    congr 1
    refine sorted_ext ha.2 hb.2 fun z => ⟨fun hz => ?_, fun hz => ?_⟩
    · rcases List.mem_cons.mp ((h z).mp (List.mem_cons_of_mem _ hz)) with e | e
      · subst e
        have := ha.1 z hz
        omega
      · exact e
    · rcases List.mem_cons.mp ((h z).mpr (List.mem_cons_of_mem _ hz)) with e | e
      · subst e
        have := hb.1 z hz
        omega
      · exact e
theorem RS.same_row {w : Nat} {a b : List Row} (ha : RS w a) (hb : RS w b) (hs : ∀ v, QS (· ∈ a) v ↔ QS (· ∈ b) v) {o o' : Row} (ho : o ∈ a) (ho' : o' ∈ b) (hl : leadD o = leadD o') (g1 : gcdR o = 1) (g2 : gcdR o' = 1) : o = o' := by
  obtain ⟨l1, p1⟩ := ha.lead ho
  obtain ⟨l2, p2⟩ := hb.lead ho'
  rw [← hl] at p2 l2
  have L1 := ha.len o ho
  have L2 := hb.len o' ho'
  refine uniq_row (L1.trans L2.symm) p1 p2 g1 g2 fun i => ?_
  obtain ⟨v, hv⟩ : ∃ v : Row, v = (List.range w).map fun i => ev o' (leadD o) * ev o i - ev o (leadD o) * ev o' i := ⟨_, rfl⟩
  have evv : ∀ i, ev v i = ev o' (leadD o) * ev o i - ev o (leadD o) * ev o' i := fun i => by
    by_cases hi : i < w
    · rw [hv, ev_range hi]
    · rw [hv, ev_out (by rw [List.length_map, List.length_range]; omega), ev_out (r := o) (i := i) (by omega), ev_out (r := o') (i := i) (by omega)]
      simp
  have vin : QS (· ∈ a) (ev v) := (((QS.mem ho).smul (ev o' (leadD o))).plus (((hs _).mpr (QS.mem ho')).smul (-ev o (leadD o)))).cg fun i => by
    rw [evv i, Int.neg_mul]
    omega
  cases lv : leadN v with
  | none =>
    have := (lead_none.mp lv) i
    rw [evv i] at this
    omega
  | some n =>
    exfalso
    obtain ⟨x, hx, xl⟩ := ha.key vin lv
    obtain ⟨y, hy, yl⟩ := hb.key ((hs _).mp vin) lv
    refine (lead_some.mp lv).1 ?_
    rw [evv n]
    by_cases e1 : x = o
    · have en : n = leadD o := by rw [← xl, e1]
      rw [en, Int.mul_comm, Int.sub_self]
    · have z1 := ha.zero hx ho e1
      rw [xl] at z1
      have e2 : y ≠ o' := fun e => e1 (by
        rcases pw_of ha.red hx ho with q | q | q
        · exact q
        · rw [xl, hl, ← e, yl] at q
          omega
        · rw [xl, hl, ← e, yl] at q
          omega)
      have z2 := hb.zero hy ho' e2
      rw [yl] at z2
      rw [z1, z2]
      simp
theorem RS.uniq {w : Nat} {a b : List Row} (ha : RS w a) (hb : RS w b) (ga : ∀ o ∈ a, gcdR o = 1) (gb : ∀ o ∈ b, gcdR o = 1) (hs : ∀ v, QS (· ∈ a) v ↔ QS (· ∈ b) v) : a = b := by
  refine sorted_ext (f := leadD) (ha.red.imp fun q => q.1) (hb.red.imp fun q => q.1) fun x => ⟨fun hx => ?_, fun hx => ?_⟩
  · obtain ⟨y, hy, e⟩ := hb.key ((hs _).mp (QS.mem hx)) (ha.lead hx).1
    rw [ha.same_row hb hs hx hy e.symm (ga x hx) (gb y hy)]
    exact hy
  · obtain ⟨y, hy, e⟩ := ha.key ((hs _).mpr (QS.mem hx)) (hb.lead hx).1
    rw [← ha.same_row hb hs hy hx e (ga y hy) (gb x hx)]
    exact hy
theorem RS.le_w {w : Nat} {a : List Row} (h : RS w a) : a.length ≤ w := by
  have q := nodup_le (a := a.map leadD) (b := List.range w) (by
    rw [List.nodup_iff_pairwise_ne, List.pairwise_map]
    exact h.red.imp fun q => by omega) fun x hx => by
      obtain ⟨o, ho, rfl⟩ := List.mem_map.mp hx
      rw [List.mem_range]
      have l1 := (h.lead ho).2
      by_cases z : leadD o < w
      · exact z
      · rw [ev_out (by rw [h.len o ho]; omega)] at l1
        omega
  rwa [List.length_map, List.length_range] at q
theorem adds_gcd {w : Nat} {rs out : List Row} {r : Row} (h : RS w rs) (hr : r.length = w) (hg : ∀ o ∈ rs, gcdR o = 1) (ha : Adds rs r out) : ∀ o ∈ out, gcdR o = 1 := by
  have pre := adds_pre h hr
  rcases ha with ⟨_, rfl⟩ | ⟨ln, hp, _⟩
  · exact hg
  · intro o ho
    have key : ∀ x : Row, leadN x ≠ none → gcdR (prim x) = 1 := fun x hx => by
      cases e : leadN x with
      | none => exact absurd e hx
      | some n => exact gcd_prim (gcd_pos_of e)
    rcases List.mem_append.mp (hp.mem_iff.mp ho) with q | q
    · obtain ⟨x, hx, rfl⟩ := List.mem_map.mp q
      exact key _ (pre ln x hx)
    · rw [List.mem_singleton.mp q]
      exact key _ ln

/-- there is always a reduced system -/
theorem adds_ex (rs : List Row) (r : Row) : ∃ out, Adds rs r out := by
  by_cases h : leadN (restOf rs r) = none
  · exact ⟨rs, .inl ⟨h, rfl⟩⟩
  · refine ⟨((rs.map (fun o => prim (wo o (restOf rs r)))) ++ [prim (restOf rs r)]).mergeSort fun a b => decide (leadD a ≤ leadD b), .inr ⟨h, List.mergeSort_perm .., ?_⟩⟩
    have q := List.pairwise_mergeSort (le := fun a b : Row => decide (leadD a ≤ leadD b)) (fun a b c h1 h2 => by simp only [decide_eq_true_eq] at *; omega) (fun a b => by simp only [Bool.or_eq_true, decide_eq_true_eq]; omega) ((rs.map (fun o => prim (wo o (restOf rs r)))) ++ [prim (restOf rs r)])
    exact q.imp fun h => by simpa using h

/-! ### a bound on reduced rows (pigeonholes) -/
def lin : List Row → (Nat → Int) → Vec
  | [], _, _ => 0
  | r :: rs, c, j => c 0 * ev r j + lin rs (fun i => c (i + 1)) j
theorem lin_in : ∀ (sub : List Row) (c : Nat → Int), InSp (· ∈ sub) (lin sub c)
  | [], _ => InSp.zero
  | r :: rs, c => by
    have q : ∀ {u : Vec}, InSp (· ∈ rs) u → InSp (· ∈ r :: rs) u := fun {u} h => by
      induction h with
      | zero => exact .zero
      | add a _ m ih => exact .add a ih (List.mem_cons_of_mem _ m)
    exact (InSp.add (c 0) (q (lin_in rs fun i => c (i + 1))) (List.mem_cons_self ..)).cg fun i => Int.add_comm ..
theorem lin_sub : ∀ (sub : List Row) (c d : Nat → Int) (j : Nat), lin sub (fun i => c i - d i) j = lin sub c j - lin sub d j
  | [], _, _, _ => by simp [lin]
  | r :: rs, c, d, j => by
    show (c 0 - d 0) * ev r j + lin rs (fun i => c (i + 1) - d (i + 1)) j = (c 0 * ev r j + lin rs _ j) - (d 0 * ev r j + lin rs _ j)
    rw [lin_sub rs (fun i => c (i + 1)) (fun i => d (i + 1)) j, Int.sub_mul]
    omega
theorem ev_small {r : Row} {B : Nat} (h : Small r B) (j : Nat) : (ev r j).natAbs ≤ 2 ^ B := Nat.le_of_lt (getD_small h j)
theorem lin_bound {B N : Nat} : ∀ (sub : List Row) (c : Nat → Int) (j : Nat), (∀ r ∈ sub, Small r B) → (∀ i, i < sub.length → (c i).natAbs ≤ N) → (lin sub c j).natAbs ≤ sub.length * (N * 2 ^ B)
  | [], _, _, _, _ => by simp [lin]
  | r :: rs, c, j, hs, hc => by
    have q := lin_bound rs (fun i => c (i + 1)) j (fun x hx => hs x (List.mem_cons_of_mem _ hx)) fun i hi => hc (i + 1) (by rw [List.length_cons]; omega)
    have a := hc 0 (by rw [List.length_cons]; omega)
    have b := ev_small (hs r (List.mem_cons_self ..)) j
    have m : (c 0 * ev r j).natAbs ≤ N * 2 ^ B := by rw [Int.natAbs_mul]; exact Nat.mul_le_mul a b
    show (c 0 * ev r j + lin rs (fun i => c (i + 1)) j).natAbs ≤ (rs.length + 1) * (N * 2 ^ B)
    rw [Nat.succ_mul]
    have := Int.natAbs_add_le (c 0 * ev r j) (lin rs (fun i => c (i + 1)) j)
    omega
theorem lin_split : ∀ (sub : List Row) (k : Nat) (d : Nat → Int), k < sub.length → ∃ u, InSp (· ∈ sub.eraseIdx k) u ∧ ∀ j, lin sub d j = d k * ev (sub.getD k []) j + u j
  | [], _, _, h => absurd h (by simp)
  | r :: rs, 0, d, _ => ⟨_, lin_in rs fun i => d (i + 1), fun j => rfl⟩
  | r :: rs, k + 1, d, h => by
    obtain ⟨u, hu, e⟩ := lin_split rs k (fun i => d (i + 1)) (by rw [List.length_cons] at h; omega)
    have q : ∀ {u : Vec}, InSp (· ∈ rs.eraseIdx k) u → InSp (· ∈ (r :: rs).eraseIdx (k + 1)) u := fun {u} h => by
      induction h with
      | zero => exact .zero
      | add a _ m ih => exact .add a ih (List.mem_cons_of_mem _ m)
    refine ⟨_, InSp.add (d 0) (q hu) (List.mem_cons_self ..), fun j => ?_⟩
    show d 0 * ev r j + lin rs (fun i => d (i + 1)) j = d (k + 1) * ev (rs.getD k []) j + (u j + d 0 * ev r j)
    rw [e j]
    omega
/-- a reduced system for any rows -/
theorem rs_ex {w : Nat} : ∀ (rows : List Row), (∀ r ∈ rows, r.length = w) → ∃ out, RS w out ∧ (∀ v, QS (· ∈ out) v ↔ QS (· ∈ rows) v) ∧ out.length ≤ rows.length
  | [], _ => ⟨[], ⟨(fun _ z => nomatch z), (fun _ z => nomatch z), .nil⟩, fun _ => Iff.rfl, Nat.le_refl _⟩
  | r :: rows, h => by
    obtain ⟨out, h1, h2, h3⟩ := rs_ex rows fun x hx => h x (List.mem_cons_of_mem _ hx)
    have hr := h r (List.mem_cons_self ..)
    obtain ⟨out', ha⟩ := adds_ex out r
    obtain ⟨a1, a2, a3⟩ := adds_RS h1 hr ha
    refine ⟨out', a1, fun v => (a2 v).trans ⟨fun q => q.trans fun x hx => ?_, fun q => q.trans fun x hx => ?_⟩, ?_⟩
    · rcases hx with hx | rfl
      · exact ((h2 _).mp (QS.mem hx)).trans fun y hy => QS.mem (List.mem_cons_of_mem _ hy)
      · exact QS.mem (List.mem_cons_self ..)
    · rcases List.mem_cons.mp hx with rfl | hx
      · exact QS.mem (.inr rfl)
      · exact ((h2 _).mpr (QS.mem hx)).trans fun y hy => QS.mem (.inl hy)
    · rw [List.length_cons]
      rcases a3 with q | q <;> omega
/-- as many rows as reduced ones: no combination of them is zero -/
theorem indep {w : Nat} {sub out : List Row} (hl : ∀ r ∈ sub, r.length = w) (ho : RS w out) (he : sub.length = out.length) (hs : ∀ v, QS (· ∈ sub) v ↔ QS (· ∈ out) v) {d : Nat → Int} (hz : ∀ j, lin sub d j = 0) {k : Nat} (hk : k < sub.length) : d k = 0 := by
  by_cases dk : d k = 0
  · exact dk
  exfalso
  obtain ⟨u, hu, e⟩ := lin_split sub k d hk
  have mem : ∀ x ∈ sub, x ∈ sub.eraseIdx k ∨ x = sub.getD k [] := fun x hx => by
    obtain ⟨i, hi⟩ := List.mem_iff_getElem?.mp hx
    by_cases ik : i = k
    · right
      rw [List.getD_eq_getElem?_getD, ← ik, hi]
      rfl
    · left
      rw [List.mem_eraseIdx_iff_getElem?]
      exact ⟨i, ik, hi⟩
  have one : QS (· ∈ sub.eraseIdx k) (ev (sub.getD k [])) := ⟨d k, dk, (hu.smul (-1)).cg fun j => by have := e j; rw [hz j] at this; omega⟩
  obtain ⟨out2, r1, r2, r3⟩ := rs_ex (w := w) (sub.eraseIdx k) fun x hx => hl x (List.mem_of_mem_eraseIdx hx)
  have eq := ho.ech.eq r1.ech fun v => (hs v).symm.trans (Iff.trans ⟨fun q => q.trans fun x hx => ?_, fun q => q.trans fun x hx => QS.mem (List.mem_of_mem_eraseIdx hx)⟩ (r2 v).symm)
  · rw [List.length_eraseIdx_of_lt hk] at r3
    omega
  · rcases mem x hx with z | rfl
    · exact QS.mem z
    · exact one
/-! pigeonholes -/
theorem pigeon1 {L : List Nat} {φ : Nat → Nat} {m : Nat} : ∀ {D : Nat}, (∀ x ∈ L, φ x < D) → (∀ d, (L.filter fun x => φ x = d).length ≤ m) → L.length ≤ D * m := by
  intro D
  induction D generalizing L with
  | zero =>
    intro h _
    cases L with
    | nil => exact Nat.zero_le _
    | cons x L => exact absurd (h x (List.mem_cons_self ..)) (by omega)
  | succ D ih =>
    intro h hm
    have q := ih (L := L.filter fun x => !decide (φ x = D)) (fun x hx => by
      obtain ⟨h1, h2⟩ := List.mem_filter.mp hx
      have := h x h1
      have h3 : φ x ≠ D := by simpa using h2
      omega) fun d => by
        refine Nat.le_trans ?_ (hm d)
        rw [List.filter_filter]
        have : ∀ l : List Nat, (l.filter fun x => decide (φ x = d) && !decide (φ x = D)).length ≤ (l.filter fun x => decide (φ x = d)).length := fun l => by
          induction l with
          | nil => exact Nat.le_refl _
          | cons y l ih2 =>
            rw [List.filter_cons, List.filter_cons]
            by_cases e1 : φ y = d <;> by_cases e2 : φ y = D <;> simp only [e1, e2, decide_true, decide_false, Bool.not_true, Bool.not_false, Bool.and_true, Bool.and_false, Bool.false_eq_true, if_true, if_false, List.length_cons] <;> first | omega | (split <;> (try rw [List.length_cons]) <;> omega)
        exact this L
    have sp : ∀ l : List Nat, l.length = (l.filter fun x => !decide (φ x = D)).length + (l.filter fun x => decide (φ x = D)).length := fun l => by
      induction l with
      | nil => rfl
      | cons y l ih2 =>
        rw [List.filter_cons, List.filter_cons, List.length_cons, ih2]
        cases decide (φ y = D) with
        | true => simp only [Bool.not_true, Bool.false_eq_true, if_false, if_true, List.length_cons]; omega
        | false => simp only [Bool.not_false, if_true, Bool.false_eq_true, if_false, List.length_cons]; omega
    have := hm D
    rw [sp L, Nat.succ_mul]
    omega
theorem pigeon {φ : Nat → Nat → Nat} {D : Nat} : ∀ (es : List Nat) {L : List Nat}, L.Nodup → (∀ e ∈ es, ∀ x ∈ L, φ e x < D) → D ^ es.length < L.length → ∃ x ∈ L, ∃ y ∈ L, x ≠ y ∧ ∀ e ∈ es, φ e x = φ e y
  | [], L, nd, _, hl => by
    match L, nd, hl with
    | x :: y :: L, nd, _ =>
      rw [List.nodup_cons] at nd
      exact ⟨x, List.mem_cons_self .., y, List.mem_cons_of_mem _ (List.mem_cons_self ..), fun e => nd.1 (by rw [e]; exact List.mem_cons_self ..), (fun _ z => nomatch z)⟩
    | [x], _, hl => exact absurd hl (by simp)
    | [], _, hl => exact absurd hl (by simp)
  | e :: es, L, nd, hb, hl => by
    by_cases h : ∀ d, (L.filter fun x => φ e x = d).length ≤ D ^ es.length
    · have q := pigeon1 (D := D) (hb e (List.mem_cons_self ..)) h
      rw [List.length_cons, Nat.pow_succ, Nat.mul_comm] at hl
      omega
    · simp only [Classical.not_forall] at h
      obtain ⟨d, hd⟩ := h
      obtain ⟨x, hx, y, hy, ne, k⟩ := pigeon es (L := L.filter fun x => φ e x = d) (nd.filter _) (fun e' he x hx => hb e' (List.mem_cons_of_mem _ he) x (List.mem_filter.mp hx).1) (by omega)
      obtain ⟨x1, x2⟩ := List.mem_filter.mp hx
      obtain ⟨y1, y2⟩ := List.mem_filter.mp hy
      refine ⟨x, x1, y, y1, ne, fun e' he => ?_⟩
      rcases List.mem_cons.mp he with rfl | he
      · rw [of_decide_eq_true x2, of_decide_eq_true y2]
      · exact k e' he
/-! digits -/
def dig (b x i : Nat) : Nat := x / b ^ i % b
theorem dig_ext {b : Nat} : ∀ (f : Nat) {x y : Nat}, x < b ^ f → y < b ^ f → (∀ i, i < f → dig b x i = dig b y i) → x = y
  | 0, x, y, hx, hy, _ => by
    rw [Nat.pow_zero] at hx hy
    omega
  | f + 1, x, y, hx, hy, h => by
    have b0 : 0 < b := by
      rcases Nat.eq_zero_or_pos b with z | z
      · rw [z, Nat.zero_pow (by omega)] at hx
        omega
      · exact z
    have h0 : x % b = y % b := by
      have q := h 0 (by omega)
      unfold dig at q
      rwa [Nat.pow_zero, Nat.div_one, Nat.div_one] at q
    have h1 : x / b = y / b := dig_ext f (by rw [Nat.pow_succ] at hx; exact (Nat.div_lt_iff_lt_mul b0).mpr hx) (by rw [Nat.pow_succ] at hy; exact (Nat.div_lt_iff_lt_mul b0).mpr hy) fun i hi => by
      have q := h (i + 1) (by omega)
      unfold dig at q ⊢
      rwa [Nat.pow_succ', ← Nat.div_div_eq_div_mul, ← Nat.div_div_eq_div_mul] at q
    rw [← Nat.div_add_mod x b, ← Nat.div_add_mod y b, h0, h1]
/-- a vector that is not zero, with small entries, that vanishes at given places fewer than the rows -/
theorem siegel {w B : Nat} {sub out : List Row} {es : List Nat} (hl : ∀ r ∈ sub, r.length = w) (hb : ∀ r ∈ sub, Small r B) (ho : RS w out) (he : sub.length = out.length) (hs : ∀ v, QS (· ∈ sub) v ↔ QS (· ∈ out) v) (hf : es.length + 1 = sub.length) :
    ∃ v : Vec, InSp (· ∈ sub) v ∧ (∃ j, v j ≠ 0) ∧ (∀ e ∈ es, v e = 0) ∧ ∀ j, (v j).natAbs ≤ (2 * (sub.length * 2 ^ B)) ^ sub.length := by
  obtain ⟨f, ef⟩ : ∃ f, f = sub.length := ⟨_, rfl⟩
  have efs : f = es.length + 1 := ef.trans hf.symm
  obtain ⟨F, eF⟩ : ∃ F, F = 2 * (f * 2 ^ B) := ⟨_, rfl⟩
  obtain ⟨N, eN⟩ : ∃ N, N = F ^ es.length := ⟨_, rfl⟩
  have pB : 0 < 2 ^ B := Nat.two_pow_pos B
  have F0 : 0 < F := by
    rw [eF]
    have : 0 < f * 2 ^ B := Nat.mul_pos (by omega) pB
    omega
  have N0 : 0 < N := by rw [eN]; exact Nat.pow_pos F0
  obtain ⟨c, ec⟩ : ∃ c : Nat → Nat → Int, c = fun x i => ((dig (N + 1) x i : Nat) : Int) := ⟨_, rfl⟩
  have cb : ∀ x i, (c x i).natAbs ≤ N := fun x i => by
    rw [ec]
    show ((dig (N + 1) x i : Nat) : Int).natAbs ≤ N
    rw [Int.natAbs_natCast]
    have : dig (N + 1) x i < N + 1 := Nat.mod_lt _ (by omega)
    omega
  obtain ⟨S, eS⟩ : ∃ S, S = f * (N * 2 ^ B) := ⟨_, rfl⟩
  have lb : ∀ x j, (lin sub (c x) j).natAbs ≤ S := fun x j => by rw [eS, ef]; exact lin_bound sub (c x) j hb fun i _ => cb x i
  have S2 : 2 * S = N * F := by
    rw [eS, eF]
    simp only [Nat.mul_comm, Nat.mul_left_comm]
  obtain ⟨x, hx, y, hy, ne, k⟩ := pigeon (φ := fun e x => (lin sub (c x) e + (S : Int)).toNat) (D := 2 * S + 1) es (L := List.range ((N + 1) ^ f)) List.nodup_range (fun e _ x _ => by
      have := lb x e
      show (lin sub (c x) e + (S : Int)).toNat < 2 * S + 1
      omega) (by
    rw [List.length_range]
    have e1 : (2 * S + 1) ^ es.length ≤ ((N + 1) * F) ^ es.length := Nat.pow_le_pow_left (by rw [S2, Nat.succ_mul]; omega) _
    have e2 : ((N + 1) * F) ^ es.length = (N + 1) ^ es.length * N := by rw [Nat.mul_pow, ← eN]
    have e3 : (N + 1) ^ es.length * N < (N + 1) ^ es.length * (N + 1) := Nat.mul_lt_mul_of_pos_left (by omega) (Nat.pow_pos (by omega))
    rw [efs, Nat.pow_succ]
    omega)
  have hx := List.mem_range.mp hx
  have hy := List.mem_range.mp hy
  have eq : ∀ e ∈ es, lin sub (c x) e = lin sub (c y) e := fun e he' => by
    have q : (lin sub (c x) e + (S : Int)).toNat = (lin sub (c y) e + (S : Int)).toNat := k e he'
    have h1 := lb x e
    have h2 := lb y e
    omega
  refine ⟨lin sub fun i => c x i - c y i, lin_in _ _, ?_, fun e he' => by rw [lin_sub, eq e he']; omega, fun j => ?_⟩
  · refine Classical.byContradiction fun hn => ne ?_
    have z : ∀ j, lin sub (fun i => c x i - c y i) j = 0 := fun j => Classical.byContradiction fun h => hn ⟨j, h⟩
    refine dig_ext f hx hy fun i hi => ?_
    have q := indep hl ho he hs z (k := i) (by omega)
    rw [ec] at q
    have q : ((dig (N + 1) x i : Nat) : Int) - ((dig (N + 1) y i : Nat) : Int) = 0 := q
    omega
  · have q := lin_bound (B := B) (N := N) sub (fun i => c x i - c y i) j hb fun i _ => by
      rw [ec]
      have h1 : dig (N + 1) x i < N + 1 := Nat.mod_lt _ (by omega)
      have h2 : dig (N + 1) y i < N + 1 := Nat.mod_lt _ (by omega)
      show (((dig (N + 1) x i : Nat) : Int) - ((dig (N + 1) y i : Nat) : Int)).natAbs ≤ N
      omega
    rw [← ef, ← eS] at q
    rw [← ef, ← eF, efs, Nat.pow_succ, ← eN, ← S2]
    omega

/-! ### is_row with both answers; reduced, a bound by pigeonholes -/
theorem QS.iff_of {S T : Row → Prop} (h1 : ∀ r, S r → QS T (ev r)) (h2 : ∀ r, T r → QS S (ev r)) (v : Vec) : QS S v ↔ QS T v := ⟨fun q => q.trans h1, fun q => q.trans h2⟩
section
variable {P : Program} {w : World} {K : PySem.W.Frag} {mg : Str → Option Value} {base : Heap}
/-- what is no row of n numbers -/
inductive NoRow (K : PySem.W.Frag) (H : Hp) (n : Nat) : V → Prop where
  | kind {v : V} {t : Value} (ty : TyX K H v t) (k : PySem.W.kitOne K t (.type "tuple") = some false) : NoRow K H n v
  | len {p : Addr} {xs : List V} (e : H p = some (.tup xs)) (h : xs.length ≠ n) : NoRow K H n (.ref p)
  | item {p : Addr} {xs : List V} (e : H p = some (.tup xs)) (h : xs.length = n) (h0 : 0 < n) (h1 : n ≤ 1000) (k : ∀ H', Same H H' → ∀ x ∈ xs, NoInt K H' x) : NoRow K H n (.ref p)
def spRowG (K : PySem.W.Frag) : Sp := fun vs H Q _ => ∃ (v : V) (n : Nat), vs = [v, .int (n : Nat)] ∧ ((∃ (p : Addr) (r : Row), v = .ref p ∧ TupAt H p r ∧ r.length = n ∧ r.length ≤ 1000 ∧ ∀ H', Same H H' → Q (.bl true) H') ∨ (NoRow K H n v ∧ ∀ H', Same H H' → Q (.bl false) H'))
theorem ok_IsRowG {f : Addr} {fd : FuncData} (F : Fun K "is_row" "is_row" sIsRow f fd) (T : TxRow mg) (GI : Has P w K mg base CX0 1 "is_integer" PIsInt (spIsInt K)) : FnOk P w K mg base CX0 2 f fd PIsRow (spRowG K) := by
  refine F.ok scIsRow (fun vs H Q E h => ?_) (fun cdv A outer s H vs Q E hr h => ?_)
  · obtain ⟨v, n, rfl, _⟩ := h
    rfl
  · obtain ⟨v, n, rfl, h⟩ := h
    refine ⟨_, (pss_one (ps_ret (pe_and (pe_callB call_isi (by rfl) T.n_isinstance bb_isinstance (pa_cons (pv 0) (pa_cons (pe_bltn (v := .ty "tuple") (by rfl) T.n_tuple bb_tuple rfl) pa_nil))) (pe_and (pe_cmpR op_eq (pe_callB call_len_seq (by rfl) T.n_len bb_len (pa_cons (pv 0) pa_nil)) (pv 1) (nomark _)) (pe_one (pe_callB (cr_all rfl) (by rfl) T.n_all bb_all (pa_cons (pe_lc (own := [("one", 2)]) (g := gName 2) (tt := tYes) rfl scIsRow.nd (pi_tup (pv 0)) (blkOk_by (own := [("one", 2)]) (N := NIsRow) (sc := (defScope sIsRow)) (by decide +kernel)) (fun _ _ _ _ _ => (pg_name (i := 2) scIsRow.nd rfl (Or.inl rfl))) (fun _ _ _ _ _ => pts_nil) (fun _ _ _ _ _ => (pe_callH GI hr rfl pass0 (pa_cons (pv 2) pa_nil)))) pa_nil))))))), ?_⟩
    rcases h with ⟨p, r, rfl, hp, hn, hl, k⟩ | ⟨h, k⟩
    · refine ⟨_, rfl, _, _, _, _, _, rfl, .ty _, .base (.tup hp), kit_ty (r := true) (by decide +kernel), _, rfl, ?_⟩
      refine ⟨_, rfl, p, _, rfl, .inr (SqT.of hp), _, rfl, rfl, ?_⟩
      rw [List.length_map, hn]
      refine ⟨true, by rw [decide_eq_true rfl], ?_⟩
      refine ⟨_, rfl, p, rfl, ⟨_, SqT.of hp⟩, fun D hD => ?_⟩
      refine lc_map (walk_tup (K := K) (a := p) (xs := r.map V.int)) (fun _ => V.bl true) hD (by rw [List.length_map]; exact hl) (fun H' s' => SqT.of (s' _ _ hp)) ?_ ?_
      · rintro i x H3 H4 kk hi s3 ⟨rfl, hxi⟩ kc
        obtain ⟨z, hz, rfl⟩ := int_at hxi
        exact ⟨rfl, _, rfl, _, rfl, .inl ⟨z, rfl, kc _ (Same.refl _)⟩⟩
      · intro H3 s3 e3
        refine ⟨D, (List.range (r.map V.int).length).map (fun _ => true), rfl, SqL.of (by rw [e3, List.map_map]; rfl), ?_⟩
        have ea : ((List.range (r.map V.int).length).map (fun _ => true)).all id = true := by
          rw [List.all_eq_true]
          intro b hb
          obtain ⟨_, _, rfl⟩ := List.mem_map.mp hb
          rfl
        rw [ea]
        exact k _ s3
    · cases h with
      | kind ty kt => exact ⟨_, rfl, _, _, _, _, _, rfl, .ty _, ty, kt, _, rfl, k _ (Same.refl _)⟩
      | @len p xs e ne =>
        refine ⟨_, rfl, _, _, _, _, _, rfl, .ty _, .base (.tup e), kit_ty (r := true) (by decide +kernel), _, rfl, ?_⟩
        refine ⟨_, rfl, p, _, rfl, .inr (SqT.of e), _, rfl, rfl, ?_⟩
        refine ⟨false, by rw [decide_eq_false fun z => ne (by injection z with z; omega)], ?_⟩
        exact k _ (Same.refl _)
      | @item p xs e hn h0 h1 ki =>
        refine ⟨_, rfl, _, _, _, _, _, rfl, .ty _, .base (.tup e), kit_ty (r := true) (by decide +kernel), _, rfl, ?_⟩
        refine ⟨_, rfl, p, _, rfl, .inr (SqT.of e), _, rfl, rfl, ?_⟩
        rw [hn]
        refine ⟨true, by rw [decide_eq_true rfl], ?_⟩
        refine ⟨_, rfl, p, rfl, ⟨_, SqT.of e⟩, fun D hD => ?_⟩
        refine lc_map (walk_tup (K := K) (a := p) (xs := xs)) (fun _ => V.bl false) hD (by omega) (fun H' s' => SqT.of (s' _ _ e)) ?_ ?_
        · rintro i x H3 H4 kk hi s3 ⟨rfl, hxi⟩ kc
          exact ⟨rfl, _, rfl, _, rfl, .inr ⟨ki _ s3 x (List.mem_of_getElem? hxi), kc _ (Same.refl _)⟩⟩
        · intro H3 s3 e3
          refine ⟨D, (List.range xs.length).map (fun _ => false), rfl, SqL.of (by rw [e3, List.map_map]; rfl), ?_⟩
          have ea : ((List.range xs.length).map (fun _ => false)).all id = false := by
            rw [List.all_eq_false]
            exact ⟨false, List.mem_map.mpr ⟨0, List.mem_range.mpr (by omega), rfl⟩, by decide⟩
          rw [ea]
          exact k _ s3
end
def EB (B f : Nat) : Nat := if f = 0 then 1 else (B + f + 1) * f
theorem EB_mono {B f g : Nat} (h : f ≤ g) : EB B f ≤ EB B g := by
  unfold EB
  by_cases hf : f = 0
  · rw [if_pos hf]
    by_cases hg : g = 0
    · rw [if_pos hg]
      exact Nat.le_refl _
    · rw [if_neg hg]
      exact Nat.mul_pos (by omega) (by omega)
  · rw [if_neg hf, if_neg (by omega)]
    exact Nat.mul_le_mul (by omega) h
theorem EB_pos (B f : Nat) : 0 < EB B f := Nat.lt_of_lt_of_le (show 0 < 1 by decide) (EB_mono (f := 0) (Nat.zero_le f))
theorem lt_two (f : Nat) : f < 2 ^ f := Nat.lt_two_pow_self
theorem big_lt {B f : Nat} (h : 0 < f) : (2 * (f * 2 ^ B)) ^ f < 2 ^ ((B + f + 1) * f) := by
  rw [Nat.pow_mul]
  refine Nat.pow_lt_pow_left ?_ (by omega)
  rw [Nat.pow_succ, Nat.pow_add, Nat.mul_comm (2 ^ B), Nat.mul_comm 2]
  exact Nat.mul_lt_mul_of_pos_right (Nat.mul_lt_mul_of_pos_right (lt_two f) (Nat.two_pow_pos B)) (by decide)
/-- reduced rows are small where as many rows span the same -/
theorem rs_small {w B : Nat} {sub out : List Row} (hl : ∀ r ∈ sub, r.length = w) (hb : ∀ r ∈ sub, Small r B) (ho : RS w out) (hg : ∀ o ∈ out, gcdR o = 1) (he : sub.length = out.length) (hs : ∀ v, QS (· ∈ sub) v ↔ QS (· ∈ out) v) : ∀ o ∈ out, Small o (EB B out.length) := by
  intro o hoo
  have nd := ho.nodup
  have pos : 0 < out.length := List.length_pos_of_mem hoo
  obtain ⟨v, v1, ⟨j0, v2⟩, v3, v4⟩ := siegel (es := (out.erase o).map leadD) hl hb ho he hs (by rw [List.length_map, List.length_erase_of_mem hoo]; omega)
  obtain ⟨m, m0, hm⟩ := (hs v).mp ⟨1, by decide, v1.cg fun i => by simp⟩
  obtain ⟨c, hc⟩ := coefs nd hm
  have zero : ∀ x ∈ out, x ≠ o → c x = 0 := fun x hx ne => by
    have lx := ho.lead hx
    have e := hc (leadD x)
    rw [v3 _ (List.mem_map.mpr ⟨x, (List.mem_erase_of_ne ne).mpr hx, rfl⟩), Int.mul_zero, sum_one (f := fun y => c y * ev y (leadD x)) nd hx (fun y hy hyx => by rw [ho.zero hx hy hyx.symm, Int.mul_zero])] at e
    rcases Int.mul_eq_zero.mp e.symm with z | z
    · exact z
    · omega
  have prop : ∀ i, m * v i = c o * ev o i := fun i => by
    rw [hc i, sum_one (f := fun y => c y * ev y i) nd hoo (fun y hy hyo => by rw [zero y hy hyo, Int.zero_mul])]
  have c0 : c o ≠ 0 := fun z => by
    have q := prop j0
    rw [z, Int.zero_mul] at q
    rcases Int.mul_eq_zero.mp q with z | z
    · exact m0 z
    · exact v2 z
  obtain ⟨lo, po⟩ := ho.lead hoo
  obtain ⟨n, en⟩ : ∃ n, n = leadD o := ⟨_, rfl⟩
  rw [← en] at po lo
  have cross : ∀ j, v n * ev o j = ev o n * v j := fun j => by
    refine Int.eq_of_mul_eq_mul_left m0 ?_
    rw [← Int.mul_assoc, prop n, ← Int.mul_assoc, Int.mul_comm m, Int.mul_assoc (ev o n) m, prop j]
    simp only [Int.mul_comm, Int.mul_left_comm]
  have vn : v n ≠ 0 := fun z => by
    have q := prop n
    rw [z, Int.mul_zero] at q
    rcases Int.mul_eq_zero.mp q.symm with z | z
    · exact c0 z
    · omega
  have dv : (ev o n).natAbs ∣ (v n).natAbs * gcdR o := gcd_great (r := o) (g := 0) (fun x hx => by
    obtain ⟨j, rfl⟩ := mem_ev hx
    have d1 : ev o n ∣ v n * ev o j := ⟨v j, cross j⟩
    refine Int.natAbs_dvd_natAbs.mp ?_
    have d2 := Int.natAbs_dvd_natAbs.mpr d1
    rw [Int.natAbs_mul] at d2
    rwa [Int.natAbs_mul, Int.natAbs_natCast, Int.natAbs_natCast]) (by simp)
  rw [hg o hoo, Nat.mul_one] at dv
  obtain ⟨t, ht⟩ := Int.natAbs_dvd_natAbs.mp dv
  have t0 : t ≠ 0 := fun z => vn (by rw [ht, z, Int.mul_zero])
  intro x hx
  obtain ⟨j, rfl⟩ := mem_ev hx
  have ej : v j = t * ev o j := by
    have q := cross j
    rw [ht, Int.mul_assoc] at q
    exact (Int.eq_of_mul_eq_mul_left (by omega) q).symm
  have le : (ev o j).natAbs ≤ (v j).natAbs := by
    rw [ej, Int.natAbs_mul]
    exact Nat.le_mul_of_pos_left _ (by omega)
  unfold EB
  rw [if_neg (by omega)]
  refine Nat.lt_of_le_of_lt (Nat.le_trans le (v4 j)) ?_
  rw [he]
  exact big_lt pos
/-- what reduced gives -/
structure Reds (w B : Nat) (rows out : List Row) : Prop where
  rs : RS w out
  span : ∀ v, QS (· ∈ out) v ↔ QS (· ∈ rows) v
  small : ∀ o ∈ out, Small o (EB B out.length)
  le : out.length ≤ rows.length
  gcd : ∀ o ∈ out, gcdR o = 1
  sub : ∃ sub : List Row, (∀ r ∈ sub, r ∈ rows ∧ r.length = w ∧ Small r B) ∧ sub.length = out.length ∧ ∀ v, QS (· ∈ sub) v ↔ QS (· ∈ out) v
theorem reds_nil {w B : Nat} : Reds w B [] [] := ⟨⟨(fun _ z => nomatch z), (fun _ z => nomatch z), .nil⟩, fun _ => Iff.rfl, (fun _ z => nomatch z), Nat.le_refl _, (fun _ z => nomatch z), [], (fun _ z => nomatch z), rfl, fun _ => Iff.rfl⟩
theorem reds_snoc {w B : Nat} {rows out out' : List Row} {r : Row} (h : Reds w B rows out) (hr : r.length = w) (sr : Small r B) (ha : Adds out r out') : Reds w B (rows ++ [r]) out' := by
  obtain ⟨a1, a2, a3⟩ := adds_RS h.rs hr ha
  have mem : ∀ x, x ∈ rows ++ [r] ↔ x ∈ rows ∨ x = r := fun x => by rw [List.mem_append, List.mem_singleton]
  have gc := adds_gcd h.rs hr h.gcd ha
  obtain ⟨sub, u1, u2, u3⟩ := h.sub
  have hsub : ∃ sub : List Row, (∀ x ∈ sub, x ∈ rows ++ [r] ∧ x.length = w ∧ Small x B) ∧ sub.length = out'.length ∧ ∀ v, QS (· ∈ sub) v ↔ QS (· ∈ out') v := by
    rcases a3 with q | q
    · refine ⟨sub, fun x hx => ⟨List.mem_append_left _ (u1 x hx).1, (u1 x hx).2⟩, by omega, fun v => (u3 v).trans ?_⟩
      refine Iff.trans ⟨fun z => z.trans fun x hx => QS.mem (.inl hx), fun z => z.trans fun x hx => ?_⟩ (a2 v).symm
      rcases hx with hx | rfl
      · exact QS.mem hx
      · exact q.2
    · refine ⟨sub ++ [r], fun x hx => ?_, by rw [List.length_append, u2, q.1]; rfl, fun v => Iff.trans (QS.iff_of (fun x hx => ?_) (fun x hx => ?_) v) (a2 v).symm⟩
      · rcases List.mem_append.mp hx with z | z
        · exact ⟨List.mem_append_left _ (u1 x z).1, (u1 x z).2⟩
        · rw [List.mem_singleton.mp z]
          exact ⟨List.mem_append_right _ (List.mem_singleton.mpr rfl), hr, sr⟩
      · rcases List.mem_append.mp hx with z | z
        · exact ((u3 _).mp (QS.mem z)).trans fun y hy => QS.mem (.inl hy)
        · rw [List.mem_singleton.mp z]
          exact QS.mem (.inr rfl)
      · rcases hx with hx | rfl
        · exact ((u3 _).mpr (QS.mem hx)).trans fun y hy => QS.mem (List.mem_append_left _ hy)
        · exact QS.mem (List.mem_append_right _ (List.mem_singleton.mpr rfl))
  refine ⟨a1, fun v => (a2 v).trans (QS.iff_of (fun x hx => ?_) (fun x hx => ?_) v), ?_, ?_, gc, hsub⟩
  · rcases hx with hx | rfl
    · exact ((h.span _).mp (QS.mem hx)).trans fun y hy => QS.mem ((mem y).mpr (.inl hy))
    · exact QS.mem ((mem x).mpr (.inr rfl))
  · rcases (mem x).mp hx with hx | rfl
    · exact ((h.span _).mpr (QS.mem hx)).trans fun y hy => QS.mem (.inl hy)
    · exact QS.mem (.inr rfl)
  · obtain ⟨s, s1, s2, s3⟩ := hsub
    exact rs_small (fun x hx => (s1 x hx).2.1) (fun x hx => (s1 x hx).2.2) a1 gc s2 s3
  · rw [List.length_append]
    have := h.le
    show _ ≤ rows.length + 1
    rcases a3 with q | q <;> omega
theorem reds_uniq {w B B' : Nat} {rows rows' out out' : List Row} (h : Reds w B rows out) (h' : Reds w B' rows' out') (e : ∀ v, QS (· ∈ rows) v ↔ QS (· ∈ rows') v) : out = out' :=
  h.rs.uniq h'.rs h.gcd h'.gcd fun v => (h.span v).trans ((e v).trans (h'.span v).symm)
section
variable {P : Program} {w : World} {K : PySem.W.Frag} {mg : Str → Option Value} {base : Heap}
def spRed : Sp := fun vs H Q _ => ∃ (R : Addr) (n : Nat) (xs : List V) (rows : List Row) (B : Nat), vs = [.ref R, .int (n : Nat)] ∧ H R = some (.lst xs) ∧ RowsIn H xs rows ∧ (∀ r ∈ rows, r.length = n ∧ Small r B) ∧ n ≤ 100 ∧ rows.length < 60 ∧ 0 < B ∧ B + (min rows.length n + 1) * (EB B (min rows.length n) + 1) ≤ 9000 ∧
  ∀ (L : Addr) (ys : List V) (out : List Row) (H' : Hp), Same H H' → H L = none → H' L = some (.lst ys) → RowsIn H' ys out → Reds n B rows out → Q (.ref L) H'
theorem ok_Red {f : Addr} {fd : FuncData} (F : Fun K "reduced" "reduced" sRed f fd) (T : TxRow mg) (GR : Has P w K mg base CX0 2 "is_row" PIsRow (spRowG K)) (GA : Has P w K mg base CX0 5 "added" PAdded (spAdded K)) : FnOk P w K mg base CX0 6 f fd PRed spRed := by
  refine F.ok scRed (fun vs H Q E h => ?_) (fun cdv A outer s H vs Q E hr h => ?_)
  · obtain ⟨R, n, xs, rows, B, rfl, _⟩ := h
    rfl
  · obtain ⟨R, n, xs, rows, B, rfl, hR, hx, hrow, hn, h60, b0, eb, k⟩ := h
    have hr2 := hr.mono (j := 2) (by decide)
    refine ⟨_, (pss_cons (ps_set (i := 2) scRed.nd rfl (Or.inl rfl) (pe_lst pa_nil))
  (pss_cons (ps_for PassesOwn.never rfl (pi_list (pv 0)) (pg_name (i := 3) scRed.nd rfl (Or.inl rfl))
  (pss_cons (ps_if (pt_not (pt_val (pe_callH GR hr2 rfl pass0 (pa_cons (pv 3) (pa_cons (pv 1) pa_nil)))))
  (pss_one ps_never)
  pss_nil)
  (pss_one (ps_set (i := 2) scRed.nd rfl (Or.inl rfl) (pe_callH GA hr rfl pass0 (pa_cons (pv 2) (pa_cons (pv 3) pa_nil)))))))
  (pss_one (ps_ret (pv 2))))), ?_⟩
    have lx : xs.length = rows.length := Paired.length hx
    refine ⟨(by show 0 ≤ sizeLine; decide), fun L0 hL0 => ?_⟩
    have s0 := same_new (o := .lst []) hL0
    refine ⟨_, rfl, R, rfl, ⟨_, SqL.of (s0 _ _ hR)⟩, for_list (K := K) (a := R) (xs := xs) (fun i σ H' => Same H H' ∧ ∃ (L : Addr) (ys : List V) (out : List Row) (x : Option V), σ = [some (.ref R), some (.int (n : Nat)), some (.ref L), x] ∧ H L = none ∧ H' L = some (.lst ys) ∧ RowsIn H' ys out ∧ Reds n B (rows.take i) out) ?_ (fun i σ H' _ h' => SqL.of (h'.1 _ _ hR)) ?_ ?_⟩
    · exact ⟨s0, L0, [], [], none, rfl, hL0, upd_same, .nil, reds_nil⟩
    · rintro i v σ H1 hv ⟨s1, L, ys, out, x, rfl, L0', hL, hy, hR1⟩
      obtain ⟨r, hri, q, rfl, hq⟩ := Paired.at hx hv
      have hi : i < rows.length := (List.getElem?_eq_some_iff.mp hri).1
      obtain ⟨r1, r2⟩ := hrow r (List.mem_of_getElem? hri)
      refine ⟨_, rfl, _, rfl, _, n, rfl, .inl ⟨q, r, rfl, s1 _ _ hq, r1, by omega, fun H2 s2 => ⟨true, rfl, ?_⟩⟩⟩
      have s12 := s1.trans s2
      have le := hR1.le
      rw [List.length_take, Nat.min_eq_left (Nat.le_of_lt hi)] at le
      have lw := hR1.rs.le_w
      have b1 : B + (out.length + 1) * (EB B out.length + 1) ≤ 9000 := by
        have em := EB_mono (B := B) (f := out.length) (g := min rows.length n) (by omega)
        have : (out.length + 1) * (EB B out.length + 1) ≤ (min rows.length n + 1) * (EB B (min rows.length n) + 1) := Nat.mul_le_mul (by omega) (by omega)
        omega
      refine ⟨_, rfl, _, rfl, L, q, ys, out, r, B, EB B out.length, rfl, s2 _ _ hL, hy.same (TSame.of s2), s12 _ _ hq, fun o ho => ⟨by rw [hR1.rs.len o ho, r1], hR1.small o ho, by rw [(hR1.rs.lead ho).1]; exact fun z => (by cases z)⟩, by omega, by omega, r2, b0, EB_pos B _, b1, adds_pre hR1.rs r1, fun L' ys' out' H3 s3 fr hL' hy' ha => ?_⟩
      refine ⟨s12.trans s3, L', ys', out', _, rfl, ?_, hL', hy', by rw [take_snoc hri]; exact reds_snoc hR1 r1 r2 ha⟩
      rcases fr with rfl | fr
      · exact L0'
      · exact s12.free fr
    · rintro σ H1 ⟨s1, L, ys, out, x, rfl, L0', hL, hy, hR1⟩
      rw [lx, List.take_length] at hR1
      exact ⟨_, rfl, k L ys out H1 s1 L0' hL hy hR1⟩
end

/-! ### set(a list of ints), sorted(set(..)) -/
section
open PyProof.Rows
abbrev fset (w : World) : PySem.Obj := { cls := .type "set", dict := none, data := .set #[] 0 (.fresh 0 0 (!w.params.followText "set-order")) }
variable {P : Program} {w : World} {A : Around} {E : Value → Shared → Prop} {s : Shared}
theorem set_lstI {l : Addr} {items : Array Value} (ns : List Int) {Q : Value → Shared → Prop} (hh : A.handled = none) (hl : s.heap.IsList l items) (hit : IntsAre items.toList ns) (hb : ns.length + 1 < scanBound) (h : ∀ (h' : Heap) (tk c : Nat), SetR w h' s.heap.objs.size (fun j => decide (j ∈ ns)) c → c ≤ ns.length → (∀ b o, s.heap.get? b = some o → h'.get? b = some o) → Q (.ref s.heap.objs.size) { s with heap := h', toks := tk }) : wpAny (model P w) A (call (.type "set") [.ref l]) Q E s := by
  have zi : items.size = ns.length := by
    have q := IntsAre.length hit
    rwa [Array.length_toList] at q
  obtain ⟨c, tl, zm⟩ := F.called_set.mro
  have zma := F.called_set.made
  have zs := F.called_set.sub
  refine wpAny_call (codeAny_of_tree (show wpAny _ _ (callAny (.type "set") _) _ _ _ from ?_))
  refine wpAny_pure ⟨(Code.quiet_builtin _ (by decide +kernel)), (codeAny_builtin F.entry_type_call ?_)⟩
  rw [Around.under_plain (weight_type_call_type "set" [Value.ref l] []) rfl]
  have z1 := F.called_set.notType; have z2 := F.called_set.canCreate; have zc := F.typeCall_set_1 (.ref l)
  repeat (any_goals (first | wp_step | assumption))
  refine codeAny_mono (code_set_led1 (.ref l) (E := E) (Q₁ := fun o s₁ => o = .ref s.heap.objs.size ∧ s₁ = { s with heap := s.heap.push (fset w) }) ⟨rfl, rfl⟩) fun r s₁ zr => ?_
  cases r with
  | error e => exact zr
  | ok flw =>
    cases flw with
    | ret obj =>
      obtain ⟨rfl, rfl⟩ := zr
      have zS : (s.heap.push (fset w)).get? s.heap.objs.size = some (fset w) := Heap.get?_push_size _ rfl
      have zT : Shared.TypeIs { s with heap := s.heap.push (fset w) } (.ref s.heap.objs.size) "set" := ⟨_, zS, rfl⟩
      have zli := F.called_set.init.lookup; have zbi := F.called_set.init.bind (.ref s.heap.objs.size)
      repeat (any_goals (first | wp_step | assumption))
      refine codeAny_mono (codeAny_call_builtin (R := wants (fun r s₂ => r = .none ∧ ∃ h' tk c, s₂ = { s with heap := h', toks := tk } ∧ SetR w h' s.heap.objs.size (fun j => decide (j ∈ ns)) c ∧ c ≤ ns.length ∧ ∀ b o, s.heap.get? b = some o → h'.get? b = some o) E) F.called_set.init.plain F.entry_set_init (check_set_init_1 zT ?_)) fun r₂ s₂ zr₂ => ?_
      · obtain ⟨⟨bc, bd, bt, bs⟩, zol, zcl, nb, zdl⟩ := hl
        simp only at zcl zdl
        subst zcl zdl
        have zol' : (s.heap.push (fset w)).get? l = some { cls := .type "list", dict := bd, data := .seq items nb, slots := bs } := Heap.get?_push_of_some _ zol
        have zsl := F.sub_list_set; have zsf := F.sub_list_frozenset
        have zne : (Value.type "list" == Value.type "dict") = false := by decide
        have zl1 : (s.heap.push (fset w)).IsList l items := ⟨_, zol', rfl, nb, rfl⟩
        unfold Builtin.«set.__init__»
        unfold noKeywords Builtin.Frozenset.updateFrom
        generalize zPI : pyIter = PI
        wp_walk
        subst zPI
        refine wpAny_pyIter_list zl1 (wpAny_bind (wpAny_runValue ?_))
        have zlS : l < s.heap.objs.size := Heap.lt_size zol
        have zh3 : A.in1.in1.in1.handled = none := by simp [hh]
        have zz1 : (s.heap.push (fset w)).objs.size = s.heap.objs.size + 1 := Heap.size_push ..
        have znI : l ≠ (s.heap.push (fset w)).objs.size := by rw [zz1]; exact Nat.ne_of_lt (Nat.lt_succ_of_lt zlS)
        have zSf : s.heap.objs.size ∉ [(s.heap.push (fset w)).objs.size, l] := by
          rw [zz1]
          simp only [List.mem_cons, List.not_mem_nil, or_false, not_or]
          exact And.intro (Nat.ne_of_lt (Nat.lt_succ_self _)) (Nat.ne_of_gt zlS)
        have zv : ∀ (i : Nat) (v : Value), items[i]? = some v → ∃ k t, ns[i]? = some k ∧ v = .int k t := fun i v hv => by
          have hi : i < ns.length := by rw [← zi]; exact (Array.getElem?_eq_some_iff.mp hv).1
          obtain ⟨t, e⟩ := IntsAre.int_at hit i v (by rw [Array.getElem?_toList]; exact hv)
          exact ⟨ns[i], t, List.getElem?_eq_getElem hi, by rw [e, List.getD_eq_getElem?_getD, List.getElem?_eq_getElem hi]; rfl⟩
        refine set_update_ints ((Walks.list zh3 _ l znI items).toS) s.heap.objs.size zSf ns zi hb zv (items.size - 0) 0 _ (by omega) (Nat.zero_le _) ⟨⟨_, Heap.get?_push_size _ rfl, rfl, rfl⟩, (zl1.push _)⟩ ?z0 ?zR
        case z0 =>
          have zg : ((s.heap.push (fset w)).push { cls := .type "list_iterator", data := .fields #[.ref l, .int 0 0] }).get? s.heap.objs.size = some (fset w) := Heap.get?_push_of_some _ zS
          exact ⟨0, Nat.le_refl 0, setR_new_at zg⟩
        case zR =>
          intro s' c' hm hc' hS'
          obtain ⟨h', g2, d', tk', os'⟩ := s'
          obtain rfl : g2 = s.gens := hm.gens
          obtain rfl : d' = s.drawn := hm.drawn
          obtain rfl : os' = s.os := hm.os
          refine (show wpAny _ _ _ _ _ _ from wpAny_pure (show wpAny _ _ (ret Value.none) _ _ _ from wpAny_pure ⟨rfl, h', tk', c', rfl, hS', by rw [zi] at hc'; exact hc', fun b o e => ?_⟩))
          have zb : b < s.heap.objs.size := Heap.lt_size e
          refine hm.heap b o ?_ (Heap.get?_push_of_some _ (Heap.get?_push_of_some _ e))
          simp only [List.mem_cons, List.not_mem_nil, or_false, not_or]
          rw [zz1]
          exact And.intro (Nat.ne_of_lt zb) (Nat.ne_of_lt (Nat.lt_succ_of_lt zb))
      · cases r₂ with
        | error e => exact zr₂
        | ok flw₂ =>
          cases flw₂ with
          | ret r =>
            obtain ⟨rfl, h', tk, c', rfl, hS', hc', hk'⟩ := zr₂
            repeat (any_goals (first | wp_step | assumption))
            exact h _ _ _ hS' hc' hk'
          | _ => exact zr₂.elim
    | _ => exact zr.elim
end
section
variable {X : Cx}
def rSetL (K : PySem.W.Frag) (w : World) : List V → Hp → VK → Prop := fun xs H Q => ∃ (l : Addr) (ns : List Int), xs = [.ref l] ∧ SqL K H l (ns.map V.int) ∧ ns.length ≤ 1000 ∧ ∀ (a : Addr) (c : Nat), H a = none → c ≤ ns.length → Q (.ref a) (upd H a (SetO w a (fun j => decide (j ∈ ns)) c))
theorem call_setL (hc : X.calm = true) : CallR X (.type "set") (rSetL X.K X.w) := by
  intro pins s σ H xs us Q I r h
  obtain ⟨l, ns, rfl, hq, hl, q⟩ := h
  obtain ⟨u, rfl, ru⟩ := vals1 r
  obtain rfl : u = Value.ref l := ru
  obtain ⟨its, rv, pl, hz⟩ := I.list hq
  refine set_lstI ns (I.ok.hd hc) pl.isList (show PyProof.Rows.IntsAre its.toArray.toList ns from ints_of_vals rv) (by unfold scanBound; omega) fun h' tk c R1 hcn k => ?_
  have hn : H s.heap.objs.size = none := I.hok.fresh (Nat.le_refl _)
  exact ⟨.ref s.heap.objs.size, _, I.laid (a := s.heap.objs.size) (o := SetO X.w s.heap.objs.size (fun j => decide (j ∈ ns)) c) (h' := h') (t' := tk) k (Nat.le_refl _) (setO_new R1), rfl, q _ c hn hcn⟩
/-- repr of nested data, where no repr is under way -/
def rReprD (K : PySem.W.Frag) : List V → Hp → VK → Prop := fun xs H Q => ∃ (a : Addr) (d : PyData), xs = [.ref a] ∧ Dp K H (.ref a) d ∧ SeqAt.shaped d = true ∧ d.showable = true ∧ d.shown.length ≤ sizeLine ∧ Q (.str d.shown) H
theorem call_reprD (hg : X.A.guards = some []) (hu : X.A.units + 100 < cLine) : CallR X (.builtin "repr") (rReprD X.K) := by
  intro pins s σ H xs us Q I r h
  obtain ⟨a, d, rfl, hd, sh, so, sz, q⟩ := h
  obtain ⟨u, rfl, ru⟩ := vals1 r
  obtain rfl : u = Value.ref a := ru
  obtain ⟨as, rd⟩ := Dp.reads I d _ _ hd rfl
  have dp := SeqAt.depth_of_shaped sh
  have nd := PyData.hasDict_of_canLay d (SeqAt.canLay_of_shaped sh)
  refine repr_of_reads' rd so (PyData.noDict_hsm nd) hg (by omega) (fun _ _ e => e) (fun h' u tk k => ?_) sz
  exact ⟨.str d.shown, H, I.kept (t' := tk) k, ⟨_, rfl⟩, q⟩
end

/-! ### the law where it is called: no repr is under way there -/
structure FnAt (A : Around) (P : Program) (w : World) (K : PySem.W.Frag) (mg : Str → Option Value) (base : Heap) (CX : CXT) (f : Addr) (fd : FuncData) (ps : List Str) (sp : Sp) : Prop where
  len : ∀ vs H Q E, sp vs H Q E → vs.length = ps.length
  run : ∀ (outer : List Env) (s : Shared) (H : Hp) (args : Args) (us : List Value) (vs : List V) (Q : VK) (E : XK), Env0 P w K mg base A outer s H → BindsTo s fd args (ps.zip us) → Vals vs us → sp vs H Q E → codeAny (model P w) A (.call (.ref f) args) (CR CX outer P w H s Q E) s
theorem fnAt_of {A : Around} {P : Program} {w : World} {K : PySem.W.Frag} {mg : Str → Option Value} {base : Heap} {x qual : Str} {st : Stmt} {f : Addr} {fd : FuncData} {N ps : List Str} {k : Nat} {sp : Sp} (hr : Room (k + 1) A) (F : Fun K x qual st f fd) (S : FnScope N ps (defScope st)) (len : ∀ vs H Q E, sp vs H Q E → vs.length = ps.length)
    (hbody : ∀ (cdv : Value) (outer : List Env) (s : Shared) (H : Hp) (vs : List V) (Q : VK) (E : XK), Room k (A.deeper (PyProof.Rows.envOfC qual (defScope st) s.heap.objs.size f cdv)) → sp vs H Q E → ∃ t, PSs (cxOf CX0 P w K mg base N qual (defScope st) f cdv A outer s H E).nox (defBody st) t ∧ t { nx := fun _ H' => Q .non H', rt := Q } (L2.start N vs) H) :
    FnAt A P w K mg base CX0 f fd ps sp := by
  obtain ⟨oc, od, kV, doc, pm, an, cdv, ct, osl, rfl, lk, hcd⟩ := F.ex
  refine ⟨len, fun outer s H args us vs Q E e0 hb r hsp => ?_⟩
  have hl := len _ _ _ _ hsp
  have old : ∀ b o, base.get? b = some o → s.heap.get? b = some o := fun b o e => (e0.bs b o e).1
  have kx : K.In s.heap := e0.mod.kin.keeps old
  have lim : s.heap.NoLimit := e0.mod.nolimit.keeps old
  have kinds : ∀ y ∈ ps.zip us, (defScope st).names.lookup y.1 = some .local ∨ ((defScope st).names.lookup y.1 = some .cell ∧ ((cellsFrom (s.heap.objs.size + 1) (defScope st).names []).lookup y.1).isSome = true) := fun ⟨n, v⟩ hy => (S.par n (List.of_mem_zip hy).1).imp id fun q => ⟨q, PySem.W.cellsFrom_some _ _ _ (.inl q)⟩
  refine codeAny_call_function hr.depth (kx _ _ lk) rfl S.co S.gen rfl (PySem.W.codeRec_of kx hcd) (hb _ _ _ _ (wpAny_newFunctionEnv_cells S.kind kinds fun env he s1 x => ?_))
  subst he
  obtain ⟨t, ht, hq⟩ := hbody cdv outer s H vs Q E (hr.deeper _) hsp
  have ht := ht.nox
  refine ⟨lim.keeps x.toInCall.keep, codeAny_func (wpAny_mono (ht.run [] s1 (L2.start N vs) H _ (inv_start S hr.hd e0 hl r x) hq) (fun fl s' hs => ?_) fun e s' hs => hs)⟩
  have fin : ∀ {σ' : L2.St} {H' : Hp} {v : V} {u : Value}, Inv (cxOf CX0 P w K mg base N qual (defScope st) f cdv A outer s H E) [] σ' H' s' → RelV v u → Q v H' → CE outer P w H s Q u s' := fun {σ' H' v u} J rv q => ⟨v, H', J.os, J.bare, J.base, J.hok, rv, q⟩
  cases fl with
  | ret u => exact let ⟨_, _, _, J, rv, q⟩ := hs; fin J rv q
  | next => exact let ⟨_, _, J, q⟩ := hs; fin (v := V.non) (u := Value.none) J rfl q
  | brk => exact let ⟨_, _, _, q⟩ := hs; False.elim q
  | cont => exact let ⟨_, _, _, q⟩ := hs; False.elim q
section
open PyProof.Rows
theorem law_callA {P : Program} {w : World} {K : PySem.W.Frag} {mg mb : Str → Option Value} {fa a : Addr} {fd : FuncData} {x : Str} {sp : Sp} {CX : CXT} {s₁ : Shared} {vs : List Value} {ns : List Int} (kx : K.In s₁.heap) (hns : s₁.heap.Ns mainGlobals mg) (hb : s₁.heap.Ns builtinsNs mb) (hbb : ∀ x : Str, x ≠ "__name__" → mb x = bootBuiltins x) (hlim : s₁.heap.NoLimit) (hg : s₁.gens = #[])
    (ha : s₁.heap.get? a = some { cls := .type "list", data := .seq vs.toArray }) (hi : IntsAre vs ns) (hl : ns.length ≤ sizeLine) (F : ∀ base : Heap, K.In base → base.Ns mainGlobals mg → FnAt callerA P w K mg base CX fa fd [x] sp) (hbind : ∀ (s : Shared) (u : Value), BindsTo s fd ⟨[u], []⟩ [(x, u)])
    (hsp : ∀ H : Hp, Only H → SqL K H a (ns.map V.int) → sp [.ref a] H (fun v _ => v = .bl true) fun _ _ _ => False) (hCX : ∀ H e s', CX [] H s₁ (fun _ _ _ => False) e s' → False) :
    codeAny (model P w) callerA (.call (.ref fa) ⟨[.ref a], []⟩) (fun r s' => r = .ok (.ret (.bool true)) ∧ OldK s₁.heap s'.heap ∧ s'.os = s₁.os ∧ AllBare s'.gens) s₁ := by
  have rv := vals_ints hi
  have lenV := hi.length
  have core : ∀ H : Hp, Only H → SqL K H a (ns.map V.int) → HOk P w H s₁.heap → (∀ b, H b ≠ none → b = a) → (H a ≠ none → K.lookup a = none) → codeAny (model P w) callerA (.call (.ref fa) ⟨[.ref a], []⟩) (fun r s' => r = .ok (.ret (.bool true)) ∧ OldK s₁.heap s'.heap ∧ s'.os = s₁.os ∧ AllBare s'.gens) s₁ := by
    intro H hO hS hok hA hK
    have base_of : ∀ {b : Addr} {o : PySem.Obj}, s₁.heap.get? b = some o → H b = none → (hidT s₁.heap H).get? b = some o := fun e n => hidT_get e n
    have only : ∀ {b : Addr} {u : HO}, H b = some u → b = a := fun q => hA _ (by rw [q]; exact fun z => by cases z)
    have noA : ∀ {b : Addr} {o : PySem.Obj} {es : Array DictEntry} {ep : Nat}, s₁.heap.get? b = some o → o.data = .dict es ep → H b = none := fun {b o es ep} e d => by
      cases q : H b with
      | none => rfl
      | some u =>
        obtain rfl := only q
        rw [ha] at e
        cases e
        cases (show Data.seq vs.toArray _ = Data.dict es ep from d)
    have nsK : ∀ {b : Addr} {m : Str → Option Value}, s₁.heap.Ns b m → (hidT s₁.heap H).Ns b m := fun {b m} ⟨o, es, ep, e, d, r⟩ => ⟨o, es, ep, base_of e (noA e d), d, r⟩
    have hKb : K.In (hidT s₁.heap H) := fun b o e => base_of (kx b o e) (by
      cases q : H b with
      | none => rfl
      | some u =>
        obtain rfl := only q
        rw [hK (by rw [q]; exact fun z => by cases z)] at e
        cases e)
    have hM : Mod K mg (hidT s₁.heap H) := ⟨hKb, nsK hns, ⟨mb, nsK hb, hbb⟩, let ⟨mc, h1, h2⟩ := hlim; ⟨mc, nsK h1, h2⟩⟩
    have e0 : Env0 P w K mg (hidT s₁.heap H) callerA [] s₁ H := ⟨rfl, hM, fun b o e => of_hidT e, Nat.le_of_eq (hidT_size _ _), trivial, (fun b z => nomatch (show b ∈ ([] : List Addr) from z)), hok, .of_eq hg⟩
    refine codeAny_mono ((F _ hKb (nsK hns)).run [] s₁ H ⟨[.ref a], []⟩ [.ref a] [.ref a] _ _ e0 (hbind s₁ (.ref a)) (.cons rfl .nil) (hsp H hO hS)) fun r s' h => ?_
    cases r with
    | error e => exact (hCX H e s' h).elim
    | ok fl =>
      cases fl with
      | ret u =>
        obtain ⟨v, H', os, bare, un, hok', r', q⟩ := h
        obtain rfl : v = .bl true := q
        obtain rfl : u = Value.bool true := r'
        refine ⟨rfl, OldK.of_keep fun b o e => ?_, os, bare⟩
        cases q : H b with
        | none => exact un.keep b o e q (fun z => absurd (show b ∈ ([] : List Addr) from z) (by simp)) (by simp)
        | some u =>
          rcases hO b with z | ⟨ob, xs, z⟩
          · rw [q] at z
            cases z
          · have z2 := un.frzs b ob _ z
            obtain ⟨e1, _⟩ := hok b _ z
            obtain ⟨e2, _⟩ := hok' b _ z2
            rw [e] at e1
            cases e1
            exact e2
      | _ => exact False.elim h
  cases hk : K.lookup a with
  | some o =>
    have e := kx a o hk
    rw [ha] at e
    cases e
    exact core (fun _ => none) (fun _ => .inl rfl) (.inr ⟨_, vs.toArray, _, hk, rfl, rfl, rfl, by rw [List.size_toArray, lenV]; exact hl, by simpa using rv⟩) (fun b u z => nomatch (show (none : Option HO) = some u from z)) (fun b z => absurd rfl z) fun z => absurd rfl z
  | none =>
    have at_ : ∀ b, b ≠ a → (if b = a then some (HO.frz { cls := .type "list", data := .seq vs.toArray } (.lst (ns.map V.int))) else none) = none := fun b h => if_neg h
    refine core (fun b => if b = a then some (.frz { cls := .type "list", data := .seq vs.toArray } (.lst (ns.map V.int))) else none) (fun b => ?_) (.inl (.inr ⟨{ cls := .type "list", data := .seq vs.toArray }, if_pos rfl⟩)) (fun b u z => ?_) (fun b z => ?_) fun _ => hk
    · by_cases hb : b = a
      · exact .inr ⟨_, _, if_pos hb⟩
      · exact .inl (if_neg hb)
    · by_cases hb : b = a
      · cases (if_pos hb).symm.trans z
        subst hb
        exact ⟨ha, by rw [List.length_map]; exact hl, vs, _, rv, ha⟩
      · cases (if_neg hb).symm.trans z
    · by_cases hb : b = a
      · exact hb
      · exact absurd (at_ b hb) z
theorem walk_ofA {l : PySem.W.OpenLaw} {n : Nat} {q : Program} {loose : List Str} {XP : (Str → Option Value) → Heap → Prop} {YP : World → Heap → Prop} {d : DefRec} {K : Params → PySem.W.Frag} {CX : World → CXT} {sp : World → Sp} {x : Str} (hn : l.most = some n) (hn2 : n ≤ sizeLine) (hdf : d.params.defaults = []) (hY : ∀ (w : World) (h : Heap), YP w h → (K w.params).In h)
    (F : ∀ (w : World) (mg : Str → Option Value) (fa : Addr) (h : Heap), (K w.params).In h → h.Ns mainGlobals mg → mg d.name = some (.ref fa) → ∃ fd : FuncData, (∀ (s : Shared) (u : Value), BindsTo s fd ⟨[u], []⟩ [(x, u)]) ∧ ∀ base : Heap, (K w.params).In base → base.Ns mainGlobals mg → FnAt callerA l.prog w (K w.params) mg base (CX w) fa fd [x] (sp w))
    (hsp : ∀ (w : World) (H : Hp) (a : Addr) (ns : List Int), ns.length ≤ n → Only H → SqL (K w.params) H a (ns.map V.int) → sp w [.ref a] H (fun v _ => v = .bl true) fun _ _ _ => False) (hCX : ∀ (w : World) (H : Hp) (s : Shared) (e : Value) (s' : Shared), CX w [] H s (fun _ _ _ => False) e s' → False) :
    PySem.W.WalkO q loose XP YP l.row.toRowW d [] (fun f vs => PySem.call f vs) := by
  refine Att.attach_call hn hdf fun w s₀ s₁ mg mb fa o pm cd doc a vs ns G Y ho hd hcd hmg hobj hints hlen hg => ?_
  have kx := hY w _ Y
  obtain ⟨fd, hb, hF⟩ := F w mg fa _ kx G.T.g hmg
  exact law_callA kx G.T.g G.T.b G.T.builtins G.T.nolimit hg hobj hints (Nat.le_trans hlen hn2) hF hb (fun H hO hS => hsp w H a ns hlen hO hS) fun H e s' => hCX w H s₁ e s'
end

/-! ### xs[::-1] -/
section
variable {X : Cx} {e st : Expr} {te : TE} {ts : TO} {p2 pos : Pos}
def tSlB (K : PySem.W.Frag) (te : TE) (ts : TO) : TE := fun σ H Q => te σ H fun x H1 => ts σ H1 fun u H2 => u = some (-1) ∧ ∃ a xs, x = .ref a ∧ SqL K H2 a xs ∧ ∀ p, H2 p = none → Q (.ref p) (upd H2 p (.lst xs.reverse))
theorem pe_sliceB (he : PE X e te) (hs : PO X (some st) ts) : PE X (.Subscript e (.Slice none none (some st) p2) pos) (tSlB X.K te ts) := by
  refine ⟨fun pins s σ H Q I h => ?_⟩
  refine PyProof.Rows.Subscript_ (thn (he.run pins s σ H _ I h) fun v s1 ⟨x, H1, I1, r1, q1⟩ => ?_)
  refine wpAny_Slice ?_
  rw [evalPart_none]
  refine wpAny_pure (wpAny_pure (thn (hs.run pins s1 σ H1 _ I1 q1) fun vu s3 ⟨u, H3, I3, pu, q3⟩ => ?_))
  obtain ⟨rfl, a, xs, rfl, hx, q⟩ := q3
  obtain rfl : v = Value.ref a := r1
  have I4 : Inv X pins σ H3 { s3 with heap := s3.heap.push { cls := .type "slice", data := .fields #[.none, .none, vu] } } := I3.kept (t' := s3.toks) fun b ob q => Heap.get?_push_of_some _ q
  obtain ⟨its, r, ht, hz⟩ := I4.list hx
  have hlen := r.length
  show wpAny (model X.prog X.w) X.A (PyProof.Rows.subscriptTail e (.Slice none none (some st) p2) (.ref a) (.ref s3.heap.objs.size)) (EP X pins σ Q) X.xe { s3 with heap := s3.heap.push { cls := .type "slice", data := .fields #[.none, .none, vu] } }
  refine PyProof.Rows.tail_any (ops := [.ref a, .ref s3.heap.objs.size]) ht.isList.typeIs PySem.F.slot_list_getitem.lookup (wpAny_getItem_list_slice ht.isList (Heap.IsSliceOf.new ..) .none .none pu (by simp) ?_ (by rw [List.size_toArray]; omega)) (by with_unfolding_all rfl)
  rw [PySem.W.krv_pick]
  refine ⟨.ref _, _, I4.laid (t' := s3.toks) (o := .lst xs.reverse) (fun b ob q => Heap.get?_push_of_some _ q) (Nat.le_refl _) ?_, rfl, q _ (I4.hok.fresh (Nat.le_refl _))⟩
  exact ⟨by rw [List.length_reverse]; exact hz, _, 0, r.reverse, Heap.get?_push_size _ rfl⟩
end

structure TxKer (mg : Str → Option Value) : Prop extends TxRow mg where
  n_range : mg "range" = none
  n_sum : mg "sum" = none
theorem bb_sum : bootBuiltins "sum" = some (.builtin "sum") := by decide +kernel
theorem atI_ev {o : Row} {c : Nat} (h : c < o.length) : atI (o.map V.int) ((c : Nat) : Int) = some (V.int (ev o c)) := atI_nat (by
  rw [List.getElem?_map, List.getElem?_eq_getElem h]
  show some (V.int o[c]) = _
  unfold ev
  rw [List.getD_eq_getElem?_getD, List.getElem?_eq_getElem h]
  rfl)

/-! ### the law's own rank, plainly -/
def thinF (r : Row) : Row := if 1 < gcdR r then r.map (· / ((gcdR r : Nat) : Int)) else r
theorem thin_lin (r : Row) : ∃ a : Int, a ≠ 0 ∧ ∀ i, a * ev (thinF r) i = ev r i := by
  by_cases g : 1 < gcdR r
  · refine ⟨(gcdR r : Nat), by omega, fun i => ?_⟩
    unfold thinF ev
    rw [if_pos g, List.getD_eq_getElem?_getD, List.getD_eq_getElem?_getD, List.getElem?_map]
    cases e : r[i]? with
    | none => simp
    | some x =>
      show ((gcdR r : Nat) : Int) * (x / ((gcdR r : Nat) : Int)) = x
      exact Int.mul_ediv_cancel' (gcd_dvd (List.mem_of_getElem? e))
  · refine ⟨1, by decide, fun i => ?_⟩
    unfold thinF
    rw [if_neg g]
    omega
theorem len_thin (r : Row) : (thinF r).length = r.length := by
  unfold thinF
  split
  · exact List.length_map ..
  · rfl
theorem small_thin {r : Row} {B : Nat} (h : Small r B) : Small (thinF r) B := by
  unfold thinF
  split
  · intro y hy
    obtain ⟨x, hx, rfl⟩ := List.mem_map.mp hy
    exact Nat.lt_of_le_of_lt (abs_div_le _ _) (h x hx)
  · exact h
/-- other, cleared at the column c by first -/
def clear (n : Nat) (first other : Row) (c : Nat) : Row := thinF ((List.range n).map fun i => ev first c * ev other i - ev other c * ev first i)
theorem clear_lin {n : Nat} {first other : Row} {c : Nat} (h1 : first.length = n) (h2 : other.length = n) : ∃ a : Int, a ≠ 0 ∧ ∀ i, a * ev (clear n first other c) i = ev first c * ev other i - ev other c * ev first i := by
  obtain ⟨a, a0, e⟩ := thin_lin ((List.range n).map fun i => ev first c * ev other i - ev other c * ev first i)
  refine ⟨a, a0, fun i => ?_⟩
  unfold clear
  rw [e i]
  by_cases hi : i < n
  · rw [ev_range hi]
  · rw [ev_out (by rw [List.length_map, List.length_range]; omega), ev_out (show first.length ≤ i by omega), ev_out (show other.length ≤ i by omega)]
    simp
theorem len_clear {n : Nat} {first other : Row} {c : Nat} : (clear n first other c).length = n := by
  unfold clear
  rw [len_thin, List.length_map, List.length_range]
theorem small_cross {n B : Nat} {first other : Row} {c : Nat} (s1 : Small first B) (s2 : Small other B) : Small ((List.range n).map fun i => ev first c * ev other i - ev other c * ev first i) (2 * B + 1) := by
  intro x hx
  obtain ⟨i, _, rfl⟩ := List.mem_map.mp hx
  have e : 2 * B + 1 = B + B + 1 := by omega
  rw [e]
  exact sub_lt (wide_lt (getD_small s1 _) (getD_small s2 _)) (wide_lt (getD_small s2 _) (getD_small s1 _))
def TB (B : Nat) : Nat → Nat
  | 0 => B
  | t + 1 => 2 * TB B t + 1
theorem TB_step (B t : Nat) : TB B t ≤ TB B (t + 1) := by show TB B t ≤ 2 * TB B t + 1; omega
theorem TB_mono {B s t : Nat} (h : s ≤ t) : TB B s ≤ TB B t := by
  induction h with
  | refl => exact Nat.le_refl _
  | step _ ih => exact Nat.le_trans ih (TB_step ..)
structure RI (n B : Nat) (rows L : List Row) (total c : Nat) : Prop where
  len : ∀ r ∈ L, r.length = n
  span : ∀ v, QS (· ∈ L) v ↔ QS (· ∈ rows) v
  tl : total ≤ L.length
  ld : ∀ j, j < total → ∃ l, leadN (L.getD j []) = some l ∧ l < c
  inc : ∀ i j, i < j → j < total → leadD (L.getD i []) < leadD (L.getD j [])
  low : ∀ j, total ≤ j → j < L.length → ∀ d, d < c → ev (L.getD j []) d = 0
  small : ∀ r ∈ L, Small r (TB B total)
theorem RI.le_c {n B : Nat} {rows L : List Row} {total c : Nat} (h : RI n B rows L total c) : total ≤ c := by
  have key : ∀ j, j < total → j ≤ leadD (L.getD j []) := by
    intro j
    induction j with
    | zero => intro _; omega
    | succ j ih =>
      intro hj
      have h1 := ih (by omega)
      have h2 := h.inc j (j + 1) (by omega) hj
      omega
  rcases Nat.eq_zero_or_pos total with z | z
  · omega
  · obtain ⟨l, e, q⟩ := h.ld (total - 1) (by omega)
    have h1 := key (total - 1) (by omega)
    rw [leadD_of e] at h1
    omega
theorem ri_start {n B : Nat} {rows : List Row} (h : ∀ r ∈ rows, r.length = n ∧ Small r B) : RI n B rows rows 0 0 :=
  ⟨fun r hr => (h r hr).1, fun _ => Iff.rfl, Nat.zero_le _, (fun _ z => nomatch z), (fun _ _ _ z => nomatch z), (fun _ _ _ _ z => nomatch z), fun r hr => (h r hr).2⟩
theorem ri_skip {n B : Nat} {rows L : List Row} {total c : Nat} (h : RI n B rows L total c) (z : ∀ j, total ≤ j → j < L.length → ev (L.getD j []) c = 0) : RI n B rows L total (c + 1) := by
  refine ⟨h.len, h.span, h.tl, fun j hj => ?_, h.inc, fun j h1 h2 d hd => ?_, h.small⟩
  · obtain ⟨l, e, q⟩ := h.ld j hj
    exact ⟨l, e, by omega⟩
  · by_cases e : d = c
    · rw [e]; exact z j h1 h2
    · exact h.low j h1 h2 d (by omega)
theorem mem_getD {L : List Row} {r : Row} (h : r ∈ L) : ∃ j, j < L.length ∧ L.getD j [] = r := by
  obtain ⟨j, hj, rfl⟩ := List.mem_iff_getElem.mp h
  exact ⟨j, hj, by rw [List.getD_eq_getElem?_getD, List.getElem?_eq_getElem hj]; rfl⟩
/-- a pivot g is put at total, all below it are cleared -/
theorem ri_pivot {n B : Nat} {rows L N : List Row} {total c g : Nat} (h : RI n B rows L total c) (hc : c < n) (hg : total ≤ g) (hgl : g < L.length) (hne : ev (L.getD g []) c ≠ 0) (hN : N.length = L.length)
    (hv : ∀ j, j < L.length → N.getD j [] = (if j < total then L.getD j [] else if j = total then L.getD g [] else clear n (L.getD g []) (if j = g then L.getD total [] else L.getD j []) c)) :
    RI n B rows N (total + 1) (c + 1) := by
  have lg := h.len _ (getD_mem hgl)
  have tlt : total < L.length := by omega
  have src : ∀ j, total < j → j < L.length → ∃ i, total ≤ i ∧ i < L.length ∧ N.getD j [] = clear n (L.getD g []) (L.getD i []) c := fun j h1 h2 => by
    refine ⟨if j = g then total else j, ?_, ?_, ?_⟩
    · split <;> omega
    · split <;> omega
    · rw [hv j h2, if_neg (by omega), if_neg (by omega)]
      by_cases e : j = g
      · rw [if_pos e, if_pos e]
      · rw [if_neg e, if_neg e]
  have at_t : N.getD total [] = L.getD g [] := by rw [hv total tlt, if_neg (by omega), if_pos rfl]
  have low_j : ∀ j, j < total → N.getD j [] = L.getD j [] := fun j hj => by rw [hv j (by omega), if_pos hj]
  have pivS : QS (· ∈ N) (ev (L.getD g [])) := by rw [← at_t]; exact QS.mem (getD_mem (by omega))
  have glead : leadN (L.getD g []) = some c := lead_some.mpr ⟨hne, fun d hd => h.low g hg hgl d hd⟩
  have lt_of : ∀ {r : Row}, r ∈ N → r.length = n ∧ Small r (TB B (total + 1)) := fun {r} hr => by
    obtain ⟨j, hj, rfl⟩ := mem_getD hr
    rw [hN] at hj
    rcases Nat.lt_or_ge j total with q | q
    · rw [low_j j q]
      exact ⟨h.len _ (getD_mem hj), small_mono (h.small _ (getD_mem hj)) (TB_step ..)⟩
    · by_cases e : j = total
      · rw [e, at_t]
        exact ⟨lg, small_mono (h.small _ (getD_mem hgl)) (TB_step ..)⟩
      · obtain ⟨i, i1, i2, ei⟩ := src j (by omega) hj
        rw [ei]
        exact ⟨len_clear, small_thin (small_cross (h.small _ (getD_mem hgl)) (h.small _ (getD_mem i2)))⟩
  refine ⟨fun r hr => (lt_of hr).1, fun v => ?_, by omega, fun j hj => ?_, fun i j hij hj => ?_, fun j h1 h2 d hd => ?_, fun r hr => (lt_of hr).2⟩
  · refine Iff.trans (QS.iff_of (fun x hx => ?_) (fun x hx => ?_) v) (h.span v)
    · obtain ⟨j, hj, rfl⟩ := mem_getD hx
      rw [hN] at hj
      rcases Nat.lt_or_ge j total with q | q
      · rw [low_j j q]
        exact QS.mem (getD_mem hj)
      · by_cases e : j = total
        · rw [e, at_t]
          exact QS.mem (getD_mem hgl)
        · obtain ⟨i, i1, i2, ei⟩ := src j (by omega) hj
          rw [ei]
          obtain ⟨a, a0, ea⟩ := clear_lin (c := c) lg (h.len _ (getD_mem i2))
          exact QS.lin a0 ea (QS.mem (getD_mem i2)) (QS.mem (getD_mem hgl))
    · obtain ⟨j, hj, rfl⟩ := mem_getD hx
      rcases Nat.lt_or_ge j total with q | q
      · rw [← low_j j q]
        exact QS.mem (getD_mem (by omega))
      · by_cases e : j = g
        · rw [e]
          exact pivS
        · -- where does row j stand in N?
          obtain ⟨k, k1, k2, ek⟩ : ∃ k, total < k ∧ k < L.length ∧ N.getD k [] = clear n (L.getD g []) (L.getD j []) c := by
            by_cases e2 : j = total
            · refine ⟨g, by omega, hgl, ?_⟩
              rw [hv g hgl, if_neg (by omega), if_neg (by omega), if_pos rfl, e2]
            · refine ⟨j, by omega, hj, ?_⟩
              rw [hv j hj, if_neg (by omega), if_neg e2, if_neg e]
          obtain ⟨a, a0, ea⟩ := clear_lin (c := c) lg (h.len _ (getD_mem hj))
          have hk : QS (· ∈ N) (ev (clear n (L.getD g []) (L.getD j []) c)) := by rw [← ek]; exact QS.mem (getD_mem (by omega))
          refine QS.lin (x := ev (L.getD j [])) (y := ev (clear n (L.getD g []) (L.getD j []) c)) (z := ev (L.getD g [])) (a := ev (L.getD g []) c) (c := a) (d := -(ev (L.getD j []) c)) hne (fun i => ?_) hk pivS
          have := ea i
          rw [Int.neg_mul]
          omega
  · by_cases e : j = total
    · rw [e, at_t]
      exact ⟨c, glead, by omega⟩
    · rw [low_j j (by omega)]
      obtain ⟨l, e1, e2⟩ := h.ld j (by omega)
      exact ⟨l, e1, by omega⟩
  · rw [low_j i (by omega)]
    by_cases e : j = total
    · rw [e, at_t, leadD_of glead]
      obtain ⟨l, e1, e2⟩ := h.ld i (by omega)
      rw [leadD_of e1]
      exact e2
    · rw [low_j j (by omega)]
      exact h.inc i j hij (by omega)
  · rw [hN] at h2
    obtain ⟨i, i1, i2, ei⟩ := src j (by omega) h2
    rw [ei]
    obtain ⟨a, a0, ea⟩ := clear_lin (c := c) lg (h.len _ (getD_mem i2))
    have := ea d
    have z : a * ev (clear n (L.getD g []) (L.getD i []) c) d = 0 := by
      rw [this]
      by_cases e : d = c
      · rw [e, Int.mul_comm]
        omega
      · rw [h.low i i1 i2 d (by omega), h.low g hg hgl d (by omega)]
        simp
    rcases Int.mul_eq_zero.mp z with z | z
    · exact absurd z a0
    · exact z
/-- what the rank tells -/
def Rank (rows : List Row) (total : Nat) : Prop := ∃ ech : List Row, Ech ech ∧ ech.length = total ∧ ∀ v, QS (· ∈ ech) v ↔ QS (· ∈ rows) v
theorem ri_end {n B : Nat} {rows L : List Row} {total c : Nat} (h : RI n B rows L total c) (he : n ≤ c ∨ L.length ≤ total) : Rank rows total := by
  have tl := h.tl
  have lt : (L.take total).length = total := by rw [List.length_take]; omega
  have gt : ∀ j, j < total → (L.take total).getD j [] = L.getD j [] := fun j hj => by
    rw [List.getD_eq_getElem?_getD, List.getD_eq_getElem?_getD, List.getElem?_take_of_lt hj]
  refine ⟨L.take total, ⟨fun o ho => ?_, ?_⟩, lt, fun v => Iff.trans (QS.iff_of (fun x hx => QS.mem (List.mem_of_mem_take hx)) (fun x hx => ?_) v) (h.span v)⟩
  · obtain ⟨j, hj, rfl⟩ := mem_getD ho
    rw [lt] at hj
    rw [gt j hj]
    obtain ⟨l, e, _⟩ := h.ld j hj
    rw [e]
    exact fun q => by cases q
  · rw [List.pairwise_iff_getElem]
    intro i j hi hj hij
    rw [lt] at hi hj
    have q := h.inc i j hij hj
    rw [← gt i hi, ← gt j hj, List.getD_eq_getElem?_getD, List.getD_eq_getElem?_getD, List.getElem?_eq_getElem, List.getElem?_eq_getElem] at q
    exact q
  · obtain ⟨j, hj, rfl⟩ := mem_getD hx
    rcases Nat.lt_or_ge j total with q | q
    · rw [← gt j q]
      exact QS.mem (getD_mem (by omega))
    · refine QS.zero.cg fun i => ?_
      rcases Nat.lt_or_ge i n with z | z
      · exact (h.low j q hj i (by omega)).symm
      · exact (ev_out (by rw [h.len _ (getD_mem hj)]; exact z)).symm
theorem rank_reds {w B : Nat} {rows out : List Row} {t : Nat} (h : Reds w B rows out) (k : Rank rows t) : t = out.length := by
  obtain ⟨ech, e1, e2, e3⟩ := k
  rw [← e2]
  exact e1.eq h.rs.ech fun v => (e3 v).trans (h.span v).symm
/-- rows each with a column that the ones ahead lack: as many reduced rows -/
theorem reds_free {w : Nat} : ∀ {rows : List Row} {cs : List Nat}, Paired (fun c r => r.length = w ∧ ev r c ≠ 0 ∧ ∀ g ∈ cs, g ≠ c → ev r g = 0) cs rows → cs.Nodup →
    ∀ k, k ≤ rows.length → ∃ out, RS w out ∧ (∀ v, QS (· ∈ out) v ↔ QS (· ∈ rows.take k) v) ∧ out.length = k := by
  intro rows cs hp nd k
  have lc : cs.length = rows.length := Paired.length hp
  induction k with
  | zero => exact fun _ => ⟨[], ⟨(fun _ z => nomatch z), (fun _ z => nomatch z), .nil⟩, fun _ => Iff.rfl, rfl⟩
  | succ k ih =>
    intro hk
    obtain ⟨out, o1, o2, o3⟩ := ih (by omega)
    obtain ⟨c, hc⟩ : ∃ c, cs[k]? = some c := ⟨cs[k]'(by omega), by simp [show k < cs.length by omega]⟩
    obtain ⟨r, hr, f1, f2, f3⟩ := Paired.at hp hc
    obtain ⟨out', ha⟩ := adds_ex out r
    obtain ⟨a1, a2, a3⟩ := adds_RS o1 f1 ha
    refine ⟨out', a1, fun v => (a2 v).trans ?_, ?_⟩
    · rw [take_snoc hr]
      refine QS.iff_of (fun x hx => ?_) (fun x hx => ?_) v
      · rcases hx with hx | rfl
        · exact ((o2 _).mp (QS.mem hx)).trans fun y hy => QS.mem (List.mem_append_left _ hy)
        · exact QS.mem (List.mem_append_right _ (List.mem_singleton.mpr rfl))
      · rcases List.mem_append.mp hx with hx | hx
        · exact ((o2 _).mpr (QS.mem hx)).trans fun y hy => QS.mem (.inl hy)
        · rw [List.mem_singleton.mp hx]
          exact QS.mem (.inr rfl)
    · rcases a3 with ⟨_, q⟩ | ⟨q, _⟩
      · exfalso
        have q := (o2 _).mp q
        -- all ahead are nothing at c
        have zero : ∀ {u : Vec}, InSp (· ∈ rows.take k) u → u c = 0 := fun {u} hu => by
          induction hu with
          | zero => rfl
          | @add u a x _ hx ihx =>
            show u c + a * ev x c = 0
            rw [ihx]
            obtain ⟨j, hj, e⟩ := List.mem_iff_getElem.mp hx
            rw [List.length_take] at hj
            rw [List.getElem_take] at e
            obtain ⟨g, hg⟩ : ∃ g, cs[j]? = some g := ⟨cs[j]'(by omega), by simp [show j < cs.length by omega]⟩
            obtain ⟨x', hx', g1, g2, g3⟩ := Paired.at hp hg
            rw [List.getElem?_eq_getElem (show j < rows.length by omega), e] at hx'
            cases hx'
            have ne : c ≠ g := fun z => by
              obtain ⟨hk', e1⟩ := List.getElem?_eq_some_iff.mp hc
              obtain ⟨hj', e2⟩ := List.getElem?_eq_some_iff.mp hg
              have := (List.getElem_inj (h₀ := hk') (h₁ := hj') nd).mp (by rw [e1, e2, z])
              omega
            rw [g3 c (List.mem_of_getElem? hc) ne]
            simp
        obtain ⟨m, m0, hm⟩ := q
        have := zero hm
        rcases Int.mul_eq_zero.mp this with z | z
        · exact m0 z
        · exact f2 z
      · omega
theorem rank_free {w t : Nat} {rows : List Row} {cs : List Nat} (hp : Paired (fun c r => r.length = w ∧ ev r c ≠ 0 ∧ ∀ g ∈ cs, g ≠ c → ev r g = 0) cs rows) (nd : cs.Nodup) (k : Rank rows t) : t = rows.length := by
  obtain ⟨out, o1, o2, o3⟩ := reds_free hp nd rows.length (Nat.le_refl _)
  rw [List.take_length] at o2
  obtain ⟨ech, e1, e2, e3⟩ := k
  rw [← e2, ← o3]
  exact e1.eq o1.ech fun v => (e3 v).trans (o2 v).symm

/-! ### the law's pool by cells, thin, rank -/
abbrev sPool : Stmt := topS 14
abbrev NPool : List Str := ["_law_script", "_law_k", "_law_cell", "_law_heavy", "_law_blend", "_law_seed"]
abbrev PPool : List Str := ["_law_script", "_law_k"]
theorem scPool : FnScope NPool PPool (defScope sPool) := ⟨rfl, rfl, rfl, by decide +kernel, rfl, by decide +kernel, by decide +kernel⟩
abbrev sTake : Stmt := topS 15
abbrev NTake : List Str := ["_law_pool_here", "_law_wide", "_law_result"]
abbrev PTake : List Str := ["_law_pool_here", "_law_wide"]
theorem scTake : FnScope NTake PTake (defScope sTake) := ⟨rfl, rfl, rfl, by decide +kernel, rfl, by decide +kernel, by decide +kernel⟩
abbrev sThin : Stmt := topS 16
abbrev NThin : List Str := ["_law_row", "_law_most", "_law_value", "_law_one", "_law_other"]
abbrev PThin : List Str := ["_law_row"]
theorem scThin : FnScope NThin PThin (defScope sThin) := ⟨rfl, rfl, rfl, by decide +kernel, rfl, by decide +kernel, by decide +kernel⟩
abbrev sRank : Stmt := topS 17
abbrev NRank : List Str := ["_law_rows", "_law_left", "_law_row", "_law_total", "_law_at", "_law_wide", "_law_good", "_law_one", "_law_first", "_law_times", "_law_other", "_law_lower", "_law_value", "_law_to"]
abbrev PRank : List Str := ["_law_rows"]
theorem scRank : FnScope NRank PRank (defScope sRank) := ⟨rfl, rfl, rfl, by decide +kernel, rfl, by decide +kernel, by decide +kernel⟩
theorem bb_max : bootBuiltins "max" = some (.builtin "max") := by decide +kernel
theorem bb_min : bootBuiltins "min" = some (.builtin "min") := by decide +kernel
theorem b01 (b : Bool) : 0 ≤ (if b = true then (1 : Int) else 0) ∧ (if b = true then (1 : Int) else 0) < 2 ^ 64 := by
  cases b <;> decide
def PoolB (H : Hp) (p : Addr) : Prop := ∃ h s : Int, H p = some (.lst [.int h, .int s]) ∧ 0 ≤ h ∧ 0 ≤ s ∧ s < 2147483647
section
variable {P : Program} {w : World} {K : PySem.W.Frag} {mg : Str → Option Value} {base : Heap}
def spPoolB (K : PySem.W.Frag) : Sp := fun vs H Q _ => ∃ (a : Addr) (ns : List Int) (k : Nat), vs = [.ref a, .int (k : Nat)] ∧ SqL K H a (ns.map V.int) ∧ k ≤ 10 ∧ ∀ (p : Addr) (H' : Hp), Same H H' → H p = none → PoolB H' p → Q (.ref p) H'
theorem ok_PoolB {f : Addr} {fd : FuncData} (F : Fun K "_law_pool" "_law_pool" sPool f fd) (T : TxKer mg) : FnOk P w K mg base CX0 1 f fd PPool (spPoolB K) := by
  refine F.ok scPool (fun vs H Q E h => ?_) (fun cdv A outer s H vs Q E hr h => ?_)
  · obtain ⟨a, ns, k, rfl, _⟩ := h
    rfl
  · obtain ⟨a, ns, k, rfl, hS, hk, kq⟩ := h
    refine ⟨_, (pss_cons (ps_set (i := 2) scPool.nd rfl (Or.inl rfl) pe_int)
  (pss_cons (ps_if (pt_cmpR op_lt (pv 1) (pe_callB call_len_seq (by rfl) T.n_len bb_len (pa_cons (pv 0) pa_nil)) (nomark _))
  (pss_one (ps_set (i := 2) scPool.nd rfl (Or.inl rfl) (pe_ix (r := rIxL K) ix_list (pv 0) (pv 1) (fun _ _ => rfl))))
  pss_nil)
  (pss_cons (ps_set (i := 3) scPool.nd rfl (Or.inl rfl) (pe_callB call_abs (by rfl) T.n_abs bb_abs (pa_cons (pv 2) pa_nil)))
  (pss_cons (ps_set (i := 4) scPool.nd rfl (Or.inl rfl) (pe_op op_mod (pe_op op_mul (pe_callTy call_int1 (by rfl) T.n_int bb_int (pa_cons (pe_op op_add (pe_op op_mod (pe_callTy call_int1 (by rfl) T.n_int bb_int (pa_cons (pv 2) pa_nil)) pe_int) (pe_op op_mul pe_int (pe_op op_add (pv 1) pe_int))) pa_nil)) (pe_op op_add (pv 1) pe_int)) pe_int))
  (pss_cons (ps_set (i := 5) scPool.nd rfl (Or.inl rfl) (pe_op op_mod (pe_op op_mul (pe_op op_mod (pe_callTy call_int1 (by rfl) T.n_int bb_int (pa_cons (pe_op op_mul (pv 4) (pv 4)) pa_nil)) pe_int) pe_int) pe_int))
  (pss_one (ps_ret (pe_lst (pa_cons (pe_op op_mul (pv 3) (pe_callTy call_int1 (by rfl) T.n_int bb_int (pa_cons (pe_cmpR op_ge (pv 3) (pe_op op_pow pe_int pe_int) (nomark _)) pa_nil))) (pa_cons (pv 5) pa_nil)))))))))), ?_⟩
    refine ⟨_, rfl, _, rfl, a, _, rfl, .inl hS, _, _, rfl, rfl, _, rfl, ite2 (fun hlt => ?ga) (fun hlt => ?gb)⟩
    case' ga =>
      have hlt := of_decide_eq_true hlt
      rw [List.length_map] at hlt
      obtain ⟨cell, hcell⟩ : ∃ z, ns[k]? = some z := ⟨ns[k]'(by omega), by simp [show k < ns.length by omega]⟩
      refine ⟨_, rfl, _, rfl, a, _, _, _, rfl, rfl, hS, atI_nat (by rw [List.getElem?_map, hcell]; rfl), ?_⟩
    all_goals
      refine ⟨_, rfl, _, rfl, ?_⟩
      refine ⟨_, rfl, .inl ⟨_, rfl, _, _, rfl, rfl, (show (0 : Int) < 2147483629 by decide), _, rfl, _, _, rfl, rfl, _, _, rfl, rfl, .inl ⟨by decide, by decide⟩, _, _, rfl, rfl, .inl ⟨_, rfl, _, rfl, _, _, rfl, rfl, _, _, rfl, rfl, .inr ⟨by omega, by omega⟩, _, _, rfl, rfl, (show (0 : Int) < 2147483629 by decide), ?_⟩⟩⟩
      obtain ⟨bl, ebl, bl0, bl1⟩ : ∃ bl : Int, bl = _ % 2147483629 ∧ 0 ≤ bl ∧ bl < 2147483629 := ⟨_, rfl, Int.emod_nonneg _ (by decide), Int.emod_lt_of_pos _ (by decide)⟩
      rw [← ebl]
      refine ⟨_, rfl, _, rfl, _, _, rfl, rfl, .inl ⟨by omega, by omega⟩, .inl ⟨_, rfl, _, _, rfl, rfl, (show (0 : Int) < 2147483629 by decide), _, _, rfl, rfl, .inr ⟨by decide, by decide⟩, _, _, rfl, rfl, (show (0 : Int) < 2147483647 by decide), ?_⟩⟩
      refine ⟨_, rfl, _, rfl, _, _, rfl, rfl, ⟨by decide, by decide, by decide⟩, _, _, rfl, rfl, .inr ⟨_, rfl, _, _, rfl, rfl, ?_, _, rfl, (by show 2 ≤ sizeLine; decide), fun p hp => kq p _ (same_new hp) hp ⟨_, _, upd_same, ?_, Int.emod_nonneg _ (by decide), Int.emod_lt_of_pos _ (by decide)⟩⟩⟩
      · exact .inr ⟨Int.lt_of_lt_of_le (by decide) (b01 _).1, (b01 _).2⟩
      · refine Int.mul_nonneg ?_ (b01 _).1
        split <;> omega
def spTake : Sp := fun vs H Q _ => ∃ (p : Addr) (m : Int), vs = [.ref p, .int m] ∧ PoolB H p ∧ 0 < m ∧ m ≤ 1000 ∧ ∀ (r : Int) (H' : Hp), 0 ≤ r → r < m → PoolB H' p → (∀ b o, H b = some o → b ≠ p → H' b = some o) → Q (.int r) H'
theorem ok_Take {f : Addr} {fd : FuncData} (F : Fun K "_law_take" "_law_take" sTake f fd) (T : TxKer mg) : FnOk P w K mg base CX0 1 f fd PTake spTake := by
  refine F.ok scTake (fun vs H Q E h => ?_) (fun cdv A outer s H vs Q E hr h => ?_)
  · obtain ⟨p, m, rfl, _⟩ := h
    rfl
  · obtain ⟨p, m, rfl, ⟨h0, s0, hp, hh, hs0, hs1⟩, m0, m1, kq⟩ := h
    refine ⟨_, (pss_cons (ps_if (pt_cmpR op_gt (pe_ix (r := rIxL K) ix_list (pv 0) pe_int (fun _ _ => rfl)) pe_int (nomark _))
  (pss_cons (ps_set (i := 2) scTake.nd rfl (Or.inl rfl) (pe_op op_mod (pe_callTy call_int1 (by rfl) T.n_int bb_int (pa_cons (pe_ix (r := rIxL K) ix_list (pv 0) pe_int (fun _ _ => rfl)) pa_nil)) (pv 1)))
  (pss_cons (ps_asg (pe_op op_fdiv (pe_ix (r := rIxL K) ix_list (pv 0) pe_int (fun _ _ => rfl)) (pv 1)) (pg_sub (pv 0) pe_int set_list))
  (pss_one (ps_ret (pv 2)))))
  pss_nil)
  (pss_cons (ps_asg (pe_op op_mod (pe_callTy call_int1 (by rfl) T.n_int bb_int (pa_cons (pe_op op_add (pe_op op_mul (pe_ix (r := rIxL K) ix_list (pv 0) pe_int (fun _ _ => rfl)) pe_int) pe_int) pa_nil)) pe_int) (pg_sub (pv 0) pe_int set_list))
  (pss_one (ps_ret (pe_op op_mod (pe_op op_fdiv (pe_op op_mod (pe_callTy call_int1 (by rfl) T.n_int bb_int (pa_cons (pe_op op_mul (pe_ix (r := rIxL K) ix_list (pv 0) pe_int (fun _ _ => rfl)) (pe_ix (r := rIxL K) ix_list (pv 0) pe_int (fun _ _ => rfl))) pa_nil)) pe_int) pe_int) (pv 1)))))), ?_⟩
    have set0 : ∀ x : Int, ([V.int h0, V.int s0].set 0 (V.int x)) = [V.int x, V.int s0] := fun _ => rfl
    have set1 : ∀ x : Int, ([V.int h0, V.int s0].set 1 (V.int x)) = [V.int h0, V.int x] := fun _ => rfl
    refine ⟨_, rfl, p, _, _, _, rfl, rfl, SqL.of hp, rfl, _, _, rfl, rfl, _, rfl, ite2 (fun hpos => ?_) (fun hpos => ?_)⟩
    · refine ⟨_, rfl, p, _, _, _, rfl, rfl, SqL.of hp, rfl, .inl ⟨_, rfl, _, rfl, _, _, rfl, rfl, m0, ?_⟩⟩
      refine ⟨_, rfl, p, _, _, _, rfl, rfl, SqL.of hp, rfl, _, rfl, _, _, rfl, rfl, ⟨m0, by omega⟩, _, rfl, p, _, _, 0, rfl, rfl, hp, rfl, ?_⟩
      rw [set0]
      exact ⟨_, rfl, kq _ _ (Int.emod_nonneg _ (by omega)) (Int.emod_lt_of_pos _ m0) ⟨_, s0, upd_same, Int.ediv_nonneg hh (by omega), hs0, hs1⟩ fun b o e hb => by rw [upd_ne hb]; exact e⟩
    · refine ⟨_, rfl, p, _, _, _, rfl, rfl, SqL.of hp, rfl, _, _, rfl, rfl, .inr ⟨by decide, by decide⟩, _, _, rfl, rfl, .inl ⟨_, rfl, _, _, rfl, rfl, (show (0 : Int) < 2147483647 by decide), _, rfl, p, _, _, 1, rfl, rfl, hp, rfl, ?_⟩⟩
      rw [set1]
      obtain ⟨sd, esd, sd0, sd1⟩ : ∃ sd : Int, sd = (s0 * 48271 + 12345) % 2147483647 ∧ 0 ≤ sd ∧ sd < 2147483647 := ⟨_, rfl, Int.emod_nonneg _ (by decide), Int.emod_lt_of_pos _ (by decide)⟩
      rw [← esd]
      refine ⟨_, rfl, p, _, _, _, rfl, rfl, SqL.of upd_same, rfl, _, rfl, p, _, _, _, rfl, rfl, SqL.of upd_same, rfl, _, _, rfl, rfl, .inl ⟨by omega, by omega⟩, .inl ⟨_, rfl, _, _, rfl, rfl, (show (0 : Int) < 2147483629 by decide), _, _, rfl, rfl, ⟨by decide, by decide⟩, _, rfl, _, _, rfl, rfl, m0, ?_⟩⟩
      exact kq _ _ (Int.emod_nonneg _ (by omega)) (Int.emod_lt_of_pos _ m0) ⟨h0, sd, upd_same, hh, sd0, sd1⟩ fun b o e hb => by rw [upd_ne hb]; exact e
def LstAt (H : Hp) (p : Addr) (r : Row) : Prop := H p = some (.lst (r.map V.int))
def spThin : Sp := fun vs H Q _ => ∃ (p : Addr) (r : Row), vs = [.ref p] ∧ LstAt H p r ∧ r.length ≤ 100 ∧ Small r 9000 ∧ ∀ (q : Addr) (H' : Hp), Same H H' → LstAt H' q (thinF r) → Q (.ref q) H'
theorem ok_Thin {f : Addr} {fd : FuncData} (F : Fun K "_law_thin" "_law_thin" sThin f fd) (T : TxKer mg) : FnOk P w K mg base CX0 1 f fd PThin spThin := by
  refine F.ok scThin (fun vs H Q E h => ?_) (fun cdv A outer s H vs Q E hr h => ?_)
  · obtain ⟨p, r, rfl, _⟩ := h
    rfl
  · obtain ⟨p, r, rfl, hp, hl, sm, kq⟩ := h
    refine ⟨_, (pss_cons (ps_set (i := 1) scThin.nd rfl (Or.inr rfl) pe_int)
  (pss_cons (ps_for PassesOwn.never rfl (pi_list (pv 0)) (pg_name (i := 2) scThin.nd rfl (Or.inl rfl))
  (pss_cons (ps_par (i := 3) (j := 4) (by rfl) scThin.nd rfl rfl (by decide) rfl rfl (pa_cons (pv 1) (pa_cons (pe_callB call_abs (by rfl) T.n_abs bb_abs (pa_cons (pv 2) pa_nil)) pa_nil)) (by rfl))
  (pss_cons (ps_while PassesOwn.never (pt_cmpR op_ne (pv 4) pe_int (nomark _))
  (pss_one (ps_par (i := 3) (j := 4) (by rfl) scThin.nd rfl rfl (by decide) rfl rfl (pa_cons (pv 4) (pa_cons (pe_op op_mod (pe_callTy call_int1 (by rfl) T.n_int bb_int (pa_cons (pv 3) pa_nil)) (pv 4)) pa_nil)) (by rfl))))
  (pss_one (ps_set (i := 1) scThin.nd rfl (Or.inr rfl) (pv 3))))))
  (pss_one (ps_ret (pe_ifExp (pt_cmpR op_gt (pv 1) pe_int (nomark _)) (pe_lc (own := [("_law_value", 2)]) (g := gName 2) (tt := tYes) rfl scThin.nd (pi_list (pv 0)) (blkOk_by (own := [("_law_value", 2)]) (N := NThin) (sc := (defScope sThin)) (by decide +kernel)) (fun _ _ _ _ _ => (pg_name (i := 2) scThin.nd rfl (Or.inl rfl))) (fun _ _ _ _ _ => pts_nil) (fun _ _ _ _ _ => (pe_op op_fdivW (pv 2) (pv 1)))) (pv 0)))))), ?_⟩
    have hS := SqL.of (K := K) hp
    refine ⟨_, rfl, p, rfl, ⟨_, hS⟩, for_list (K := K) (a := p) (xs := r.map V.int) (fun i σ H' => ∃ x y z : Option V, σ = [some (.ref p), some (.int ((r.take i).foldl (fun g x => Int.gcd g x) 0 : Nat)), x, y, z] ∧ H' = H) ⟨none, none, none, rfl, rfl⟩ (fun i σ H' _ ⟨_, _, _, _, e⟩ => by rw [e]; exact hS) ?_ ?_⟩
    · rintro i x σ H' hx ⟨y1, y2, y3, rfl, eH⟩
      obtain ⟨z, hz, rfl⟩ := int_at hx
      obtain ⟨g, eg⟩ : ∃ g : Nat, g = (r.take i).foldl (fun g x => Int.gcd g x) 0 := ⟨_, rfl⟩
      have fold : (r.take (i + 1)).foldl (fun g x => Int.gcd g x) 0 = Int.gcd g z := by
        rw [take_snoc hz, List.foldl_append, ← eg]
        rfl
      rw [← eg]
      refine ⟨_, rfl, _, rfl, _, rfl, _, _, rfl, ?_⟩
      rw [abs_if]
      refine ⟨fun m σ H1 => ∃ n : Nat, σ = [some (.ref p), some (.int (g : Int)), some (.int z), some (.int (n : Int)), some (.int (m : Int))] ∧ Nat.gcd n m = Int.gcd g z ∧ H1 = H, ⟨z.natAbs, g, rfl, rfl, eH⟩, ?_⟩
      rintro m σ H1 ⟨n, rfl, hg, eH1⟩
      refine ⟨_, rfl, rfl, _, rfl, ite2 (fun hne => ?_) (fun he => ?_)⟩
      · have hm : 0 < m := by
          rcases Nat.eq_zero_or_pos m with q | q
          · rw [q] at hne
            exact absurd hne (by decide)
          · exact q
        refine ⟨fun σ' H' => ∃ n' m' : Nat, m' < m ∧ σ' = [some (.ref p), some (.int (g : Int)), some (.int z), some (.int (n' : Int)), some (.int (m' : Int))] ∧ Nat.gcd n' m' = Int.gcd g z ∧ H' = H, fun σ' H' ⟨n', m', h1, h2, h3, h4⟩ => ⟨m', h1, n', h2, h3, h4⟩, ?_⟩
        refine ⟨_, rfl, _, rfl, .inl ⟨_, rfl, _, rfl, _, _, rfl, rfl, (show (0 : Int) < (m : Int) by omega), _, _, rfl, m, n % m, Nat.mod_lt _ hm, rfl, ?_, eH1⟩⟩
        rw [← hg, Nat.gcd_comm m, ← Nat.gcd_rec, Nat.gcd_comm]
      · have hm : m = 0 := by
          rcases Nat.eq_zero_or_pos m with q | q
          · exact q
          · exfalso
            apply he
            show (!decide (V.int (m : Int) = V.int 0)) = true
            rw [decide_eq_false (fun q => by injection q with q; omega)]
            rfl
        subst hm
        rw [Nat.gcd_zero_right] at hg
        subst hg
        exact ⟨_, rfl, some (.int z), some (.int ((Int.gcd g z : Nat) : Int)), some (.int 0), by rw [fold]; rfl, eH1⟩
    · rintro σ H' ⟨y1, y2, y3, rfl, rfl⟩
      rw [List.length_map, List.take_length]
      refine ⟨_, rfl, _, _, rfl, rfl, _, rfl, ite2 (fun h1 => ?_) (fun h1 => ?_)⟩
      · have g1 : 1 < gcdR r := by
          have q := of_decide_eq_true h1
          show 1 < r.foldl (fun g x => Int.gcd g x) 0
          omega
        refine ⟨_, rfl, p, rfl, ⟨_, hS⟩, fun D hD => lc_map (walk_list (K := K) (a := p) (xs := r.map V.int)) (fun i => V.int (r.getD i 0 / ((gcdR r : Nat) : Int))) hD (by rw [List.length_map]; omega) (fun H2 s2 => SqL.of (s2 _ _ hp)) ?_ ?_⟩
        · rintro i x H2 H3 kk hi s2 ⟨rfl, hx⟩ kc
          obtain ⟨z, hz', rfl⟩ := int_at hx
          refine ⟨rfl, _, rfl, _, rfl, _, _, rfl, rfl, ?_, ?_⟩
          · rcases gcd_small sm with q | q
            · exact wide_div (by show (0 : Int) < ((gcdR r : Nat) : Int); omega) (by show (((gcdR r : Nat) : Int)).natAbs < _; rw [Int.natAbs_natCast]; exact q) (by decide) (Nat.le_refl _)
            · rw [gcd_all q] at g1
              omega
          · have q := kc H3 (Same.refl _)
            rw [getD_of hz'] at q
            exact q
        · intro H2 s2 e2
          refine kq D _ s2 ?_
          show H2 D = _
          rw [e2]
          congr 2
          unfold thinF
          rw [if_pos g1, List.map_map, List.length_map]
          refine range_map r _ _ fun i x hx => ?_
          rw [getD_of hx]
          rfl
      · have g1 : ¬ 1 < gcdR r := fun q => h1 (decide_eq_true (by show (1 : Int) < ((r.foldl (fun g x => Int.gcd g x) 0 : Nat) : Int); have : 1 < r.foldl (fun g x => Int.gcd g x) 0 := q; omega))
        exact ⟨_, rfl, kq p _ (Same.refl _) (by unfold thinF; rw [if_neg g1]; exact hp)⟩
/-! rank -/
def dRows (rs : List Row) : PyData := .list (rs.map fun r => .tuple (r.map .int))
theorem dp_ints {H : Hp} : ∀ r : Row, DpAll K H (r.map V.int) (r.map PyData.int)
  | [] => .nil
  | x :: r => .cons (.int x) (dp_ints r)
theorem dp_rows {H : Hp} {p : Addr} {xs : List V} {rs : List Row} (e : H p = some (.lst xs)) (h : RowsIn H xs rs) : Dp K H (.ref p) (dRows rs) := by
  refine .lst (SqL.of e) ?_
  clear e
  induction h with
  | nil => exact .nil
  | cons r _ ih =>
    obtain ⟨a, rfl, q⟩ := r
    exact .cons (.tup (SqT.of q) (dp_ints _)) ih
theorem lay_ints : ∀ r : Row, PyData.canLayAll0 (r.map PyData.int) = true
  | [] => by simp [PyData.canLayAll0]
  | x :: r => by simp only [List.map_cons, PyData.canLayAll0, PyData.canLay0, Bool.true_and]; exact lay_ints r
theorem depth_ints : ∀ r : Row, PyData.depthAll (r.map PyData.int) = 0
  | [] => by simp [PyData.depthAll]
  | x :: r => by simp only [List.map_cons, PyData.depthAll, PyData.depth, depth_ints r]; rfl
theorem lay_rows : ∀ rs : List Row, PyData.canLayAll0 (rs.map fun r => PyData.tuple (r.map .int)) = true
  | [] => by simp [PyData.canLayAll0]
  | r :: rs => by
    simp only [List.map_cons, PyData.canLayAll0, PyData.canLay0, lay_ints r, Bool.true_and]
    exact lay_rows rs
theorem depth_rows : ∀ rs : List Row, PyData.depthAll (rs.map fun r => PyData.tuple (r.map .int)) ≤ 1
  | [] => by simp [PyData.depthAll]
  | r :: rs => by
    have := depth_rows rs
    simp only [List.map_cons, PyData.depthAll, PyData.depth, depth_ints r]
    omega
theorem shaped_rows (rs : List Row) : SeqAt.shaped (dRows rs) = true := by
  have q := depth_rows rs
  unfold SeqAt.shaped dRows
  rw [Bool.and_eq_true]
  refine ⟨by simp only [PyData.canLay0]; exact lay_rows rs, decide_eq_true ?_⟩
  simp only [PyData.depth]
  omega
theorem eqv_rows (rs : List Row) : PyData.eqv (dRows rs) (dRows rs) = true := SeqAt.eqv_refl _ (by simp only [dRows, PyData.canLay0]; exact lay_rows rs)
theorem shaped_ints (r : Row) : SeqAt.shaped (.list (r.map .int)) = true := by
  unfold SeqAt.shaped
  simp only [PyData.canLay0, PyData.depth, lay_ints, depth_ints, Bool.true_and]
  decide
theorem eqv_nil_rows (rs : List Row) : PyData.eqv (dRows rs) (.list []) = decide (rs = []) := by
  cases rs with
  | nil => rfl
  | cons r rs => rfl
theorem eqv_nil_ints (r : Row) : PyData.eqv (.list (r.map .int)) (.list []) = decide (r = []) := by
  cases r with
  | nil => rfl
  | cons x r => rfl
structure TxLaw (mg : Str → Option Value) : Prop extends TxKer mg where
  n_max : mg "max" = none
  n_min : mg "min" = none
def LL (H : Hp) (xs : List V) (rs : List Row) : Prop := Paired (fun v r => ∃ p, v = .ref p ∧ LstAt H p r) xs rs
theorem LL.same {H H' : Hp} {xs : List V} {rs : List Row} (h : LL H xs rs) (s : Same H H') : LL H' xs rs := Paired.mapP h fun _ _ ⟨p, e, q⟩ => ⟨p, e, s _ _ q⟩
theorem paired_mem {α β : Type} {F : α → β → Prop} {xs : List α} {ys : List β} (h : Paired F xs ys) {G : α → β → Prop} (k : ∀ x ∈ xs, ∀ y, F x y → G x y) : Paired G xs ys := by
  induction h with
  | nil => exact .nil
  | cons r _ ih => exact .cons (k _ (List.mem_cons_self ..) _ r) (ih fun x hx => k x (List.mem_cons_of_mem _ hx))
theorem LL.upd {H : Hp} {A : Addr} {xs : List V} {rs : List Row} {o : HO} (h : LL H xs rs) (eA : H A = some (.lst xs)) : LL (L2.upd H A o) xs rs := paired_mem h fun x hx r ⟨p, e, q⟩ => ⟨p, e, by
  have ne : p ≠ A := fun z => by
    rw [z] at q
    have q : H A = some (.lst (r.map V.int)) := q
    rw [eA] at q
    injection q with q
    injection q with q
    rw [q, e] at hx
    obtain ⟨_, _, w⟩ := List.mem_map.mp hx
    cases w
  show L2.upd H A o p = _
  rw [upd_ne ne]
  exact q⟩
theorem LL.ne {H : Hp} {A : Addr} {xs : List V} {rs : List Row} (h : LL H xs rs) (eA : H A = some (.lst xs)) {i : Nat} {p : Addr} (hx : xs[i]? = some (.ref p)) : p ≠ A := fun z => by
  obtain ⟨r, hr, q, e, w⟩ := Paired.at h hx
  cases e
  rw [z] at w
  have w : H A = some (.lst (r.map V.int)) := w
  rw [eA] at w
  injection w with w
  injection w with w
  have := List.mem_of_getElem? hx
  rw [w] at this
  obtain ⟨_, _, w⟩ := List.mem_map.mp this
  cases w
theorem Paired.set {α β : Type} {F : α → β → Prop} {xs : List α} {ys : List β} (h : Paired F xs ys) {a : α} {b : β} (r : F a b) : ∀ i, Paired F (xs.set i a) (ys.set i b) := by
  induction h with
  | nil => exact fun _ => .nil
  | cons r' t ih =>
    intro i
    cases i with
    | zero => exact .cons r t
    | succ i => exact .cons r' (ih i)
theorem ll_at {H : Hp} {xs : List V} {rs : List Row} (h : LL H xs rs) {i : Nat} (hi : i < rs.length) : ∃ p, xs[i]? = some (.ref p) ∧ LstAt H p (rs.getD i []) := by
  have lx : xs.length = rs.length := Paired.length h
  obtain ⟨r, hr, p, e, q⟩ := Paired.at h (i := i) (x := xs[i]'(by omega)) (List.getElem?_eq_getElem (by omega))
  exact ⟨p, by rw [List.getElem?_eq_getElem (by omega), e], by rw [List.getD_eq_getElem?_getD, hr]; exact q⟩
theorem getD_set {L : List Row} {i j : Nat} {r : Row} (h : i < L.length) : (L.set i r).getD j [] = if j = i then r else L.getD j [] := by
  rw [List.getD_eq_getElem?_getD, List.getD_eq_getElem?_getD, List.getElem?_set]
  by_cases e : i = j
  · subst e
    rw [if_pos rfl, if_pos h, if_pos rfl]
    rfl
  · rw [if_neg e, if_neg (Ne.symm e)]
theorem ix_nat {n i : Nat} (h : i < n) : ixN n ((i : Nat) : Int) = some i := by
  unfold ixN
  rw [if_pos (by omega), if_pos (by omega), Int.toNat_natCast]
theorem piv_form {L : List Row} {n total c g j : Nat} (hg : total ≤ g) (hj : j < L.length) :
    (if total < j ∧ j < L.length then clear n (L.getD g []) (if j = g then L.getD total [] else if j = total then L.getD g [] else L.getD j []) c else (if j = g then L.getD total [] else if j = total then L.getD g [] else L.getD j [])) =
    (if j < total then L.getD j [] else if j = total then L.getD g [] else clear n (L.getD g []) (if j = g then L.getD total [] else L.getD j []) c) := by
  by_cases e1 : j < total
  · have a1 : ¬ (total < j ∧ j < L.length) := by omega
    have a2 : ¬ j = g := by omega
    have a3 : ¬ j = total := by omega
    rw [if_neg a1, if_neg a2, if_neg a3, if_pos e1]
  · by_cases e2 : j = total
    · have a1 : ¬ (total < j ∧ j < L.length) := by omega
      rw [if_neg a1, if_neg e1, if_pos e2, if_pos e2]
      by_cases e3 : j = g
      · rw [if_pos e3, ← e3, e2]
      · rw [if_neg e3]
    · have a1 : total < j ∧ j < L.length := by omega
      rw [if_pos a1, if_neg e1, if_neg e2, if_neg e2]
def spRank : Sp := fun vs H Q _ => ∃ (R : Addr) (n : Nat) (xs : List V) (rows : List Row) (B : Nat), vs = [.ref R] ∧ H R = some (.lst xs) ∧ RowsIn H xs rows ∧ (∀ r ∈ rows, r.length = n ∧ Small r B) ∧ n ≤ 100 ∧ rows.length ≤ 100 ∧ 0 < B ∧ TB B (min (rows.length - 1) n) ≤ 9000 ∧
  ∀ (t : Nat) (H' : Hp), Same H H' → Aon.Rank rows t → Q (.int (t : Nat)) H'
theorem ok_Rank {f : Addr} {fd : FuncData} (F : Fun K "_law_rank" "_law_rank" sRank f fd) (T : TxKer mg) (GT : Has P w K mg base CX0 1 "_law_thin" PThin spThin) : FnOk P w K mg base CX0 2 f fd PRank spRank := by
  refine F.ok scRank (fun vs H Q E h => ?_) (fun cdv A outer s H vs Q E hr h => ?_)
  · obtain ⟨R, n, xs, rows, B, rfl, _⟩ := h
    rfl
  · obtain ⟨R, n, xs, rows, B, rfl, hR, hx, hrow, hn, h60, b0, eb, kq⟩ := h
    refine ⟨_, (pss_cons (ps_set (i := 1) scRank.nd rfl (Or.inr rfl) (pe_lc (own := [("_law_row", 2)]) (g := gName 2) (tt := tYes) rfl scRank.nd (pi_list (pv 0)) (blkOk_by (own := [("_law_row", 2)]) (N := NRank) (sc := (defScope sRank)) (by decide +kernel)) (fun _ _ _ _ _ => (pg_name (i := 2) scRank.nd rfl (Or.inl rfl))) (fun _ _ _ _ _ => pts_nil) (fun _ _ _ _ _ => (pe_callTy (r := rListOf K) call_list_of (by rfl) T.n_list bb_list (pa_cons (pv 2) pa_nil)))))
  (pss_cons (ps_asg (pe_tup (pa_cons pe_int (pa_cons pe_int pa_nil))) (pg_tup (by rfl) (pgs_cons (pg_name (i := 3) scRank.nd rfl (Or.inl rfl)) (pgs_cons (pg_name (i := 4) scRank.nd rfl (Or.inr rfl)) pgs_nil))))
  (pss_cons (ps_set (i := 5) scRank.nd rfl (Or.inl rfl) (pe_ifExp (pt_cmpR (op_neD hr.units) (pv 0) (pe_lst pa_nil) (nomark _)) (pe_callB call_len_seq (by rfl) T.n_len bb_len (pa_cons (pe_ix (r := rIxL K) ix_list (pv 0) pe_int (fun _ _ => rfl)) pa_nil)) pe_int))
  (pss_cons (ps_while PassesOwn.never (PW.pt (pw_and (pt_cmpR op_lt (pv 4) (pv 5) (nomark _)) (pw_and1 (pt_cmpR op_lt (pv 3) (pe_callB call_len_seq (by rfl) T.n_len bb_len (pa_cons (pv 1) pa_nil)) (nomark _)))))
  (pss_cons (ps_setLc (i := 6) (own := [("_law_one", 7)]) (g := gName 7) rfl scRank.nd rfl rfl (sw_true rfl rfl rfl (by decide +kernel)) (pi_range2 (by rfl) T.n_range (pa_cons (pv 3) (pa_cons (pe_callB call_len_seq (by rfl) T.n_len bb_len (pa_cons (pv 1) pa_nil)) pa_nil))) (blkOk_by (own := [("_law_one", 7)]) (N := NRank) (sc := (defScope sRank)) (by decide +kernel)) (fun _ _ _ _ _ => (pg_name (i := 7) scRank.nd rfl (Or.inl rfl))) (fun _ _ _ _ _ => (pts_one (pt_cmpR op_ne (pe_ix (r := rIxL K) ix_list (pe_ix (r := rIxL K) ix_list (pv 1) (pv 7) (fun _ _ => rfl)) (pv 4) (fun _ _ => rfl)) pe_int (nomark _)))) (fun _ _ _ _ _ => (pv 7)))
  (pss_cons (ps_if (pt_cmpR (op_neD hr.units) (pv 6) (pe_lst pa_nil) (nomark _))
  (pss_cons (ps_asg (pe_tup (pa_cons (pe_ix (r := rIxL K) ix_list (pv 1) (pe_ix (r := rIxL K) ix_list (pv 6) pe_int (fun _ _ => rfl)) (fun _ _ => rfl)) (pa_cons (pe_ix (r := rIxL K) ix_list (pv 1) (pv 3) (fun _ _ => rfl)) pa_nil))) (pg_tup (by rfl) (pgs_cons (pg_sub (pv 1) (pv 3) set_list) (pgs_cons (pg_sub (pv 1) (pe_ix (r := rIxL K) ix_list (pv 6) pe_int (fun _ _ => rfl)) set_list) pgs_nil))))
  (pss_cons (ps_set (i := 8) scRank.nd rfl (Or.inr rfl) (pe_ix (r := rIxL K) ix_list (pv 1) (pv 3) (fun _ _ => rfl)))
  (pss_cons (ps_for PassesOwn.never rfl (pi_range2 (by rfl) T.n_range (pa_cons (pe_op op_add (pv 3) pe_int) (pa_cons (pe_callB call_len_seq (by rfl) T.n_len bb_len (pa_cons (pv 1) pa_nil)) pa_nil))) (pg_name (i := 7) scRank.nd rfl (Or.inl rfl))
  (pss_cons (ps_set (i := 9) scRank.nd rfl (Or.inr rfl) (pe_ix (r := rIxL K) ix_list (pe_ix (r := rIxL K) ix_list (pv 1) (pv 7) (fun _ _ => rfl)) (pv 4) (fun _ _ => rfl)))
  (pss_cons (ps_set (i := 10) scRank.nd rfl (Or.inr rfl) (pe_ix (r := rIxL K) ix_list (pv 1) (pv 7) (fun _ _ => rfl)))
  (pss_cons (ps_set (i := 11) scRank.nd rfl (Or.inr rfl) (pe_lc (own := [("_law_value", 12)]) (g := gName 12) (tt := tYes) rfl scRank.nd (pi_list (pv 8)) (blkOk_by (own := [("_law_value", 12)]) (N := NRank) (sc := (defScope sRank)) (by decide +kernel)) (fun _ _ _ _ _ => (pg_name (i := 12) scRank.nd rfl (Or.inl rfl))) (fun _ _ _ _ _ => pts_nil) (fun _ _ _ _ _ => (pe_op op_mulW (pv 9) (pv 12)))))
  (pss_one (ps_asg (pe_callH GT hr rfl pass0 (pa_cons (pe_lc (own := [("_law_to", 13)]) (g := gName 13) (tt := tYes) rfl scRank.nd (pi_range1 (by rfl) T.n_range (pa_cons (pv 5) pa_nil)) (blkOk_by (own := [("_law_to", 13)]) (N := NRank) (sc := (defScope sRank)) (by decide +kernel)) (fun _ _ _ _ _ => (pg_name (i := 13) scRank.nd rfl (Or.inl rfl))) (fun _ _ _ _ _ => pts_nil) (fun _ _ _ _ _ => (pe_op op_sub (pe_op op_mulW (pe_ix (r := rIxL K) ix_list (pv 8) (pv 4) (fun _ _ => rfl)) (pe_ix (r := rIxL K) ix_list (pv 10) (pv 13) (fun _ _ => rfl))) (pe_ix (r := rIxL K) ix_list (pv 11) (pv 13) (fun _ _ => rfl))))) pa_nil)) (pg_sub (pv 1) (pv 7) set_list)))))))
  (pss_one (ps_set (i := 3) scRank.nd rfl (Or.inl rfl) (pe_op op_add (pv 3) pe_int))))))
  pss_nil)
  (pss_one (ps_set (i := 4) scRank.nd rfl (Or.inr rfl) (pe_op op_add (pv 4) pe_int))))))
  (pss_one (ps_ret (pv 3))))))), ?_⟩
    have lx : xs.length = rows.length := Paired.length hx
    -- left
    refine ⟨_, rfl, R, rfl, ⟨_, SqL.of hR⟩, fun A hA => ?_⟩
    refine lc_it (walk_list (K := K) (a := R) (xs := xs)) (fun i H' => Same H H' ∧ ∃ ys, H' A = some (.lst ys) ∧ LL H' ys (rows.take i)) ⟨same_new hA, [], upd_same, .nil⟩ (fun i H' _ h' => SqL.of (h'.1 _ _ hR)) ?_ ?_
    · rintro i x H1 H2 hi ⟨s1, ys, eA, hy⟩ ⟨rfl, hxi⟩
      obtain ⟨r, hri, q, rfl, hq⟩ := Paired.at hx hxi
      have lys : ys.length = (rows.take i).length := Paired.length hy
      rw [List.length_take] at lys
      refine ⟨rfl, _, rfl, q, _, rfl, .inr (SqT.of (s1 _ _ hq)), fun l hl => ?_⟩
      have s2 := same_new (o := .lst (r.map V.int)) hl
      have eA2 := s2 _ _ eA
      refine ⟨ys, eA2, small1000 (by omega), fun b o e => by rw [upd_ne (ne_of_none e hA)]; exact s2 b o (s1 b o e), _, upd_same, ?_⟩
      have lA : l ≠ A := fun z => by rw [z, eA] at hl; cases hl
      rw [take_snoc hri]
      refine Paired.snocP ((hy.same s2).upd eA2) ⟨l, rfl, ?_⟩
      show upd (upd _ l _) A _ l = _
      rw [upd_ne lA, upd_same]
    rintro H1 ⟨s1, ys, eA, hy⟩
    rw [lx, List.take_length] at hy
    -- total, at = 0, 0
    refine ⟨(by show 2 ≤ sizeLine; decide), fun T0 hT0 => ⟨T0, _, rfl, SqT.of upd_same, rfl, _, _, rfl, _, _, rfl, rfl, ?_⟩⟩
    have s2 := same_new (o := .tup [.int 0, .int 0]) hT0
    -- wide
    refine ⟨_, rfl, (by show 0 ≤ sizeLine; decide), fun N0 hN0 => ?_⟩
    have s3 := s2.trans (same_new (o := .lst []) hN0)
    refine ⟨_, _, dp_rows ((s1.trans s3) _ _ hR) (hx.same (TSame.of (s1.trans s3))), .lst (SqL.of upd_same) .nil, shaped_rows _, by decide, _, rfl, ?_⟩
    rw [eqv_nil_rows]
    obtain ⟨H3, eH3⟩ : ∃ H3, H3 = upd (upd H1 T0 (.tup [.int 0, .int 0])) N0 (.lst []) := ⟨_, rfl⟩
    rw [← eH3] at s3 ⊢
    have s13 := s1.trans s3
    have eA3 := s3 _ _ eA
    have hy3 := hy.same s3
    refine ite2 (fun hne => ?ga) (fun hnil => ?gb)
    case' ga =>
      have ne : rows ≠ [] := fun z => by rw [z] at hne; exact absurd hne (by decide)
      obtain ⟨p0, e0, t0⟩ : ∃ p, xs[0]? = some (.ref p) ∧ TupAt H p (rows.getD 0 []) := by
        obtain ⟨p, e, q, _⟩ := rows_at hx (i := 0) (x := xs[0]'(by rw [lx]; exact List.length_pos_iff.mpr ne)) (List.getElem?_eq_getElem (by rw [lx]; exact List.length_pos_iff.mpr ne))
        exact ⟨p, by rw [List.getElem?_eq_getElem (by rw [lx]; exact List.length_pos_iff.mpr ne), e], q⟩
      have l0 : (rows.getD 0 []).length = n := (hrow _ (getD_mem (List.length_pos_iff.mpr ne))).1
      refine ⟨_, rfl, R, _, _, _, rfl, rfl, SqL.of (s13 _ _ hR), atI_nat (j := 0) e0, p0, _, rfl, .inr (SqT.of (s13 _ _ t0)), ?_⟩
      rw [List.length_map, l0]
      have hwd : rows = [] ∨ n = n := .inr rfl
    case' gb =>
      have ne : rows = [] := by
        by_cases z : rows = []
        · exact z
        · exact absurd (by rw [decide_eq_false z]; rfl) hnil
      have hwd : rows = [] ∨ 0 = n := .inl ne
    all_goals
      refine ⟨fun m σ H' => ∃ (wd total at_ : Nat) (L : List Row) (zs : List V) (x2 x6 x7 x8 x9 x10 x11 x12 x13 : Option V), m = wd - at_ ∧ (rows = [] ∨ wd = n) ∧ σ = [some (.ref R), some (.ref A), x2, some (.int (total : Nat)), some (.int (at_ : Nat)), some (.int (wd : Nat)), x6, x7, x8, x9, x10, x11, x12, x13] ∧
        Same H H' ∧ H' A = some (.lst zs) ∧ LL H' zs L ∧ RI n B rows L total at_ ∧ L.length = rows.length, ⟨_, _, 0, 0, rows, ys, none, none, none, none, none, none, none, none, none, rfl, hwd, rfl, s13, eA3, hy3, ri_start hrow, rfl⟩, ?_⟩
      rintro m σ H4 ⟨wd, total, at_, L, zs, x2, x6, x7, x8, x9, x10, x11, x12, x13, rfl, hwd, rfl, s4, eA4, hL4, ri, lL⟩
      have lz : zs.length = L.length := Paired.length hL4
      refine ⟨_, rfl, _, rfl, _, _, rfl, rfl, _, rfl, ite2 (fun h1 => ?_) (fun h1 => ?_)⟩
      · have h1 := of_decide_eq_true h1
        refine ⟨_, rfl, _, rfl, A, _, rfl, .inl (SqL.of eA4), _, _, rfl, rfl, _, rfl, ite2 (fun h2 => ?_) (fun h2 => ?_)⟩
        · have h2 := of_decide_eq_true h2
          have tl : total < L.length := by omega
          have rne : rows ≠ [] := fun z => by rw [lL, z] at tl; cases tl
          have wn : wd = n := hwd.resolve_left rne
          subst wn
          have ac : at_ < wd := by omega
          refine ⟨fun σ' H' => ∃ (total' : Nat) (L : List Row) (zs : List V) (x2 x6 x7 x8 x9 x10 x11 x12 x13 : Option V), σ' = [some (.ref R), some (.ref A), x2, some (.int (total' : Nat)), some (.int ((at_ + 1 : Nat) : Int)), some (.int (wd : Nat)), x6, x7, x8, x9, x10, x11, x12, x13] ∧
            Same H H' ∧ H' A = some (.lst zs) ∧ LL H' zs L ∧ RI wd B rows L total' (at_ + 1) ∧ L.length = rows.length, ?_, ?_⟩
          · rintro σ' H' ⟨total', L', zs', y2, y6, y7, y8, y9, y10, y11, y12, y13, e1, e2, e3, e4, e5, e6⟩
            exact ⟨wd - (at_ + 1), by omega, wd, total', at_ + 1, L', zs', y2, y6, y7, y8, y9, y10, y11, y12, y13, rfl, .inr rfl, e1, e2, e3, e4, e5, e6⟩
          · have tc := ri.le_c
            have m1 : TB B total ≤ 9000 := Nat.le_trans (TB_mono (by omega)) eb
            have sL : ∀ j, j < L.length → (L.getD j []).length = wd ∧ Small (L.getD j []) (TB B total) := fun j hj => ⟨ri.len _ (getD_mem hj), ri.small _ (getD_mem hj)⟩
            have tb0 : 0 < TB B total := Nat.lt_of_lt_of_le b0 (TB_mono (s := 0) (Nat.zero_le _))
            have bad : ∀ (j : Nat), (!decide (V.int (ev (L.getD j []) at_) = V.int 0)) = decide (ev (L.getD j []) at_ ≠ 0) := fun j => by
              by_cases q : ev (L.getD j []) at_ = 0
              · rw [q]; rfl
              · rw [decide_eq_false (fun z => by injection z with z; exact q z), decide_eq_true q]; rfl
            -- good
            refine ⟨_, rfl, _, rfl, A, _, rfl, .inl (SqL.of eA4), _, _, rfl, ⟨by omega, by omega, by rw [lz]; omega, by rw [lz]; omega⟩, fun D hD => ?_⟩
            obtain ⟨gl, egl⟩ : ∃ gl : Nat → List Int, gl = fun i => ((List.range i).filter fun k => decide (ev (L.getD (total + k) []) at_ ≠ 0)).map fun k => ((total + k : Nat) : Int) := ⟨_, rfl⟩
            have DA : D ≠ A := fun z => by rw [z, eA4] at hD; cases hD
            refine lc_range (lo := (total : Int)) (n := ((zs.length : Int) - (total : Int)).toNat) (fun i H' => Same H4 H' ∧ H' D = some (.lst ((gl i).map V.int)) ∧ (gl i).length ≤ i) ⟨same_new hD, by rw [egl]; exact upd_same, by rw [egl]; exact Nat.le_refl _⟩ ?_ ?_
            · rintro i H5 hi ⟨s5, eD5, lg⟩
              have hj : total + i < L.length := by omega
              obtain ⟨q, hq, hlq⟩ := ll_at hL4 hj
              have hlq5 := s5 _ _ hlq
              refine ⟨rfl, _, rfl, _, rfl, A, _, _, _, rfl, rfl, SqL.of (s5 _ _ eA4), at_of (j := total + i) (by omega) hq, _, rfl, q, _, _, _, rfl, rfl, SqL.of hlq5, atI_ev (by rw [(sL _ hj).1]; exact ac), rfl, _, rfl, ?_⟩
              rw [bad]
              have gs : gl (i + 1) = gl i ++ (if ev (L.getD (total + i) []) at_ ≠ 0 then [((total + i : Nat) : Int)] else []) := by
                rw [egl]
                show List.map _ (List.filter _ (List.range (i + 1))) = _
                rw [List.range_succ, List.filter_append, List.map_append]
                congr 1
                by_cases z : ev (L.getD (total + i) []) at_ = 0
                · rw [if_neg (fun w => w z), List.filter_cons, decide_eq_false (fun w => w z)]
                  rfl
                · rw [if_pos z, List.filter_cons, decide_eq_true z]
                  rfl
              refine ite2 (fun hne => ?_) (fun hne => ?_)
              · have hne := of_decide_eq_true hne
                rw [if_pos hne] at gs
                refine ⟨_, rfl, _, eD5, small1000 (by rw [List.length_map]; omega), fun b o e => by rw [upd_ne (ne_of_none e hD)]; exact s5 b o e, ?_, ?_⟩
                · rw [upd_same, gs, List.map_append]
                  rfl
                · rw [gs, List.length_append]
                  show (gl i).length + 1 ≤ i + 1
                  omega
              · have hne : ¬ ev (L.getD (total + i) []) at_ ≠ 0 := fun z => hne (decide_eq_true z)
                rw [if_neg hne, List.append_nil] at gs
                exact ⟨s5, by rw [gs]; exact eD5, by rw [gs]; omega⟩
            rintro H5 ⟨s5, eD5, lg⟩
            have cnt : ((zs.length : Int) - (total : Int)).toNat = L.length - total := by omega
            rw [cnt] at eD5 lg
            obtain ⟨G, eG⟩ : ∃ G, G = gl (L.length - total) := ⟨_, rfl⟩
            rw [← eG] at eD5 lg
            -- good != []
            refine ⟨_, rfl, (by show 0 ≤ sizeLine; decide), fun N1 hN1 => ?_⟩
            have s6 := same_new (o := .lst []) hN1
            refine ⟨_, _, .lst (SqL.of (s6 _ _ eD5)) (dp_ints _), .lst (SqL.of upd_same) .nil, shaped_ints _, by decide, _, rfl, ?_⟩
            rw [eqv_nil_ints]
            obtain ⟨H6, eH6⟩ : ∃ H6, H6 = upd H5 N1 (.lst []) := ⟨_, rfl⟩
            rw [← eH6] at s6 ⊢
            have s46 := s5.trans s6
            have eA6 := s46 _ _ eA4
            have eD6 := s6 _ _ eD5
            have hL6 := hL4.same s46
            refine ite2 (fun hG => ?_) (fun hG => ?_)
            · have Gne : G ≠ [] := fun z => by rw [z] at hG; exact absurd hG (by decide)
              obtain ⟨g, hg0, hgt, hgl, hgne⟩ : ∃ g : Nat, G[0]? = some ((g : Nat) : Int) ∧ total ≤ g ∧ g < L.length ∧ ev (L.getD g []) at_ ≠ 0 := by
                cases e : G with
                | nil => exact absurd e Gne
                | cons x r =>
                  have hm : x ∈ G := by rw [e]; exact List.mem_cons_self ..
                  rw [eG, egl] at hm
                  obtain ⟨k, hk, rfl⟩ := List.mem_map.mp hm
                  obtain ⟨k1, k2⟩ := List.mem_filter.mp hk
                  exact ⟨total + k, rfl, by omega, by have := List.mem_range.mp k1; omega, of_decide_eq_true k2⟩
              obtain ⟨pg, hpg, lpg⟩ := ll_at hL6 hgl
              obtain ⟨pt, hpt, lpt⟩ := ll_at hL6 tl
              have aG : atI (G.map V.int) 0 = some (V.int ((g : Nat) : Int)) := atI_nat (j := 0) (by rw [List.getElem?_map, hg0]; rfl)
              -- swap
              refine ⟨_, rfl, _, rfl, D, _, _, _, rfl, rfl, SqL.of eD6, aG, A, _, _, _, rfl, rfl, SqL.of eA6, atI_nat hpg, _, rfl, _, rfl, A, _, _, _, rfl, rfl, SqL.of eA6, atI_nat hpt, (by show 2 ≤ sizeLine; decide), fun T1 hT1 => ?_⟩
              have s7 := same_new (o := .tup [.ref pg, .ref pt]) hT1
              have eA7 := s7 _ _ eA6
              have eD7 := s7 _ _ eD6
              refine ⟨T1, _, rfl, SqT.of upd_same, rfl, _, _, rfl, _, rfl, _, rfl, A, _, _, total, rfl, rfl, eA7, ix_nat (by omega), _, _, rfl, _, rfl, _, rfl, D, _, _, _, rfl, rfl, SqL.of (by rw [upd_ne DA]; exact eD7), aG, A, _, _, g, rfl, rfl, upd_same, ix_nat (by rw [List.length_set]; omega), rfl, ?_⟩
              obtain ⟨L1, eL1⟩ : ∃ L1, L1 = (L.set total (L.getD g [])).set g (L.getD total []) := ⟨_, rfl⟩
              obtain ⟨z1, ez1⟩ : ∃ z1, z1 = (zs.set total (V.ref pg)).set g (V.ref pt) := ⟨_, rfl⟩
              have lL1 : L1.length = L.length := by rw [eL1, List.length_set, List.length_set]
              have lz1 : z1.length = L.length := by rw [ez1, List.length_set, List.length_set]; exact lz
              have gL1 : ∀ j, L1.getD j [] = if j = g then L.getD total [] else if j = total then L.getD g [] else L.getD j [] := fun j => by
                rw [eL1, getD_set (by rw [List.length_set]; exact hgl)]
                by_cases e : j = g
                · rw [if_pos e, if_pos e]
                · rw [if_neg e, if_neg e, getD_set tl]
              rw [← ez1]
              obtain ⟨H8, eH8⟩ : ∃ H8, H8 = upd (upd (upd H6 T1 (.tup [.ref pg, .ref pt])) A (.lst (zs.set total (.ref pg)))) A (.lst z1) := ⟨_, rfl⟩
              rw [← eH8]
              have eA8 : H8 A = some (.lst z1) := by rw [eH8]; exact upd_same
              have k8 : ∀ b o, H6 b = some o → b ≠ A → H8 b = some o := fun b o e hb => by
                rw [eH8, upd_ne hb, upd_ne hb]
                exact s7 b o e
              have hL8 : LL H8 z1 L1 := by
                have q : LL H8 zs L := paired_mem hL6 fun x hx r ⟨p, e, q⟩ => ⟨p, e, k8 _ _ q (by
                  obtain ⟨i, hi⟩ := List.mem_iff_getElem?.mp hx
                  rw [e] at hi
                  exact hL6.ne eA6 hi)⟩
                rw [ez1, eL1]
                exact Paired.set (Paired.set q ⟨pg, rfl, k8 _ _ lpg (hL6.ne eA6 hpg)⟩ total) ⟨pt, rfl, k8 _ _ lpt (hL6.ne eA6 hpt)⟩ g
              have s48 : Same H H8 := fun b o e => k8 b o (s46 b o (s4 b o e)) (ne_of_none e hA)
              -- first
              have hft : ∃ pf, z1[total]? = some (.ref pf) ∧ LstAt H8 pf (L.getD g []) := by
                obtain ⟨pf, e1, e2⟩ := ll_at hL8 (i := total) (by omega)
                rw [gL1] at e2
                refine ⟨pf, e1, ?_⟩
                by_cases e : total = g
                · rw [if_pos e] at e2
                  rw [← e]
                  exact e2
                · rw [if_neg e, if_pos rfl] at e2
                  exact e2
              obtain ⟨pf, hpf, lpf⟩ := hft
              have pfA : pf ≠ A := hL8.ne eA8 hpf
              refine ⟨_, rfl, _, rfl, A, _, _, _, rfl, rfl, SqL.of eA8, atI_nat hpf, ?_⟩
              obtain ⟨fr, efr⟩ : ∃ fr, fr = L.getD g [] := ⟨_, rfl⟩
              rw [← efr] at lpf
              have lfr : fr.length = wd := by rw [efr]; exact (sL g hgl).1
              have sfr : Small fr (TB B total) := by rw [efr]; exact (sL g hgl).2
              have sL1 : ∀ j, j < L.length → (L1.getD j []).length = wd ∧ Small (L1.getD j []) (TB B total) := fun j hj => by
                rw [gL1]
                split
                · exact sL _ tl
                · split
                  · exact sL _ hgl
                  · exact sL _ hj
              -- the loop
              refine ⟨_, rfl, _, _, rfl, rfl, _, rfl, A, _, rfl, .inl (SqL.of eA8), _, _, rfl, ⟨by omega, by omega, by omega, by omega⟩, ?_⟩
              refine for_range (lo := (total : Int) + 1) (n := ((z1.length : Int) - ((total : Int) + 1)).toNat) (fun i σ H' => Same H H' ∧ ∃ (zz : List V) (LN : List Row) (y7 y9 y10 y11 y12 y13 : Option V), σ = [some (.ref R), some (.ref A), x2, some (.int (total : Nat)), some (.int (at_ : Nat)), some (.int (wd : Nat)), some (.ref D), y7, some (.ref pf), y9, y10, y11, y12, y13] ∧
                H' A = some (.lst zz) ∧ LL H' zz LN ∧ LstAt H' pf fr ∧ LN.length = L.length ∧ ∀ j, j < L.length → LN.getD j [] = if total < j ∧ j < total + 1 + i then clear wd fr (L1.getD j []) at_ else L1.getD j []) ?_ ?_ ?_
              · refine ⟨s48, z1, L1, _, _, _, _, _, _, rfl, eA8, hL8, lpf, lL1, fun j hj => ?_⟩
                rw [if_neg (by omega)]
              · rintro i σ H9 hi ⟨s9, zz, LN, y7, y9, y10, y11, y12, y13, rfl, eA9, hL9, lf9, lLN, gLN⟩
                have hj : total + 1 + i < L.length := by omega
                have m2 : 2 * TB B total + 1 ≤ 9000 := Nat.le_trans (TB_mono (s := total + 1) (by omega)) eb
                have lzz : zz.length = LN.length := Paired.length hL9
                obtain ⟨po, hpo, lpo⟩ := ll_at hL9 (i := total + 1 + i) (by omega)
                rw [gLN _ hj, if_neg (by omega)] at lpo
                obtain ⟨ot, eot⟩ : ∃ ot, ot = L1.getD (total + 1 + i) [] := ⟨_, rfl⟩
                rw [← eot] at lpo
                obtain ⟨lot, sot⟩ := sL1 _ hj
                rw [← eot] at lot sot
                have ato : atI zz ((total : Int) + 1 + (i : Int)) = some (.ref po) := at_of (j := total + 1 + i) (by omega) hpo
                refine ⟨_, rfl, _, rfl, A, _, _, _, rfl, rfl, SqL.of eA9, ato, _, rfl, po, _, _, _, rfl, rfl, SqL.of lpo, atI_ev (by rw [lot]; exact ac), ?_⟩
                refine ⟨_, rfl, _, rfl, A, _, _, _, rfl, rfl, SqL.of eA9, ato, ?_⟩
                -- lower
                refine ⟨_, rfl, pf, rfl, ⟨_, SqL.of lf9⟩, fun D1 hD1 => ?_⟩
                refine lc_map (walk_list (K := K) (a := pf) (xs := fr.map V.int)) (fun i => V.int (ev ot at_ * ev fr i)) hD1 (by rw [List.length_map, lfr]; omega) (fun H' s' => SqL.of (s' _ _ lf9)) ?_ ?_
                · rintro k x H10 H11 kk hk s10 ⟨rfl, hxk⟩ kc
                  obtain ⟨z, hz, rfl⟩ := int_at hxk
                  refine ⟨rfl, _, rfl, _, rfl, _, _, rfl, rfl, wide_mul (getD_small sot _) (sfr _ (List.mem_of_getElem? hz)) tb0 tb0 (by omega), ?_⟩
                  have q := kc _ (Same.refl _)
                  rw [show ev fr k = z from getD_of hz] at q
                  exact q
                intro H10 s10 e10
                rw [List.length_map, lfr] at e10
                have e10 : H10 D1 = some (.lst (((List.range wd).map fun i => ev ot at_ * ev fr i).map V.int)) := by rw [e10, List.map_map]; rfl
                have lf10 := s10 _ _ lf9
                have lo10 := s10 _ _ lpo
                have eA10 := s10 _ _ eA9
                -- the new row
                refine ⟨_, rfl, (wd : Int), rfl, by omega, by omega, fun D2 hD2 => ?_⟩
                rw [Int.toNat_natCast]
                refine lc_map (walk_range (lo := 0) (n := wd)) (fun i => V.int (ev fr at_ * ev ot i - ev ot at_ * ev fr i)) hD2 (by omega) (fun _ _ => trivial) ?_ ?_
                · rintro k x H11 H12 kk hk s11 ⟨rfl, rfl⟩ kc
                  have ek : (0 : Int) + ((k : Nat) : Int) = ((k : Nat) : Int) := Int.zero_add _
                  have a1 : atI (fr.map V.int) ((at_ : Nat) : Int) = some (V.int (ev fr at_)) := atI_ev (by rw [lfr]; exact ac)
                  have a2 : atI (ot.map V.int) (0 + ((k : Nat) : Int)) = some (V.int (ev ot k)) := by rw [ek]; exact atI_ev (by rw [lot]; exact hk)
                  have a3 : atI (((List.range wd).map fun i => ev ot at_ * ev fr i).map V.int) (0 + ((k : Nat) : Int)) = some (V.int (ev ot at_ * ev fr k)) := by
                    rw [ek, atI_ev (by rw [List.length_map, List.length_range]; exact hk), ev_range hk]
                  refine ⟨rfl, _, rfl, _, rfl, pf, _, _, _, rfl, rfl, SqL.of (s11 _ _ lf10), a1, _, rfl, _, rfl, po, _, _, _, rfl, rfl, SqL.of (s11 _ _ lo10), a2, _, _, rfl, rfl, wide_mul (getD_small sfr _) (getD_small sot _) tb0 tb0 (by omega), _, rfl, _, rfl, D1, _, _, _, rfl, rfl, SqL.of (s11 _ _ e10), a3, _, _, rfl, rfl, kc _ (Same.refl _)⟩
                intro H11 s11 e11
                have e11 : LstAt H11 D2 ((List.range wd).map fun i => ev fr at_ * ev ot i - ev ot at_ * ev fr i) := by
                  show H11 D2 = _
                  rw [e11, List.map_map]
                  rfl
                have sx := small_cross (n := wd) (c := at_) sfr sot
                refine ⟨D2, _, rfl, e11, by rw [List.length_map, List.length_range]; exact hn, small_mono sx m2, fun q H12 s12 eq12 => ?_⟩
                have s912 := (s10.trans s11).trans s12
                have eA12 := s912 _ _ eA9
                refine ⟨_, rfl, _, rfl, A, _, _, total + 1 + i, rfl, rfl, eA12, ?_, ?_⟩
                · rw [show (total : Int) + 1 + (i : Int) = ((total + 1 + i : Nat) : Int) by omega]
                  exact ix_nat (by omega)
                have qA : q ≠ A := fun z => by
                  have w : H12 A = some (.lst ((thinF ((List.range wd).map fun i => ev fr at_ * ev ot i - ev ot at_ * ev fr i)).map V.int)) := by rw [← z]; exact eq12
                  rw [eA12] at w
                  injection w with w
                  injection w with w
                  have := List.mem_of_getElem? hpo
                  rw [w] at this
                  obtain ⟨_, _, w⟩ := List.mem_map.mp this
                  cases w
                refine ⟨fun b o e => by rw [upd_ne (ne_of_none e hA)]; exact s912 b o (s9 b o e), zz.set (total + 1 + i) (.ref q), LN.set (total + 1 + i) (clear wd fr ot at_), _, _, _, _, _, _, rfl, upd_same, ?_, ?_, by rw [List.length_set]; exact lLN, fun j hj' => ?_⟩
                · refine Paired.set ((hL9.same s912).upd eA12) ⟨q, rfl, ?_⟩ _
                  show upd H12 A _ q = _
                  rw [upd_ne qA]
                  exact eq12
                · show upd H12 A _ pf = _
                  rw [upd_ne pfA]
                  exact s912 _ _ lf9
                · rw [getD_set (by omega), gLN j hj']
                  by_cases e : j = total + 1 + i
                  · rw [if_pos e, if_pos (by omega), e, eot]
                  · rw [if_neg e]
                    by_cases e2 : total < j ∧ j < total + 1 + i
                    · rw [if_pos e2, if_pos (by omega)]
                    · rw [if_neg e2, if_neg (by omega)]
              · rintro σ H9 ⟨s9, zz, LN, y7, y9, y10, y11, y12, y13, rfl, eA9, hL9, lf9, lLN, gLN⟩
                have cnt2 : total + 1 + ((z1.length : Int) - ((total : Int) + 1)).toNat = L.length := by omega
                rw [cnt2] at gLN
                have RI2 := ri_pivot (N := LN) (g := g) ri ac hgt hgl hgne lLN fun j hj => by
                  rw [gLN j hj, gL1 j, efr]
                  exact piv_form hgt hj
                refine ⟨_, rfl, _, _, rfl, rfl, ?_⟩
                refine ⟨_, rfl, _, _, rfl, rfl, total + 1, LN, zz, _, _, _, _, _, _, _, _, _, rfl, s9, eA9, hL9, RI2, lLN.trans lL⟩
            · have Ge : G = [] := by
                by_cases z : G = []
                · exact z
                · exact absurd (by rw [decide_eq_false z]; rfl) hG
              have RI2 := ri_skip ri fun j h3 h4 => by
                by_cases z : ev (L.getD j []) at_ = 0
                · exact z
                · exfalso
                  have : ((total + (j - total) : Nat) : Int) ∈ G := by
                    rw [eG, egl]
                    refine List.mem_map.mpr ⟨j - total, List.mem_filter.mpr ⟨List.mem_range.mpr (by omega), ?_⟩, rfl⟩
                    rw [show total + (j - total) = j by omega]
                    exact decide_eq_true z
                  rw [Ge] at this
                  cases this
              exact ⟨_, rfl, _, _, rfl, rfl, total, L, zs, _, _, _, _, _, _, _, _, _, rfl, s4.trans s46, eA6, hL6, RI2, lL⟩
        · have h2 : ¬ total < L.length := fun z => h2 (decide_eq_true (by rw [lz]; omega))
          exact ⟨_, rfl, kq total H4 s4 (ri_end ri (.inr (by omega)))⟩
      · have h1 : ¬ at_ < wd := fun z => h1 (decide_eq_true (by omega))
        refine ⟨_, rfl, kq total H4 s4 (ri_end ri ?_)⟩
        rcases hwd with z | z
        · right
          rw [lL, z]
          exact Nat.zero_le _
        · left
          omega
end

theorem eqv_int_list : ∀ a b : Row, PyData.eqvAll (a.map .int) (b.map .int) = decide (a = b)
  | [], [] => by simp [PyData.eqvAll]
  | [], y :: b => by simp [PyData.eqvAll]
  | x :: a, [] => by simp [PyData.eqvAll]
  | x :: a, y :: b => by
    simp only [List.map_cons, PyData.eqvAll, PyData.eqv, eqv_int_list a b, List.cons.injEq, Bool.decide_and]
    congr 1
theorem eqv_row_list : ∀ a b : List Row, PyData.eqvAll (a.map fun r => PyData.tuple (r.map .int)) (b.map fun r => PyData.tuple (r.map .int)) = decide (a = b)
  | [], [] => by simp [PyData.eqvAll]
  | [], y :: b => by simp [PyData.eqvAll]
  | x :: a, [] => by simp [PyData.eqvAll]
  | x :: a, y :: b => by
    simp only [List.map_cons, PyData.eqvAll, PyData.eqv, eqv_int_list, eqv_row_list a b, List.cons.injEq, Bool.decide_and]
theorem eqv_rows_iff (a b : List Row) : PyData.eqv (dRows a) (dRows b) = decide (a = b) := by
  unfold dRows
  simp only [PyData.eqv, eqv_row_list]

/-! ### the law's own functions -/
abbrev sDrawn : Stmt := topS 18
abbrev NDrawn : List Str := ["_law_pool_here", "_law_wide", "_law_base", "_law_rows", "_law_turn", "_law_at"]
abbrev PDrawn : List Str := ["_law_pool_here"]
theorem scDrawn : FnScope NDrawn PDrawn (defScope sDrawn) := ⟨rfl, rfl, rfl, by decide +kernel, rfl, by decide +kernel, by decide +kernel⟩
abbrev sLLead : Stmt := topS 19
abbrev NLLead : List Str := ["_law_row", "_law_found", "_law_at", "_law_value"]
abbrev PLLead : List Str := ["_law_row"]
theorem scLLead : FnScope NLLead PLLead (defScope sLLead) := ⟨rfl, rfl, rfl, by decide +kernel, rfl, by decide +kernel, by decide +kernel⟩
abbrev sLFac : Stmt := topS 20
abbrev NLFac : List Str := ["_law_row", "_law_result", "_law_value", "_law_one", "_law_other"]
abbrev PLFac : List Str := ["_law_row"]
theorem scLFac : FnScope NLFac PLFac (defScope sLFac) := ⟨rfl, rfl, rfl, by decide +kernel, rfl, by decide +kernel, by decide +kernel⟩
abbrev sForm : Stmt := topS 21
abbrev NForm : List Str := ["_law_told", "_law_leads", "_law_row", "_law_at", "_law_other"]
abbrev PForm : List Str := ["_law_told"]
theorem scForm : FnScope NForm PForm (defScope sForm) := ⟨rfl, rfl, rfl, by decide +kernel, rfl, by decide +kernel, by decide +kernel⟩
structure TxF (mg : Str → Option Value) : Prop extends TxLaw mg where
  n_set : mg "set" = none
  n_repr : mg "repr" = none
theorem bb_set : bootBuiltins "set" = some (.type "set") := by decide +kernel
theorem bb_repr : bootBuiltins "repr" = some (.builtin "repr") := by decide +kernel
theorem atI_in' {xs : Row} {i : Int} (h0 : 0 ≤ i) (h1 : i < xs.length) : ∃ v : Int, atI (xs.map V.int) i = some (V.int v) ∧ v ∈ xs := by
  have h : i.toNat < xs.length := by omega
  refine ⟨xs[i.toNat], ?_, List.getElem_mem h⟩
  have e : i = ((i.toNat : Nat) : Int) := by omega
  have q := atI_nat (xs := xs.map V.int) (j := i.toNat) (v := V.int xs[i.toNat]) (by rw [List.getElem?_map]; simp [h])
  rw [← e] at q
  exact q
theorem PoolB.ne {H : Hp} {p X : Addr} (h : PoolB H p) (hX : H X = none) : X ≠ p := fun z => by
  obtain ⟨_, _, e, _⟩ := h
  rw [z, e] at hX
  cases hX
theorem PoolB.to {H H' : Hp} {p : Addr} (h : PoolB H p) (e : H' p = H p) : PoolB H' p := let ⟨a, b, q, z⟩ := h; ⟨a, b, e.trans q, z⟩
theorem PoolB.same {H H' : Hp} {p : Addr} (h : PoolB H p) (s : Same H H') : PoolB H' p := let ⟨a, b, q, z⟩ := h; ⟨a, b, s _ _ q, z⟩
theorem nz_head {r : Row} {n m : Nat} (h : leadN r = some n) (hm : n < m) : ((List.range m).filter fun j => decide (ev r j ≠ 0))[0]? = some n := by
  obtain ⟨h1, h2⟩ := lead_some.mp h
  rw [← List.head?_eq_getElem?, List.head?_filter, List.find?_range_eq_some]
  refine ⟨decide_eq_true h1, List.mem_range.mpr hm, fun j hj => ?_⟩
  rw [decide_eq_false (fun z => z (h2 j hj))]
  rfl
theorem int_sorted_ext : ∀ {a b : List Int}, a.Pairwise (· < ·) → b.Pairwise (· < ·) → (∀ x, x ∈ a ↔ x ∈ b) → a = b
  | [], [], _, _, _ => rfl
  | [], y :: b, _, _, h => nomatch (h y).mpr (List.mem_cons_self ..)
  | x :: a, [], _, _, h => nomatch (h x).mp (List.mem_cons_self ..)
  | x :: a, y :: b, ha, hb, h => by
    rw [List.pairwise_cons] at ha hb
    have exy : x = y := by
      rcases List.mem_cons.mp ((h x).mp (List.mem_cons_self ..)) with e | e
      · exact e
      · rcases List.mem_cons.mp ((h y).mpr (List.mem_cons_self ..)) with e2 | e2
        · exact e2.symm
        · have := ha.1 y e2
          have := hb.1 x e
          omega
    subst exy
    congr 1
    refine int_sorted_ext ha.2 hb.2 fun z => ⟨fun hz => ?_, fun hz => ?_⟩
    · rcases List.mem_cons.mp ((h z).mp (List.mem_cons_of_mem _ hz)) with e | e
      · have := ha.1 z hz
        omega
      · exact e
    · rcases List.mem_cons.mp ((h z).mpr (List.mem_cons_of_mem _ hz)) with e | e
      · have := hb.1 z hz
        omega
      · exact e
section
variable {P : Program} {w : World} {K : PySem.W.Frag} {mg : Str → Option Value} {base : Heap}
/-! lead -/
def spLLead : Sp := fun vs H Q _ => ∃ (p : Addr) (r : Row) (n : Nat), vs = [.ref p] ∧ TupAt H p r ∧ r.length ≤ 100 ∧ leadN r = some n ∧ ∀ H', Same H H' → Q (.int (n : Nat)) H'
theorem ok_LLead {f : Addr} {fd : FuncData} (F : Fun K "_law_lead" "_law_lead" sLLead f fd) (T : TxF mg) : FnOk P w K mg base CX0 1 f fd PLLead spLLead := by
  refine F.ok scLLead (fun vs H Q E h => ?_) (fun cdv A outer s H vs Q E hr h => ?_)
  · obtain ⟨p, r, n, rfl, _⟩ := h
    rfl
  · obtain ⟨p, r, n, rfl, hp, hl, hn, k⟩ := h
    refine ⟨_, (pss_cons (ps_setLc (i := 1) (own := [("_law_at", 2), ("_law_value", 3)]) (g := gTup K 2 (gCons (gName 2) (gCons (gName 3) gNil))) rfl scLLead.nd rfl rfl (sw_true rfl rfl rfl (by decide +kernel)) (pi_enumT (by rfl) T.n_enumerate (pa_cons (pv 0) pa_nil)) (blkOk_by (own := [("_law_at", 2), ("_law_value", 3)]) (N := NLLead) (sc := (defScope sLLead)) (by decide +kernel)) (fun _ _ _ _ _ => (pg_tup (by rfl) (pgs_cons (pg_name (i := 2) scLLead.nd rfl (Or.inl rfl)) (pgs_cons (pg_name (i := 3) scLLead.nd rfl (Or.inl rfl)) pgs_nil)))) (fun _ _ _ _ _ => (pts_one (pt_cmpR op_ne (pv 3) pe_int (nomark _)))) (fun _ _ _ _ _ => (pv 2)))
  (pss_one (ps_ret (pe_ifExp (pt_cmpR (op_neD hr.units) (pv 1) (pe_lst pa_nil) (nomark _)) (pe_ix (r := rIxL K) ix_list (pv 1) pe_int (fun _ _ => rfl)) (pe_un un_neg pe_int))))), ?_⟩
    refine ⟨_, rfl, p, _, rfl, SqT.of hp, fun D hD => ?_⟩
    refine lc_it walk_enumT (fun i H' => Same H H' ∧ H' D = some (.lst (((List.range i).filter fun j => decide (ev r j ≠ 0)).map fun (j : Nat) => V.int (j : Nat)))) ⟨same_new hD, upd_same⟩ (fun i H' _ h' => SqT.of (h'.1 _ _ hp)) ?_ ?_
    · rintro i v H1 H2 hi ⟨s1, e1⟩ ⟨T', u, rfl, hT, rfl, hu⟩
      obtain ⟨z, hz, rfl⟩ := int_at hu
      rw [List.length_map] at hi
      have s2 := same_new (o := .tup [.int (i : Nat), .int z]) hT
      have ez : ev r i = z := getD_of hz
      have nz : ((List.range (i + 1)).filter fun j => decide (ev r j ≠ 0)) = ((List.range i).filter fun j => decide (ev r j ≠ 0)) ++ (if z ≠ 0 then [i] else []) := by
        rw [List.range_succ, List.filter_append]
        by_cases q : z = 0
        · simp [ez, q]
        · simp [ez, q]
      refine ⟨T', _, rfl, SqT.of upd_same, rfl, _, _, rfl, _, _, rfl, rfl, rfl, _, rfl, rfl, _, rfl, ite2 (fun hne => ?_) (fun hne => ?_)⟩
      · have zne : z ≠ 0 := fun q => by rw [q] at hne; exact absurd hne (by decide)
        refine ⟨_, rfl, _, s2 _ _ e1, small1000 ?_, fun b o e => by rw [upd_ne (ne_of_none e hD)]; exact s2 b o (s1 b o e), ?_⟩
        · rw [List.length_map]
          have q1 := List.length_filter_le (fun j => decide (ev r j ≠ 0)) (List.range i)
          rw [List.length_range] at q1
          omega
        · rw [upd_same, nz, if_pos zne, List.map_append]
          rfl
      · have ze : z = 0 := by
          by_cases q : z = 0
          · exact q
          · exact absurd (show (!decide (V.int z = V.int 0)) = true by rw [decide_eq_false (fun q' => by injection q' with q'; exact q q')]; rfl) hne
        refine ⟨s1.trans s2, ?_⟩
        rw [nz, if_neg (fun q => q ze), List.append_nil]
        exact s2 _ _ e1
    · rintro H1 ⟨s1, e1⟩
      rw [List.length_map] at e1
      obtain ⟨h1, _⟩ := lead_some.mp hn
      have nl : n < r.length := by
        by_cases z : n < r.length
        · exact z
        · exact absurd (ev_out (by omega)) h1
      have hd := nz_head hn nl
      obtain ⟨L, eL⟩ : ∃ L : Row, L = ((List.range r.length).filter fun j => decide (ev r j ≠ 0)).map fun (j : Nat) => ((j : Nat) : Int) := ⟨_, rfl⟩
      have eD : H1 D = some (.lst (L.map V.int)) := by rw [e1, eL, List.map_map]; rfl
      have L0 : L[0]? = some ((n : Nat) : Int) := by rw [eL, List.getElem?_map, hd]; rfl
      refine ⟨_, rfl, (by show 0 ≤ sizeLine; decide), fun N0 hN0 => ?_⟩
      have s2 := same_new (o := .lst []) hN0
      refine ⟨_, _, .lst (SqL.of (s2 _ _ eD)) (dp_ints L), .lst (SqL.of upd_same) .nil, shaped_ints _, by decide, _, rfl, iteS ?_ ?_⟩
      · rw [eqv_nil_ints, decide_eq_false (fun z => by rw [z] at L0; cases L0)]
        rfl
      · exact ⟨_, rfl, D, _, _, _, rfl, rfl, SqL.of (s2 _ _ eD), atI_nat (j := 0) (by rw [List.getElem?_map, L0]; rfl), k _ (s1.trans s2)⟩
/-! factor -/
def spLFac : Sp := fun vs H Q _ => ∃ (p : Addr) (r : Row), vs = [.ref p] ∧ TupAt H p r ∧ Q (.int (gcdR r : Nat)) H
theorem ok_LFac {f : Addr} {fd : FuncData} (F : Fun K "_law_factor" "_law_factor" sLFac f fd) (T : TxF mg) : FnOk P w K mg base CX0 1 f fd PLFac spLFac := by
  refine F.ok scLFac (fun vs H Q E h => ?_) (fun cdv A outer s H vs Q E hr h => ?_)
  · obtain ⟨p, r, rfl, _⟩ := h
    rfl
  · obtain ⟨p, r, rfl, hp, kq⟩ := h
    refine ⟨_, (pss_cons (ps_set (i := 1) scLFac.nd rfl (Or.inl rfl) pe_int)
  (pss_cons (ps_for PassesOwn.never rfl (pi_tup (pv 0)) (pg_name (i := 2) scLFac.nd rfl (Or.inl rfl))
  (pss_cons (ps_par (i := 3) (j := 4) (by rfl) scLFac.nd rfl rfl (by decide) rfl rfl (pa_cons (pv 1) (pa_cons (pe_callB call_abs (by rfl) T.n_abs bb_abs (pa_cons (pv 2) pa_nil)) pa_nil)) (by rfl))
  (pss_cons (ps_while PassesOwn.never (pt_cmpR op_ne (pv 4) pe_int (nomark _))
  (pss_one (ps_par (i := 3) (j := 4) (by rfl) scLFac.nd rfl rfl (by decide) rfl rfl (pa_cons (pv 4) (pa_cons (pe_op op_mod (pe_callTy call_int1 (by rfl) T.n_int bb_int (pa_cons (pv 3) pa_nil)) (pv 4)) pa_nil)) (by rfl))))
  (pss_one (ps_set (i := 1) scLFac.nd rfl (Or.inl rfl) (pv 3))))))
  (pss_one (ps_ret (pv 1))))), ?_⟩
    have hS := SqT.of (K := K) hp
    refine ⟨_, rfl, p, rfl, ⟨_, hS⟩, for_tup (K := K) (a := p) (xs := r.map V.int) (fun i σ H' => ∃ x y z : Option V, σ = [some (.ref p), some (.int ((r.take i).foldl (fun g x => Int.gcd g x) 0 : Nat)), x, y, z] ∧ H' = H) ⟨none, none, none, rfl, rfl⟩ (fun i σ H' _ ⟨_, _, _, _, e⟩ => by rw [e]; exact hS) ?_ ?_⟩
    · rintro i x σ H' hx ⟨y1, y2, y3, rfl, eH⟩
      obtain ⟨z, hz, rfl⟩ := int_at hx
      obtain ⟨g, eg⟩ : ∃ g : Nat, g = (r.take i).foldl (fun g x => Int.gcd g x) 0 := ⟨_, rfl⟩
      have fold : (r.take (i + 1)).foldl (fun g x => Int.gcd g x) 0 = Int.gcd g z := by
        rw [take_snoc hz, List.foldl_append, ← eg]
        rfl
      rw [← eg]
      refine ⟨_, rfl, _, rfl, _, rfl, _, _, rfl, ?_⟩
      rw [abs_if]
      refine ⟨fun m σ H1 => ∃ n : Nat, σ = [some (.ref p), some (.int (g : Int)), some (.int z), some (.int (n : Int)), some (.int (m : Int))] ∧ Nat.gcd n m = Int.gcd g z ∧ H1 = H, ⟨z.natAbs, g, rfl, rfl, eH⟩, ?_⟩
      rintro m σ H1 ⟨n, rfl, hg, eH1⟩
      refine ⟨_, rfl, rfl, _, rfl, ite2 (fun hne => ?_) (fun he => ?_)⟩
      · have hm : 0 < m := by
          rcases Nat.eq_zero_or_pos m with q | q
          · rw [q] at hne
            exact absurd hne (by decide)
          · exact q
        refine ⟨fun σ' H' => ∃ n' m' : Nat, m' < m ∧ σ' = [some (.ref p), some (.int (g : Int)), some (.int z), some (.int (n' : Int)), some (.int (m' : Int))] ∧ Nat.gcd n' m' = Int.gcd g z ∧ H' = H, fun σ' H' ⟨n', m', h1, h2, h3, h4⟩ => ⟨m', h1, n', h2, h3, h4⟩, ?_⟩
        refine ⟨_, rfl, _, rfl, .inl ⟨_, rfl, _, rfl, _, _, rfl, rfl, (show (0 : Int) < (m : Int) by omega), _, _, rfl, m, n % m, Nat.mod_lt _ hm, rfl, ?_, eH1⟩⟩
        rw [← hg, Nat.gcd_comm m, ← Nat.gcd_rec, Nat.gcd_comm]
      · have hm : m = 0 := by
          rcases Nat.eq_zero_or_pos m with q | q
          · exact q
          · exfalso
            apply he
            show (!decide (V.int (m : Int) = V.int 0)) = true
            rw [decide_eq_false (fun q => by injection q with q; omega)]
            rfl
        subst hm
        rw [Nat.gcd_zero_right] at hg
        subst hg
        exact ⟨_, rfl, some (.int z), some (.int ((Int.gcd g z : Nat) : Int)), some (.int 0), by rw [fold]; rfl, eH1⟩
    · rintro σ H' ⟨y1, y2, y3, rfl, rfl⟩
      rw [List.length_map, List.take_length]
      exact ⟨_, rfl, kq⟩
end

theorem small40 {b : Int} (hb : b = 1 ∨ b = 10 ^ Int.toNat 12 + 39) : Small [0, 1, -1, 2, -3, 6, b, -b] 40 := by
  intro x hx
  simp only [List.mem_cons, List.not_mem_nil, or_false] at hx
  rcases hx with rfl | rfl | rfl | rfl | rfl | rfl | rfl | rfl
  · decide
  · decide
  · decide
  · decide
  · decide
  · decide
  · rcases hb with rfl | rfl <;> decide
  · rcases hb with rfl | rfl <;> decide
section
variable {P : Program} {w : World} {K : PySem.W.Frag} {mg : Str → Option Value} {base : Heap}
def spDrawn : Sp := fun vs H Q _ => ∃ (p : Addr), vs = [.ref p] ∧ PoolB H p ∧ ∀ (R X : Addr) (n : Nat) (xs : List V) (rows : List Row) (H' : Hp), (∀ b o, H b = some o → b ≠ p → H' b = some o) → H' R = some (.lst [.int (n : Nat), .ref X]) → H' X = some (.lst xs) → RowsIn H' xs rows → rows.length ≤ 5 → 0 < n → n ≤ 5 → (∀ r ∈ rows, r.length = n ∧ Small r 40) → Q (.ref R) H'
theorem ok_Drawn {f : Addr} {fd : FuncData} (F : Fun K "_law_drawn" "_law_drawn" sDrawn f fd) (T : TxF mg) (GT : Has P w K mg base CX0 1 "_law_take" PTake spTake) : FnOk P w K mg base CX0 2 f fd PDrawn spDrawn := by
  refine F.ok scDrawn (fun vs H Q E h => ?_) (fun cdv A outer s H vs Q E hr h => ?_)
  · obtain ⟨p, rfl, _⟩ := h
    rfl
  · obtain ⟨p, rfl, P0, k⟩ := h
    refine ⟨_, (pss_cons (ps_set (i := 1) scDrawn.nd rfl (Or.inl rfl) (pe_op op_add pe_int (pe_callH GT hr rfl pass0 (pa_cons (pv 0) (pa_cons pe_int pa_nil)))))
  (pss_cons (ps_set (i := 2) scDrawn.nd rfl (Or.inr rfl) (pe_ix (r := rIxL K) ix_list (pe_lst (pa_cons pe_int (pa_cons pe_int (pa_cons (pe_op op_add (pe_op op_pow pe_int pe_int) pe_int) pa_nil)))) (pe_callH GT hr rfl pass0 (pa_cons (pv 0) (pa_cons pe_int pa_nil))) (fun _ _ => rfl)))
  (pss_cons (ps_set (i := 3) scDrawn.nd rfl (Or.inl rfl) (pe_lst pa_nil))
  (pss_cons (ps_for PassesOwn.never rfl (pi_range1 (by rfl) T.n_range (pa_cons (pe_callH GT hr rfl pass0 (pa_cons (pv 0) (pa_cons pe_int pa_nil))) pa_nil)) (pg_name (i := 4) scDrawn.nd rfl (Or.inl rfl))
  (pss_one (ps_expr (pe_bm PySem.F.plainAttrs_list PySem.F.slot_list_append PySem.F.type_list_append mt_append (pv 3) (pa_cons (pe_callTy call_tuple_of (by rfl) T.n_tuple bb_tuple (pa_cons (pe_lc (own := [("_law_at", 5)]) (g := gName 5) (tt := tYes) rfl scDrawn.nd (pi_range1 (by rfl) T.n_range (pa_cons (pv 1) pa_nil)) (blkOk_by (own := [("_law_at", 5)]) (N := NDrawn) (sc := (defScope sDrawn)) (by decide +kernel)) (fun _ _ _ _ _ => (pg_name (i := 5) scDrawn.nd rfl (Or.inl rfl))) (fun _ _ _ _ _ => pts_nil) (fun _ _ _ _ _ => (pe_ix (r := rIxL K) ix_list (pe_lst (pa_cons pe_int (pa_cons pe_int (pa_cons (pe_un un_neg pe_int) (pa_cons pe_int (pa_cons (pe_un un_neg pe_int) (pa_cons pe_int (pa_cons (pv 2) (pa_cons (pe_un un_neg (pv 2)) pa_nil))))))))) (pe_callH GT hr rfl pass0 (pa_cons (pv 0) (pa_cons pe_int pa_nil))) (fun _ _ => rfl)))) pa_nil)) pa_nil)))))
  (pss_one (ps_ret (pe_lst (pa_cons (pv 1) (pa_cons (pv 3) pa_nil))))))))), ?_⟩
    refine ⟨_, rfl, p, 5, rfl, P0, by decide, by decide, fun r0 H1 r00 r01 P1 k1 => ?_⟩
    obtain ⟨n, hn⟩ : ∃ n : Nat, 1 + r0 = (n : Int) := ⟨(1 + r0).toNat, by omega⟩
    have n5 : n ≤ 5 := by omega
    have n0 : 0 < n := by omega
    refine ⟨_, _, rfl, rfl, ?_⟩
    have ew : (fun i j : Int => V.int (i + j)) 1 r0 = V.int (n : Nat) := congrArg V.int hn
    rw [ew]
    refine ⟨_, _, rfl, rfl, ⟨by decide, by decide, by decide⟩, _, _, rfl, rfl, (by show 3 ≤ sizeLine; decide), fun Z hZ => ?_⟩
    have s2 := same_new (o := .lst [.int 1, .int 1, .int (10 ^ Int.toNat 12 + 39)]) hZ
    have Zp := P1.ne hZ
    refine ⟨_, rfl, p, 3, rfl, P1.same s2, by decide, by decide, fun ix H3 i0 i1 P3 k3 => ?_⟩
    obtain ⟨b, hb, mb⟩ := atI_in' (xs := ([1, 1, 10 ^ Int.toNat 12 + 39] : Row)) i0 (by exact i1)
    have eb : b = 1 ∨ b = 10 ^ Int.toNat 12 + 39 := by
      simp only [List.mem_cons, List.not_mem_nil, or_false] at mb
      rcases mb with q | q | q
      · exact .inl q
      · exact .inl q
      · exact .inr q
    refine ⟨Z, _, _, _, rfl, rfl, SqL.of (k3 _ _ upd_same Zp), hb, ?_⟩
    have k03 : ∀ c o, H c = some o → c ≠ p → H3 c = some o := fun c o e hc => k3 c o (s2 c o (k1 c o e hc)) hc
    refine ⟨(by show 0 ≤ sizeLine; decide), fun X hX => ?_⟩
    have Xp := P3.ne hX
    have s4 := same_new (o := .lst []) hX
    refine ⟨_, rfl, p, 6, rfl, P3.same s4, by decide, by decide, fun r1 H5 r10 r11 P5 k5 => ⟨r1, rfl, by omega, by omega, ?_⟩⟩
    refine for_range (lo := 0) (n := r1.toNat) (fun j σ H' => (∀ b o, H3 b = some o → b ≠ p → H' b = some o) ∧ PoolB H' p ∧ ∃ (xs : List V) (rows : List Row) (x4 x5 : Option V), σ = [some (.ref p), some (.int (n : Nat)), some (.int b), some (.ref X), x4, x5] ∧ H' X = some (.lst xs) ∧ RowsIn H' xs rows ∧ rows.length = j ∧ ∀ r ∈ rows, r.length = n ∧ Small r 40) ?_ ?_ ?_
    · exact ⟨fun b o e hb => k5 b o (s4 b o e) hb, P5, [], [], _, _, rfl, k5 _ _ upd_same Xp, .nil, rfl, (fun _ z => nomatch z)⟩
    · rintro j σ H6 hj ⟨s6, P6, xs, rows, y5, y6, rfl, eX6, hx6, lr, hrow⟩
      have lx : xs.length = rows.length := Paired.length hx6
      refine ⟨_, rfl, .inl ⟨rfl, _, SqL.of eX6⟩, _, rfl, _, rfl, by omega, by omega, fun D hD => ?_⟩
      have Dp := P6.ne hD
      have DX : D ≠ X := fun z => by rw [z, eX6] at hD; cases hD
      have ew : ((n : Nat) : Int).toNat = n := rfl
      rw [ew]
      refine lc_range (lo := 0) (n := n) (fun i H' => (∀ b o, H3 b = some o → b ≠ p → H' b = some o) ∧ PoolB H' p ∧ H' X = some (.lst xs) ∧ RowsIn H' xs rows ∧ ∃ r : Row, H' D = some (.lst (r.map V.int)) ∧ r.length = i ∧ Small r 40) ?_ ?_ ?_
      · exact ⟨fun b o e hb => by rw [upd_ne (ne_of_none (s6 _ _ e hb) hD)]; exact s6 b o e hb, P6.to (upd_ne Dp.symm), by rw [upd_ne DX.symm]; exact eX6, hx6.same (TSame.of (same_new hD)), [], upd_same, rfl, (fun _ z => nomatch z)⟩
      · rintro i H7 hm ⟨s7, P7, eX7, hx7, r, eD7, lrm, sr⟩
        refine ⟨rfl, _, rfl, _, rfl, _, rfl, _, rfl, _, rfl, (by show 8 ≤ sizeLine; decide), fun Z hZ => ?_⟩
        have s8 := same_new (o := .lst (([0, 1, -1, 2, -3, 6, b, -b] : Row).map V.int)) hZ
        have Zp := P7.ne hZ
        refine ⟨_, rfl, p, 8, rfl, P7.same s8, by decide, by decide, fun ix H9 i0 i1 P9 k9 => ?_⟩
        obtain ⟨v, hv, mv⟩ := atI_in' (xs := ([0, 1, -1, 2, -3, 6, b, -b] : Row)) i0 (by exact i1)
        refine ⟨Z, _, _, _, rfl, rfl, SqL.of (k9 _ _ upd_same Zp), hv, ?_⟩
        have eD9 : H9 D = some (.lst (r.map V.int)) := k9 _ _ (s8 _ _ eD7) Dp
        have k79 : ∀ b o, H7 b = some o → b ≠ p → H9 b = some o := fun b o e hb => k9 b o (s8 b o e) hb
        refine ⟨_, eD9, small1000 (by rw [List.length_map]; omega), fun b o e hb => ?_, P9.to (upd_ne Dp.symm), by rw [upd_ne DX.symm]; exact k79 _ _ eX7 Xp, ?_, r ++ [v], by rw [upd_same, List.map_append]; rfl, by rw [List.length_append, lrm]; rfl, fun x hx => ?_⟩
        · have hDb : b ≠ D := fun z => by
            have q := s6 b o e hb
            rw [z, hD] at q
            cases q
          rw [upd_ne hDb]
          exact k79 b o (s7 b o e hb) hb
        · refine hx7.same fun b ys e => ?_
          have bp : b ≠ p := by
            obtain ⟨_, _, e2, _⟩ := P7
            exact ne_of e e2 fun z => by cases z
          rw [upd_ne (ne_of (k79 b _ e bp) eD9 fun z => by cases z)]
          exact k79 b _ e bp
        · rcases List.mem_append.mp hx with q | q
          · exact sr x q
          · rw [List.mem_singleton.mp q]
            exact small40 eb v mv
      · rintro H7 ⟨s7, P7, eX7, hx7, r, eD7, lrm, sr⟩
        refine ⟨D, _, rfl, .inl ⟨SqL.of eD7, fun l hl => ?_⟩⟩
        have s8 := same_new (o := .tup (r.map V.int)) hl
        have eX8 := s8 _ _ eX7
        refine ⟨X, xs, _, rfl, rfl, eX8, small1000 (by omega), fun b o e hb => by rw [upd_ne (ne_of_none e hX)]; exact s8 b o (s7 b o e hb), (P7.same s8).to (upd_ne Xp.symm), xs ++ [.ref l], rows ++ [r], _, _, rfl, upd_same, ?_, by rw [List.length_append, lr]; rfl, fun q hq => ?_⟩
        · have ts : TSame H7 (upd (upd H7 l (.tup (r.map V.int))) X (.lst (xs ++ [.ref l]))) := fun b ys e => by
            rw [upd_ne (ne_of (s8 _ _ e) eX8 fun z => by cases z)]
            exact s8 _ _ e
          refine RowsIn.snoc (hx7.same ts) ⟨l, rfl, ?_⟩
          show upd (upd H7 l _) X _ l = _
          rw [upd_ne (fun z => by rw [z, eX7] at hl; cases hl), upd_same]
        · rcases List.mem_append.mp hq with z | z
          · exact hrow q z
          · rw [List.mem_singleton.mp z]
            exact ⟨lrm, sr⟩
    · rintro σ H6 ⟨s6, P6, xs, rows, y5, y6, rfl, eX6, hx6, lr, hrow⟩
      refine ⟨_, rfl, _, rfl, (by show 2 ≤ sizeLine; decide), fun R hR => ?_⟩
      have s7 := same_new (o := .lst [.int (n : Nat), .ref X]) hR
      exact k R X n xs rows _ (fun c o e hc => s7 _ _ (s6 c o (k03 c o e hc) hc)) upd_same (s7 _ _ eX6) (hx6.same (TSame.of s7)) (by omega) n0 n5 hrow
/-! the form -/
theorem shaped_row (r : Row) : SeqAt.shaped (.tuple (r.map .int)) = true := by
  unfold SeqAt.shaped
  simp only [PyData.canLay0, PyData.depth, lay_ints, depth_ints, Bool.true_and]
  decide
theorem eqv_row (a b : Row) : PyData.eqv (.tuple (a.map .int)) (.tuple (b.map .int)) = decide (a = b) := by simp only [PyData.eqv, eqv_int_list]
theorem leads_sorted {w : Nat} {out : List Row} (h : RS w out) : (out.map fun o => ((leadD o : Nat) : Int)).Pairwise (· < ·) := by
  rw [List.pairwise_map]
  exact h.red.imp fun q => by omega
def spForm : Sp := fun vs H Q _ => ∃ (L : Addr) (ys : List V) (out : List Row) (n : Nat), vs = [.ref L] ∧ H L = some (.lst ys) ∧ RowsIn H ys out ∧ RS n out ∧ (∀ o ∈ out, gcdR o = 1) ∧ n ≤ 20 ∧ ∀ H', Same H H' → Q (.bl true) H'
theorem ok_Form {f : Addr} {fd : FuncData} (F : Fun K "_law_form_right" "_law_form_right" sForm f fd) (T : TxF mg) (GL : Has P w K mg base CX0 1 "_law_lead" PLLead spLLead) (GF : Has P w K mg base CX0 1 "_law_factor" PLFac spLFac) : FnOk P w K mg base CX0 2 f fd PForm spForm := by
  refine F.ok scForm (fun vs H Q E h => ?_) (fun cdv A outer s H vs Q E hr h => ?_)
  · obtain ⟨L, ys, out, n, rfl, _⟩ := h
    rfl
  · obtain ⟨L, ys, out, n, rfl, eL, hy, hRS, hg, n20, k⟩ := h
    refine ⟨_, (pss_cons (ps_set (i := 1) scForm.nd rfl (Or.inr rfl) (pe_lc (own := [("_law_row", 2)]) (g := gName 2) (tt := tYes) rfl scForm.nd (pi_list (pv 0)) (blkOk_by (own := [("_law_row", 2)]) (N := NForm) (sc := (defScope sForm)) (by decide +kernel)) (fun _ _ _ _ _ => (pg_name (i := 2) scForm.nd rfl (Or.inl rfl))) (fun _ _ _ _ _ => pts_nil) (fun _ _ _ _ _ => (pe_callH GL hr rfl pass0 (pa_cons (pv 2) pa_nil)))))
  (pss_cons (ps_if (PW.pt (pw_or (pt_cmpR (op_neD hr.units) (pv 1) (pe_callB (cr_sortedSet rfl) (by rfl) T.n_sorted bb_sorted (pa_cons (pe_callTy (call_setL rfl) (by rfl) T.n_set bb_set (pa_cons (pv 1) pa_nil)) pa_nil)) (nomark _)) (pw_or1 (pt_cmpR op_in_seq (pe_un un_neg pe_int) (pv 1) (by rfl)))))
  (pss_one (ps_ret pe_bl))
  pss_nil)
  (pss_cons (ps_for PassesOwn.never rfl (pi_enum (by rfl) T.n_enumerate (pa_cons (pv 0) pa_nil)) (pg_tup (by rfl) (pgs_cons (pg_name (i := 3) scForm.nd rfl (Or.inr rfl)) (pgs_cons (pg_name (i := 2) scForm.nd rfl (Or.inr rfl)) pgs_nil)))
  (pss_cons (ps_if (PW.pt (pw_or (pt_not (pt_val (pe_callB call_isi (by rfl) T.n_isinstance bb_isinstance (pa_cons (pv 2) (pa_cons (pe_bltn (v := .ty "tuple") (by rfl) T.n_tuple bb_tuple rfl) pa_nil))))) (pw_or (pt_cmpR op_lt (pe_ix (r := rIxT K) ix_tup (pv 2) (pe_ix (r := rIxL K) ix_list (pv 1) (pv 3) (fun _ _ => rfl)) (fun _ _ => rfl)) pe_int (nomark _)) (pw_or1 (pt_cmpR op_ne (pe_callH GF hr rfl pass0 (pa_cons (pv 2) pa_nil)) pe_int (nomark _))))))
  (pss_one (ps_ret pe_bl))
  pss_nil)
  (pss_one (ps_if (pt_cmpR (op_neD hr.units) (pe_lc (own := [("_law_other", 4)]) (g := gName 4) rfl scForm.nd (pi_list (pv 0)) (blkOk_by (own := [("_law_other", 4)]) (N := NForm) (sc := (defScope sForm)) (by decide +kernel)) (fun _ _ _ _ _ => (pg_name (i := 4) scForm.nd rfl (Or.inl rfl))) (fun _ _ _ _ _ => (pts_one (PW.pt (pw_and (pt_cmpR (r := rNeD K) (op_neD hr.units) (pv 4) (pv 2) (nomark _)) (pw_and1 (pt_cmpR op_ne (pe_ix (r := rIxT K) ix_tup (pv 4) (pe_ix (r := rIxL K) ix_list (pv 1) (pv 3) (fun _ _ => rfl)) (fun _ _ => rfl)) pe_int (nomark _))))))) (fun _ _ _ _ _ => (pv 4))) (pe_lst pa_nil) (nomark _))
  (pss_one (ps_ret pe_bl))
  pss_nil))))
  (pss_one (ps_ret pe_bl))))), ?_⟩
    have ly : ys.length = out.length := Paired.length hy
    have lw := hRS.le_w
    refine ⟨_, rfl, L, rfl, ⟨_, SqL.of eL⟩, fun D hD => ?_⟩
    refine lc_map (walk_list (K := K) (a := L) (xs := ys)) (fun i => V.int ((leadD (out.getD i []) : Nat) : Int)) hD (by omega) (fun H' s' => SqL.of (s' _ _ eL)) ?_ ?_
    · rintro i x H3 H4 kk hi s3 ⟨rfl, hxi⟩ kc
      obtain ⟨q, rfl, hq, hil⟩ := rows_at hy hxi
      have hm := getD_mem hil
      exact ⟨rfl, _, rfl, q, _, _, rfl, s3 _ _ hq, by rw [hRS.len _ hm]; omega, (hRS.lead hm).1, fun H5 s5 => kc _ s5⟩
    · intro H1 s1 e1
      obtain ⟨lds, elds⟩ : ∃ lds : Row, lds = out.map fun o => ((leadD o : Nat) : Int) := ⟨_, rfl⟩
      have eD : H1 D = some (.lst (lds.map V.int)) := by
        rw [e1, elds, List.map_map, ly]
        congr 2
        exact range_map out _ _ fun i x hx => by rw [List.getD_eq_getElem?_getD, hx]; rfl
      have ll : lds.length = out.length := by rw [elds, List.length_map]
      have lat : ∀ {i : Nat}, i < out.length → atI (lds.map V.int) ((i : Nat) : Int) = some (V.int ((leadD (out.getD i []) : Nat) : Int)) := fun {i} hi => atI_nat (by
        rw [List.getElem?_map, elds, List.getElem?_map, List.getD_eq_getElem?_getD, List.getElem?_eq_getElem hi]
        rfl)
      clear e1
      refine ⟨_, rfl, _, rfl, D, lds, rfl, SqL.of eD, by omega, fun a c ha hc => ⟨a, _, c, rfl, upd_same, by omega, fun ns p hs hm hl hp => ?_⟩⟩
      have ens : ns = lds := int_sorted_ext hs (by rw [elds]; exact leads_sorted hRS) fun x => (hm x).trans ⟨of_decide_eq_true, decide_eq_true⟩
      subst ens
      have s2 := (same_new ha).trans (same_new (o := .lst (ns.map V.int)) hp)
      refine ⟨_, _, .lst (SqL.of (s2 _ _ eD)) (dp_ints ns), .lst (SqL.of upd_same) (dp_ints ns), shaped_ints _, shaped_ints _, _, rfl, iteE ?_ ?_⟩
      · simp only [PyData.eqv, eqv_int_list, decide_true, Bool.not_true]
      have s3 := s1.trans s2
      have eD3 := s2 _ _ eD
      have fl : (ns.map V.int).all flatV = true := by
        rw [List.all_eq_true]
        intro v hv
        obtain ⟨x, _, rfl⟩ := List.mem_map.mp hv
        rfl
      have no : inV (.int (-1)) (ns.map V.int) = false := by
        unfold inV
        rw [List.any_eq_false]
        intro v hv
        obtain ⟨x, hx, rfl⟩ := List.mem_map.mp hv
        rw [elds] at hx
        obtain ⟨o, _, rfl⟩ := List.mem_map.mp hx
        unfold eqV
        simp
      refine ⟨_, rfl, _, rfl, D, _, rfl, .inl (SqL.of eD3), rfl, fl, false, congrArg V.bl no, iteE rfl ?_⟩
      refine ⟨_, rfl, L, _, rfl, SqL.of (s3 _ _ eL), ?_⟩
      refine for_it walk_enum (fun i σ H' => (∃ x y z : Option V, σ = [some (.ref L), some (.ref D), x, y, z]) ∧ Same _ H') ⟨⟨_, _, _, rfl⟩, Same.refl _⟩ (fun i σ H' _ h' => SqL.of (h'.2 _ _ (s3 _ _ eL))) ?_ ?_
      · rintro i v σ H4 H5 hi ⟨⟨x, y, z, rfl⟩, s4⟩ hv
        obtain ⟨T', _, y', rfl, hT, rfl, ex, hyi⟩ := hv
        cases ex
        obtain ⟨q, rfl, hq, hil⟩ := rows_at hy hyi
        have hm := getD_mem hil
        obtain ⟨o, eo⟩ : ∃ o, o = out.getD i [] := ⟨_, rfl⟩
        have lat := lat hil
        rw [← eo] at hq hm lat
        obtain ⟨ol, op⟩ := hRS.lead hm
        have on := hRS.len o hm
        have ln : leadD o < o.length := by
          by_cases z : leadD o < o.length
          · exact z
          · rw [ev_out (by omega)] at op
            omega
        have s5 := s4.trans (same_new (o := .tup [.int (i : Nat), .ref q]) hT)
        have q5 := (s3.trans s5) _ _ hq
        have eD5 := s5 _ _ eD3
        refine ⟨T', _, rfl, SqT.of upd_same, rfl, _, _, rfl, _, _, rfl, rfl, ?_⟩
        obtain ⟨H5, eH5⟩ : ∃ H5, H5 = upd H4 T' (.tup [.int (i : Nat), .ref q]) := ⟨_, rfl⟩
        rw [← eH5] at s5 q5 eD5 ⊢
        clear eH5 hT
        refine ⟨_, rfl, _, _, _, _, _, rfl, .ty _, .base (.tup q5), kit_ty (r := true) (by decide +kernel), true, rfl, iteE rfl ?_⟩
        refine ⟨_, rfl, _, rfl, _, rfl, D, _, _, _, rfl, rfl, SqL.of eD5, lat, q, _, _, _, rfl, rfl, SqT.of q5, atI_ev ln, _, _, rfl, rfl, _, rfl, iteE (decide_eq_false (by omega)) ?_⟩
        refine ⟨_, rfl, q, o, rfl, q5, rfl, _, rfl, iteE (by rw [hg o hm]; rfl) ?_⟩
        refine ⟨_, rfl, L, rfl, ⟨_, SqL.of ((s3.trans s5) _ _ eL)⟩, fun D2 hD2 => ?_⟩
        refine lc_it (walk_list (K := K) (a := L) (xs := ys)) (fun j H' => Same H5 H' ∧ H' D2 = some (.lst [])) ⟨same_new hD2, upd_same⟩ (fun j H' _ h' => SqL.of (((s3.trans s5).trans h'.1) _ _ eL)) ?_ ?_
        · rintro j x H6 H7 hj ⟨s6, e6⟩ ⟨rfl, hxj⟩
          obtain ⟨q2, rfl, hq2, hjl⟩ := rows_at hy hxj
          have hm2 := getD_mem hjl
          obtain ⟨o2, eo2⟩ : ∃ o2, o2 = out.getD j [] := ⟨_, rfl⟩
          rw [← eo2] at hq2 hm2
          have s56 := (s3.trans s5).trans s6
          refine ⟨rfl, _, rfl, _, rfl, _, _, .tup (SqT.of (s56 _ _ hq2)) (dp_ints _), .tup (SqT.of (s6 _ _ q5)) (dp_ints _), shaped_row _, shaped_row _, _, rfl, ?_⟩
          rw [eqv_row]
          by_cases e : o2 = o
          · exact iteE (by rw [decide_eq_true e]; rfl) (iteE rfl ⟨s6, e6⟩)
          · refine iteS (by rw [decide_eq_false e]; rfl) ?_
            have z0 := hRS.zero hm hm2 (fun z => e z.symm)
            refine ⟨_, rfl, _, rfl, _, rfl, D, _, _, _, rfl, rfl, SqL.of (s6 _ _ eD5), lat, q2, _, _, _, rfl, rfl, SqT.of (s56 _ _ hq2), atI_ev (by rw [hRS.len o2 hm2, ← on]; exact ln), rfl, _, rfl, iteE (by rw [z0]; rfl) ⟨s6, e6⟩⟩
        · rintro H6 ⟨s6, e6⟩
          refine ⟨(by show 0 ≤ sizeLine; decide), fun N1 hN1 => ?_⟩
          have s7 := same_new (o := .lst []) hN1
          exact ⟨_, _, .lst (SqL.of (s7 _ _ e6)) .nil, .lst (SqL.of upd_same) .nil, by decide, by decide, _, rfl, iteE (by decide) ⟨⟨_, _, _, rfl⟩, (s5.trans s6).trans s7⟩⟩
      · rintro σ H4 ⟨⟨x, y, z, rfl⟩, s4⟩
        exact k _ (s3.trans s4)
end

/-! ### the law -/
abbrev sLaw : Stmt := topS 22
abbrev NLaw : List Str := ["_law_script", "_law_k", "_law_pool_here", "_law_wide", "_law_rows", "_law_given", "_law_told", "_law_rank_here", "_law_more", "_law_value", "_law_row"]
abbrev PLaw : List Str := ["_law_script"]
theorem scLaw : FnScope NLaw PLaw (defScope sLaw) := ⟨rfl, rfl, rfl, by decide +kernel, rfl, by decide +kernel, by decide +kernel⟩
theorem shownAll_map : ∀ xs : List PyData, PyData.shownAll xs = xs.map PyData.shown
  | [] => by simp [PyData.shownAll]
  | x :: xs => by simp only [PyData.shownAll, List.map_cons, shownAll_map xs]
theorem sum_len {B : Nat} : ∀ (ts : List Str), (∀ t ∈ ts, t.length ≤ B) → (ts.map (·.length)).sum ≤ ts.length * B
  | [], _ => by simp
  | t :: ts, h => by
    have q := sum_len ts fun x hx => h x (List.mem_cons_of_mem _ hx)
    have a := h t (List.mem_cons_self ..)
    rw [List.map_cons, List.sum_cons, List.length_cons, Nat.succ_mul]
    omega
theorem log_of {x : Int} {B : Nat} (h : x.natAbs < 2 ^ B) (b0 : 0 < B) (b1 : B ≤ 1920) : x.natAbs.log2 < 1920 := Nat.lt_of_lt_of_le (PySem.Flt.log2_lt_of b0 h) b1
theorem shown_row {r : Row} {B : Nat} (h : Small r B) (b0 : 0 < B) (b1 : B ≤ 1920) (hl : r.length ≤ 20) : (PyData.shown (.tuple (r.map .int))).length ≤ 40000 := by
  simp only [PyData.shown, shownAll_map]
  have q := tupleText_len_le ((r.map PyData.int).map PyData.shown)
  have s := sum_len (B := 1921) ((r.map PyData.int).map PyData.shown) fun t ht => by
    obtain ⟨d, hd, rfl⟩ := List.mem_map.mp ht
    obtain ⟨i, hi, rfl⟩ := List.mem_map.mp hd
    exact PyProof.Rows.int_text_len_1921 (log_of (h i hi) b0 b1)
  rw [List.length_map, List.length_map] at s q
  have : r.length * 1921 ≤ 20 * 1921 := Nat.mul_le_mul_right _ hl
  omega
theorem shown_rows {rs : List Row} {B : Nat} (h : ∀ r ∈ rs, Small r B ∧ r.length ≤ 20) (b0 : 0 < B) (b1 : B ≤ 1920) (hl : rs.length ≤ 20) : (dRows rs).shown.length ≤ sizeLine := by
  unfold dRows
  simp only [PyData.shown, shownAll_map]
  have q := listText_len_le ((rs.map fun r => PyData.tuple (r.map .int)).map PyData.shown)
  have s := sum_len (B := 40000) ((rs.map fun r => PyData.tuple (r.map .int)).map PyData.shown) fun t ht => by
    obtain ⟨d, hd, rfl⟩ := List.mem_map.mp ht
    obtain ⟨r, hr, rfl⟩ := List.mem_map.mp hd
    exact shown_row (h r hr).1 b0 b1 (h r hr).2
  rw [List.length_map, List.length_map] at s q
  have : rs.length * 40000 ≤ 20 * 40000 := Nat.mul_le_mul_right _ hl
  have e : sizeLine = 16777216 := by decide
  omega
theorem able_row {r : Row} {B : Nat} (h : Small r B) (b0 : 0 < B) (b1 : B ≤ 1920) : PyData.showableAll (r.map PyData.int) = true := by
  induction r with
  | nil => simp [PyData.showableAll]
  | cons x r ih =>
    simp only [List.map_cons, PyData.showableAll, PyData.showable, Bool.and_eq_true]
    exact ⟨decide_eq_true (log_of (h x (List.mem_cons_self ..)) b0 b1), ih fun y hy => h y (List.mem_cons_of_mem _ hy)⟩
theorem able_rows {rs : List Row} {B : Nat} (h : ∀ r ∈ rs, Small r B) (b0 : 0 < B) (b1 : B ≤ 1920) : (dRows rs).showable = true := by
  unfold dRows
  simp only [PyData.showable]
  induction rs with
  | nil => simp [PyData.showableAll]
  | cons r rs ih =>
    simp only [List.map_cons, PyData.showableAll, PyData.showable, Bool.and_eq_true]
    exact ⟨able_row (h r (List.mem_cons_self ..)) b0 b1, ih fun x hx => h x (List.mem_cons_of_mem _ hx)⟩
theorem RowsIn.append {H : Hp} : ∀ {xs ys : List V} {rs ss : List Row}, RowsIn H xs rs → RowsIn H ys ss → RowsIn H (xs ++ ys) (rs ++ ss)
  | _, _, _, _, .nil, h => h
  | _, _, _, _, .cons r t, h => .cons r (RowsIn.append t h)
theorem RowsIn.rev {H : Hp} : ∀ {xs : List V} {rs : List Row}, RowsIn H xs rs → RowsIn H xs.reverse rs.reverse
  | _, _, .nil => .nil
  | _, _, .cons r t => by
    rw [List.reverse_cons, List.reverse_cons]
    exact RowsIn.append (RowsIn.rev t) (.cons r .nil)
theorem RowsIn.drop {H : Hp} : ∀ {xs : List V} {rs : List Row}, RowsIn H xs rs → ∀ k, RowsIn H (xs.drop k) (rs.drop k)
  | _, _, h, 0 => h
  | _, _, .nil, k + 1 => .nil
  | _, _, .cons r t, k + 1 => RowsIn.drop t k
theorem RowsIn.take {H : Hp} : ∀ {xs : List V} {rs : List Row}, RowsIn H xs rs → ∀ k, RowsIn H (xs.take k) (rs.take k)
  | _, _, _, 0 => .nil
  | _, _, .nil, k + 1 => .nil
  | _, _, .cons r t, k + 1 => .cons r (RowsIn.take t k)
theorem ev_smul (c : Int) (r : Row) (i : Nat) : ev (r.map (c * ·)) i = c * ev r i := by
  unfold ev
  rw [List.getD_eq_getElem?_getD, List.getD_eq_getElem?_getD, List.getElem?_map]
  cases r[i]? with
  | none => simp
  | some x => rfl
theorem qs_more {rows : List Row} {a b : Nat} {neg : List Row} (hn : neg = rows.map fun r => r.map (-3 * ·)) (v : Vec) : QS (· ∈ rows.reverse ++ (rows.drop a).take b ++ neg) v ↔ QS (· ∈ rows) v := by
  refine QS.iff_of (fun r hr => ?_) (fun r hr => QS.mem (List.mem_append_left _ (List.mem_append_left _ (List.mem_reverse.mpr hr)))) v
  rcases List.mem_append.mp hr with z | z
  · rcases List.mem_append.mp z with z | z
    · exact QS.mem (List.mem_reverse.mp z)
    · exact QS.mem (List.mem_of_mem_drop (List.mem_of_mem_take z))
  · rw [hn] at z
    obtain ⟨x, hx, rfl⟩ := List.mem_map.mp z
    exact ((QS.mem hx).smul (-3)).cg fun i => (ev_smul (-3) x i).symm
theorem Rank.of_span {a b : List Row} {t : Nat} (h : Rank a t) (e : ∀ v, QS (· ∈ a) v ↔ QS (· ∈ b) v) : Rank b t := let ⟨x, h1, h2, h3⟩ := h; ⟨x, h1, h2, fun v => (h3 v).trans (e v)⟩
theorem reds_zero2 : Reds 2 1 [[0, 0]] [] := ⟨⟨(fun _ z => nomatch z), (fun _ z => nomatch z), .nil⟩, QS.iff_of (fun _ z => nomatch z) (fun r hr => by
  rw [List.mem_singleton.mp hr]
  exact QS.zero.cg fun i => by
    match i with
    | 0 => rfl
    | 1 => rfl
    | i + 2 => rfl), (fun _ z => nomatch z), (by decide), (fun _ z => nomatch z), [], (fun _ z => nomatch z), rfl, fun _ => Iff.rfl⟩
theorem rs_23 : RS 2 [[2, -3]] := ⟨fun o ho => by rw [List.mem_singleton.mp ho]; rfl, fun o ho => by rw [List.mem_singleton.mp ho]; exact ⟨0, rfl, by decide⟩, List.pairwise_singleton ..⟩
theorem qs_23 : ∀ v, QS (· ∈ [[4, -6], [2, -3]]) v ↔ QS (· ∈ [[2, -3]]) v := QS.iff_of (fun r hr => by
  simp only [List.mem_cons, List.not_mem_nil, or_false] at hr
  rcases hr with rfl | rfl
  · refine ((QS.mem (r := [2, -3]) (List.mem_singleton.mpr rfl)).smul 2).cg fun i => ?_
    match i with
    | 0 => rfl
    | 1 => rfl
    | i + 2 => rfl
  · exact QS.mem (List.mem_singleton.mpr rfl)) fun r hr => QS.mem (List.mem_cons_of_mem _ hr)
def spLaw (K : PySem.W.Frag) : Sp := fun vs H Q _ => ∃ (a : Addr) (ns : List Int), vs = [.ref a] ∧ SqL K H a (ns.map V.int) ∧ ns.length ≤ 63 ∧ ∀ H', Q (.bl true) H'
/-- the bound of reduced, for at most five columns -/
theorem eb5 {B f : Nat} (hf : f ≤ 5) (h : B + 6 * (EB B 5 + 1) ≤ 9000) : B + (f + 1) * (EB B f + 1) ≤ 9000 := by
  have em := EB_mono (B := B) hf
  have : (f + 1) * (EB B f + 1) ≤ 6 * (EB B 5 + 1) := Nat.mul_le_mul (by omega) (by omega)
  omega
theorem tb5 {B m n : Nat} (hn : n ≤ 5) (h : TB B 5 ≤ 9000) : TB B (min m n) ≤ 9000 := Nat.le_trans (TB_mono (by omega)) h
section
variable {P : Program} {w : World} {K : PySem.W.Frag} {mg : Str → Option Value} {base : Heap}
theorem ok_Law {f : Addr} {fd : FuncData} (F : Fun K "law" "law" sLaw f fd) (T : TxF mg) (GP : Has P w K mg base CX0 1 "_law_pool" PPool (spPoolB K)) (GW : Has P w K mg base CX0 2 "_law_drawn" PDrawn spDrawn) (GR : Has P w K mg base CX0 2 "_law_rank" PRank spRank)
    (GF : Has P w K mg base CX0 2 "_law_form_right" PForm spForm) (GD : Has P w K mg base CX0 6 "reduced" PRed spRed) : FnAt callerA P w K mg base CX0 f fd PLaw (spLaw K) := by
  refine fnAt_of (k := 6) ⟨rfl, by decide, by decide⟩ F scLaw (fun vs H Q E h => ?_) (fun cdv outer s H vs Q E hr h => ?_)
  · obtain ⟨a, ns, rfl, _⟩ := h
    rfl
  · obtain ⟨a, ns, rfl, hS, hlen, kq⟩ := h
    have hr2 := hr.mono (j := 2) (by decide)
    have hr1 := hr.mono (j := 1) (by decide)
    have hu9 : (callerA.deeper (PyProof.Rows.envOfC "law" (defScope sLaw) s.heap.objs.size f cdv)).units + 100 < cLine := by have := hr.un; omega
    refine ⟨_, (pss_cons (ps_for PassesOwn.never rfl (pi_range1 (by rfl) T.n_range (pa_cons (pe_callB (call_max2 rfl) (by rfl) T.n_max bb_max (pa_cons pe_int (pa_cons (pe_callB (call_min2 rfl) (by rfl) T.n_min bb_min (pa_cons (pe_callB call_len_seq (by rfl) T.n_len bb_len (pa_cons (pv 0) pa_nil)) (pa_cons pe_int pa_nil))) pa_nil))) pa_nil)) (pg_name (i := 1) scLaw.nd rfl (Or.inl rfl))
  (pss_cons (ps_set (i := 2) scLaw.nd rfl (Or.inl rfl) (pe_callH GP hr1 rfl pass0 (pa_cons (pv 0) (pa_cons (pv 1) pa_nil))))
  (pss_cons (ps_asg (pe_callH GW hr2 rfl pass0 (pa_cons (pv 2) pa_nil)) (pg_lst (by rfl) (pgs_cons (pg_name (i := 3) scLaw.nd rfl (Or.inl rfl)) (pgs_cons (pg_name (i := 4) scLaw.nd rfl (Or.inl rfl)) pgs_nil))))
  (pss_cons (ps_set (i := 5) scLaw.nd rfl (Or.inl rfl) (pe_callTy call_list_of (by rfl) T.n_list bb_list (pa_cons (pv 4) pa_nil)))
  (pss_cons (ps_set (i := 6) scLaw.nd rfl (Or.inl rfl) (pe_callH GD hr rfl pass0 (pa_cons (pv 5) (pa_cons (pv 3) pa_nil))))
  (pss_cons (ps_if (pt_cmpR (op_neD hr.units) (pv 5) (pv 4) (nomark _))
  (pss_one (ps_ret pe_bl))
  pss_nil)
  (pss_cons (ps_if (PW.pt (pw_or (pt_not (pt_val (pe_callB call_isi (by rfl) T.n_isinstance bb_isinstance (pa_cons (pv 6) (pa_cons (pe_bltn (v := .ty "list") (by rfl) T.n_list bb_list rfl) pa_nil))))) (pw_or1 (pt_not (pt_val (pe_callH GF hr2 rfl pass0 (pa_cons (pv 6) pa_nil)))))))
  (pss_one (ps_ret pe_bl))
  pss_nil)
  (pss_cons (ps_set (i := 7) scLaw.nd rfl (Or.inl rfl) (pe_callH GR hr2 rfl pass0 (pa_cons (pv 4) pa_nil)))
  (pss_cons (ps_if (PW.pt (pw_or (pt_cmpR op_ne (pe_callB call_len_seq (by rfl) T.n_len bb_len (pa_cons (pv 6) pa_nil)) (pv 7) (nomark _)) (pw_or1 (pt_cmpR op_ne (pe_callH GR hr2 rfl pass0 (pa_cons (pe_op op_cat (pv 4) (pv 6)) pa_nil)) (pv 7) (nomark _)))))
  (pss_one (ps_ret pe_bl))
  pss_nil)
  (pss_cons (ps_set (i := 8) scLaw.nd rfl (Or.inl rfl) (pe_op op_cat (pe_op op_cat (pe_sliceB (pv 4) (po_some (pe_un un_neg pe_int))) (pe_slice sl_list (pv 4) po_none (po_some pe_int))) (pe_lc (own := [("_law_row", 10)]) (g := gName 10) (tt := tYes) rfl scLaw.nd (pi_list (pv 4)) (blkOk_by (own := [("_law_row", 10)]) (N := NLaw) (sc := (defScope sLaw)) (by decide +kernel)) (fun _ _ _ _ _ => (pg_name (i := 10) scLaw.nd rfl (Or.inl rfl))) (fun _ _ _ _ _ => pts_nil) (fun _ _ _ _ _ => (pe_callTy (r := rTupOf K) call_tuple_of (by rfl) T.n_tuple bb_tuple (pa_cons (pe_lc (own := [("_law_value", 9)]) (wi := iTup K (tVar 10)) (g := gName 9) (tt := tYes) rfl scLaw.nd (pi_tup (pv 10)) (blkOk_by (own := [("_law_value", 9)]) (N := NLaw) (sc := { kind := .function, names := [(".0", .local), ("_law_row", .local), ("tuple", .globalImplicit)], isGenerator := false, isCoroutine := false }) (by decide +kernel)) (fun _ _ _ _ _ => (pg_name (i := 9) scLaw.nd rfl (Or.inl rfl))) (fun _ _ _ _ _ => pts_nil) (fun _ _ _ _ _ => (pe_op op_mulW (pe_un un_neg pe_int) (pv 9)))) pa_nil))))))
  (pss_one (ps_if (PW.pt (pw_or (pt_cmpR op_ne (pe_callB (call_reprD rfl hu9) (by rfl) T.n_repr bb_repr (pa_cons (pe_callH GD hr rfl pass0 (pa_cons (pv 8) (pa_cons (pv 3) pa_nil))) pa_nil)) (pe_callB (call_reprD rfl hu9) (by rfl) T.n_repr bb_repr (pa_cons (pv 6) pa_nil)) (nomark _)) (pw_or1 (pt_cmpR (op_neD hr.units) (pe_callH GD hr rfl pass0 (pa_cons (pv 6) (pa_cons (pv 3) pa_nil))) (pv 6) (nomark _)))))
  (pss_one (ps_ret pe_bl))
  pss_nil))))))))))))
  (pss_one (ps_ret (pe_and (pe_cmpR (op_eqD hr.units) (pe_callH GD hr rfl pass0 (pa_cons (pe_lst pa_nil) (pa_cons pe_int pa_nil))) (pe_lst pa_nil) (nomark _)) (pe_and (pe_cmpR (op_eqD hr.units) (pe_callH GD hr rfl pass0 (pa_cons (pe_lst (pa_cons (pe_tup (pa_cons pe_int (pa_cons pe_int pa_nil))) pa_nil)) (pa_cons pe_int pa_nil))) (pe_lst pa_nil) (nomark _)) (pe_one (pe_cmpR (op_eqD hr.units) (pe_callH GD hr rfl pass0 (pa_cons (pe_lst (pa_cons (pe_tup (pa_cons pe_int (pa_cons (pe_un un_neg pe_int) pa_nil))) (pa_cons (pe_tup (pa_cons pe_int (pa_cons (pe_un un_neg pe_int) pa_nil))) pa_nil))) (pa_cons pe_int pa_nil))) (pe_lst (pa_cons (pe_tup (pa_cons pe_int (pa_cons (pe_un un_neg pe_int) pa_nil))) pa_nil)) (nomark _)))))))), ?_⟩
    refine ⟨_, rfl, a, _, rfl, .inl hS, _, _, rfl, _, _, rfl, _, rfl, ?_, ?_, ?_⟩
    · split <;> split <;> omega
    · split <;> split <;> omega
    refine for_range (lo := 0) (fun i σ H' => Same H H' ∧ i ≤ 8 ∧ ∃ x1 x2 x3 x4 x5 x6 x7 x8 x9 x10 : Option V, σ = [some (.ref a), x1, x2, x3, x4, x5, x6, x7, x8, x9, x10]) ⟨Same.refl _, by decide, _, _, _, _, _, _, _, _, _, _, rfl⟩ ?_ ?_
    · rintro i σ H0 hi ⟨s0, hi8, x1, x2, x3, x4, x5, x6, x7, x8, x9, x10, rfl⟩
      have hi9 : i < 8 := by
        split at hi <;> split at hi <;> omega
      rw [Int.zero_add]
      refine ⟨_, rfl, _, rfl, a, ns, i, rfl, s0.seq hS, by omega, fun p H1 s1 hp0 P1 => ?_⟩
      have hp : H p = none := s0.free hp0
      refine ⟨_, rfl, p, rfl, P1, fun R X n xs rows H2 k2 eR eX hx lr n0 n5 hrow => ⟨R, _, rfl, SqL.of eR, rfl, _, _, rfl, _, _, rfl, rfl, ?_⟩⟩
      have s2 : Same H H2 := fun b o e => k2 b o (s1 b o (s0 b o e)) (ne_of_none e hp)
      have lx : xs.length = rows.length := Paired.length hx
      -- given, told
      refine ⟨_, rfl, X, _, rfl, .inl (SqL.of eX), fun G hG => ?_⟩
      have s3 := same_new (o := .lst xs) hG
      refine ⟨_, rfl, _, rfl, G, n, xs, rows, 40, rfl, upd_same, hx.same (TSame.of s3), hrow, by omega, by omega, by decide, eb5 (by omega) (by decide), fun L ys out H4 s4 _ eL hy hRd => ?_⟩
      have s24 := s3.trans s4
      have eX4 := s24 _ _ eX
      have hx4 := hx.same (TSame.of s24)
      have lw := hRd.rs.le_w
      have ly : ys.length = out.length := Paired.length hy
      refine ⟨_, rfl, _, rfl, _, _, dp_rows (s4 _ _ upd_same) hx4, dp_rows eX4 hx4, shaped_rows _, shaped_rows _, _, rfl, iteE (by rw [eqv_rows]; rfl) ?_⟩
      have s04 := s2.trans s24
      clear hG s3 s24 s4
      have so : ∀ o ∈ out, Small o 230 := fun o ho => small_mono (hRd.small o ho) (Nat.le_trans (EB_mono (f := out.length) (g := 5) (by omega)) (by decide))
      -- the form
      refine ⟨_, rfl, _, _, _, _, _, rfl, .ty _, .base (.lst eL), kit_ty (r := true) (by decide +kernel), true, rfl, iteE rfl ?_⟩
      refine ⟨_, rfl, L, ys, out, n, rfl, eL, hy, hRd.rs, hRd.gcd, by omega, fun H5 s5 => ⟨true, rfl, iteE rfl ?_⟩⟩
      -- the ranks
      refine ⟨_, rfl, X, n, xs, rows, 40, rfl, s5 _ _ eX4, hx4.same (TSame.of s5), hrow, by omega, by omega, by decide, tb5 n5 (by decide), fun t1 H6 s6 hR1 => ?_⟩
      have et1 : t1 = out.length := rank_reds hRd hR1
      have s46 := s5.trans s6
      refine ⟨_, rfl, L, _, rfl, .inl (SqL.of (s46 _ _ eL)), _, rfl, rfl, _, rfl, iteE (by rw [et1, ly, decide_eq_true rfl]; rfl) ?_⟩
      refine ⟨_, rfl, _, rfl, X, L, xs, ys, rfl, rfl, s46 _ _ eX4, s46 _ _ eL, Nat.le_of_lt (small1000 (by omega)), fun F1 hF1 => ?_⟩
      have s7 := s46.trans (same_new (o := .lst (xs ++ ys)) hF1)
      refine ⟨F1, n, _, rows ++ out, 230, rfl, upd_same, RowsIn.append (hx4.same (TSame.of s7)) (hy.same (TSame.of s7)), fun r hr' => ?_, by omega, by rw [List.length_append]; omega, by decide, tb5 n5 (by decide), fun t2 H8 s8 hR2 => ?_⟩
      · rcases List.mem_append.mp hr' with z | z
        · exact ⟨(hrow r z).1, small_mono (hrow r z).2 (by decide)⟩
        · exact ⟨hRd.rs.len r z, so r z⟩
      have et2 : t2 = out.length := rank_reds hRd (hR2.of_span (QS.iff_of (fun r hr' => by
        rcases List.mem_append.mp hr' with z | z
        · exact QS.mem z
        · exact (hRd.span _).mp (QS.mem z)) fun r hr' => QS.mem (List.mem_append_left _ hr')))
      refine ⟨_, rfl, rfl, _, rfl, iteE (by rw [et1, et2, decide_eq_true rfl]; rfl) ?_⟩
      have s8 := s7.trans s8
      clear hF1 s7 s46 s5 s6 hR2 hR1
      -- more
      refine ⟨_, rfl, _, rfl, _, rfl, rfl, X, xs, rfl, SqL.of (s8 _ _ eX4), fun B1 hB1 => ?_⟩
      have s9' := same_new (o := .lst xs.reverse) hB1
      have s9 := s8.trans s9'
      refine ⟨_, rfl, _, rfl, X, xs, rfl, SqL.of (s9 _ _ eX4), fun B2 hB2 => ?_⟩
      obtain ⟨ca, cb, ecut⟩ : ∃ ca cb, cutV xs none (some 1) = (xs.drop ca).take cb := ⟨_, _, rfl⟩
      have lc : ((xs.drop ca).take cb).length ≤ xs.length := by rw [List.length_take, List.length_drop]; omega
      have s10 := s9.trans (same_new (o := .lst (cutV xs none (some 1))) hB2)
      refine ⟨B1, B2, _, _, rfl, rfl, (same_new hB2) _ _ upd_same, upd_same, Nat.le_of_lt (small1000 (by rw [ecut, List.length_reverse]; omega)), fun B3 hB3 => ?_⟩
      have s11' := same_new (o := .lst (xs.reverse ++ cutV xs none (some 1))) hB3
      have s11 := s10.trans s11'
      refine ⟨_, rfl, X, rfl, ⟨_, SqL.of (s11 _ _ eX4)⟩, fun D hD => ?_⟩
      have hx11 := hx4.same (TSame.of s11)
      refine lc_rel (walk_list (K := K) (a := X) (xs := xs)) (fun i y H' => ∃ q, y = .ref q ∧ TupAt H' q ((rows.getD i []).map (-3 * ·))) (fun i y Ha Hb ts ⟨q, e, z⟩ => ⟨q, e, ts _ _ z⟩) hD (by omega) (fun H' s' => SqL.of (s' _ _ (s11 _ _ eX4))) ?_ ?_
      · rintro i x H3 H4' kk hi s3 ⟨rfl, hxi⟩ kc
        obtain ⟨q, rfl, hq, hil⟩ := rows_at hx11 hxi
        have hq3 := s3 _ _ hq
        obtain ⟨w1, w2⟩ := hrow _ (getD_mem hil)
        refine ⟨rfl, _, rfl, q, rfl, ⟨_, SqT.of hq3⟩, fun D2 hD2 => ?_⟩
        refine lc_map (walk_tup (K := K) (a := q) (xs := (rows.getD i []).map V.int)) (fun j => V.int (-3 * (rows.getD i []).getD j 0)) hD2 (by rw [List.length_map]; omega) (fun H' s' => SqT.of (s' _ _ hq3)) ?_ ?_
        · rintro j x H5 H6 kk2 hj s5 ⟨rfl, hxj⟩ kc2
          obtain ⟨z, hz, rfl⟩ := int_at hxj
          have ez : (rows.getD i []).getD j 0 = z := getD_of hz
          refine ⟨rfl, _, rfl, _, rfl, _, _, rfl, rfl, wide_mul (a := 2) (b := 40) (by decide) (w2 z (List.mem_of_getElem? hz)) (by decide) (by decide) (by decide), ?_⟩
          have q := kc2 H6 (Same.refl _)
          rw [ez] at q
          exact q
        · intro H5 s5 e5
          refine ⟨D2, _, rfl, .inl ⟨SqL.of e5, fun l hl => kc _ _ (s5.trans (same_new hl)) ⟨l, rfl, ?_⟩⟩⟩
          show upd H5 l _ l = _
          rw [upd_same]
          congr 2
          rw [List.length_map, List.map_map]
          exact range_map (rows.getD i []) _ _ fun j x hx' => by rw [getD_of hx']; rfl
      · intro fs H13 s13 eD lf pf
        obtain ⟨neg, hneg⟩ : ∃ neg, neg = rows.map fun r => r.map (-3 * ·) := ⟨_, rfl⟩
        have hF : RowsIn H13 fs neg := rows_of (by rw [hneg, List.length_map]; omega) fun j y hy' => by
          obtain ⟨q, e, z⟩ := pf j y hy'
          have hj : j < rows.length := by
            have := (List.getElem?_eq_some_iff.mp hy').1
            omega
          refine ⟨q, e, ?_⟩
          rw [hneg, List.getD_eq_getElem?_getD, List.getElem?_map, List.getElem?_eq_getElem hj]
          rw [List.getD_eq_getElem?_getD, List.getElem?_eq_getElem hj] at z
          exact z
        have lN : neg.length = rows.length := by rw [hneg, List.length_map]
        have s1113 := s11.trans s13
        refine ⟨B3, D, _, _, rfl, rfl, s13 _ _ upd_same, eD, Nat.le_of_lt (small1000 (by rw [ecut, List.length_append, List.length_reverse]; omega)), fun B4 hB4 => ?_⟩
        have s14' := same_new (o := .lst (xs.reverse ++ cutV xs none (some 1) ++ fs)) hB4
        have s14 := s1113.trans s14'
        have hx14 := hx4.same (TSame.of s14)
        have hM : RowsIn (upd H13 B4 (.lst (xs.reverse ++ cutV xs none (some 1) ++ fs))) (xs.reverse ++ cutV xs none (some 1) ++ fs) (rows.reverse ++ (rows.drop ca).take cb ++ neg) := by
          refine RowsIn.append (RowsIn.append hx14.rev ?_) (hF.same (TSame.of s14'))
          have q := (hx14.drop ca).take cb
          rw [← ecut] at q
          exact q
        have bM : ∀ r ∈ rows.reverse ++ (rows.drop ca).take cb ++ neg, r.length = n ∧ Small r 42 := fun r hr' => by
          have ol : ∀ x ∈ rows, x.length = n ∧ Small x 42 := fun x hx' => ⟨(hrow x hx').1, small_mono (hrow x hx').2 (by decide)⟩
          rcases List.mem_append.mp hr' with z | z
          · rcases List.mem_append.mp z with z | z
            · exact ol r (List.mem_reverse.mp z)
            · exact ol r (List.mem_of_mem_drop (List.mem_of_mem_take z))
          · rw [hneg] at z
            obtain ⟨y, hy', rfl⟩ := List.mem_map.mp z
            obtain ⟨w1, w2⟩ := hrow y hy'
            refine ⟨by rw [List.length_map]; exact w1, fun x hx' => ?_⟩
            obtain ⟨v, hv, rfl⟩ := List.mem_map.mp hx'
            have := w2 v hv
            rw [Int.natAbs_mul, show (-3 : Int).natAbs = 3 from by decide]
            omega
        have lM : (rows.reverse ++ (rows.drop ca).take cb ++ neg).length ≤ 15 := by
          rw [List.length_append, List.length_append, List.length_reverse, List.length_take, List.length_drop, lN]
          omega
        -- repr(reduced(more, wide)) != repr(told)
        refine ⟨_, rfl, _, rfl, B4, n, _, _, 42, rfl, upd_same, hM, bM, by omega, by omega, by decide, eb5 (by omega) (by decide), fun L2 ys2 out2 H15 s15 _ eL2 hy2 hRd2 => ?_⟩
        have e2 : out2 = out := reds_uniq hRd2 hRd (qs_more hneg)
        subst e2
        have lw2 : out2.length ≤ 20 := by omega
        have sh : ∀ r ∈ out2, Small r 230 ∧ r.length ≤ 20 := fun r hr' => ⟨so r hr', by rw [hRd.rs.len r hr']; omega⟩
        refine ⟨L2, dRows out2, rfl, dp_rows eL2 hy2, shaped_rows _, able_rows so (by decide) (by decide), shown_rows sh (by decide) (by decide) lw2, ?_⟩
        have s15 := s14.trans s15
        have hy15 := hy.same (TSame.of s15)
        refine ⟨_, rfl, L, dRows out2, rfl, dp_rows (s15 _ _ eL) hy15, shaped_rows _, able_rows so (by decide) (by decide), shown_rows sh (by decide) (by decide) lw2, rfl, _, rfl, iteE (by rw [decide_eq_true rfl]; rfl) ?_⟩
        -- reduced(told, wide) != told
        refine ⟨_, rfl, _, rfl, L, n, ys, out2, 230, rfl, s15 _ _ eL, hy15, fun r hr' => ⟨hRd.rs.len r hr', so r hr'⟩, by omega, by omega, by decide, eb5 (by omega) (by decide), fun L3 ys3 out3 H16 s16 _ eL3 hy3 hRd3 => ?_⟩
        have e3 : out3 = out2 := hRd3.rs.uniq hRd.rs hRd3.gcd hRd.gcd hRd3.span
        refine ⟨_, rfl, _, _, dp_rows eL3 hy3, dp_rows ((s15.trans s16) _ _ eL) (hy15.same (TSame.of s16)), shaped_rows _, shaped_rows _, _, rfl, iteE (by rw [e3, eqv_rows]; rfl) ?_⟩
        exact ⟨(s04.trans s15).trans s16, by omega, _, _, _, _, _, _, _, _, _, _, rfl⟩
    · rintro σ H1 ⟨s1, _, x1, x2, x3, x4, x5, x6, x7, x8, x9, x10, rfl⟩
      refine ⟨(by show 0 ≤ sizeLine; decide), fun E1 hE1 => ⟨E1, 3, [], [], 1, rfl, upd_same, .nil, (fun _ z => nomatch z), by decide, by decide, by decide, by decide, fun L ys out H2 s2 _ eL hy hRd => ⟨(by show 0 ≤ sizeLine; decide), fun E2 hE2 => ?_⟩⟩⟩
      have z1 : out = [] := List.eq_nil_of_length_eq_zero (Nat.le_zero.mp hRd.le)
      have t3 := same_new (o := .lst []) hE2
      refine ⟨_, _, dp_rows (t3 _ _ eL) (hy.same (TSame.of t3)), .lst (SqL.of upd_same) .nil, shaped_rows _, by decide, _, rfl, iteS (by rw [eqv_nil_rows, decide_eq_true z1]) ?_⟩
      refine ⟨(by show 2 ≤ sizeLine; decide), fun T1 hT1 => ⟨(by show 1 ≤ sizeLine; decide), fun E3 hE3 => ⟨E3, 2, [.ref T1], [[0, 0]], 1, rfl, upd_same, .cons ⟨T1, rfl, same_new hE3 _ _ upd_same⟩ .nil, ?_, by decide, by decide, by decide, by decide, fun L ys out H4 s4 _ eL hy hRd => ⟨(by show 0 ≤ sizeLine; decide), fun E4 hE4 => ?_⟩⟩⟩⟩
      · intro r hr'
        rw [List.mem_singleton.mp hr']
        refine ⟨rfl, fun x hx => ?_⟩
        simp only [List.mem_cons, List.not_mem_nil, or_false, or_self] at hx
        rw [hx]
        decide
      have z2 : out = [] := reds_uniq hRd reds_zero2 fun _ => Iff.rfl
      have t4 := same_new (o := .lst []) hE4
      refine ⟨_, _, dp_rows (t4 _ _ eL) (hy.same (TSame.of t4)), .lst (SqL.of upd_same) .nil, shaped_rows _, by decide, _, rfl, iteS (by rw [eqv_nil_rows, decide_eq_true z2]) ?_⟩
      refine ⟨_, rfl, (by show 2 ≤ sizeLine; decide), fun T2 hT2 => ⟨_, rfl, (by show 2 ≤ sizeLine; decide), fun T3 hT3 => ⟨(by show 2 ≤ sizeLine; decide), fun E5 hE5 => ⟨E5, 2, [.ref T2, .ref T3], [[4, -6], [2, -3]], 3, rfl, upd_same, .cons ⟨T2, rfl, same_new hE5 _ _ (same_new hT3 _ _ upd_same)⟩ (.cons ⟨T3, rfl, same_new hE5 _ _ upd_same⟩ .nil), ?_, by decide, by decide, by decide, by decide, fun L ys out H6 s6 _ eL hy hRd => ?_⟩⟩⟩⟩
      · intro r hr'
        simp only [List.mem_cons, List.not_mem_nil, or_false] at hr'
        rcases hr' with rfl | rfl
        · exact ⟨rfl, by intro x hx; simp only [List.mem_cons, List.not_mem_nil, or_false] at hx; rcases hx with rfl | rfl <;> decide⟩
        · exact ⟨rfl, by intro x hx; simp only [List.mem_cons, List.not_mem_nil, or_false] at hx; rcases hx with rfl | rfl <;> decide⟩
      have z3 : out = [[2, -3]] := hRd.rs.uniq rs_23 hRd.gcd (fun o ho => by rw [List.mem_singleton.mp ho]; decide) fun v => (hRd.span v).trans (qs_23 v)
      refine ⟨_, rfl, (by show 2 ≤ sizeLine; decide), fun T4 hT4 => ⟨(by show 1 ≤ sizeLine; decide), fun E6 hE6 => ?_⟩⟩
      have t5 := (same_new (o := .tup [.int 2, .int (-3)]) hT4).trans (same_new (o := .lst [.ref T4]) hE6)
      have fin : ∀ b : Bool, b = true → Q (.bl b) (upd (upd H6 T4 (.tup [.int 2, .int (-3)])) E6 (.lst [.ref T4])) := fun b hb => by rw [hb]; exact kq _
      exact ⟨_, _, dp_rows (t5 _ _ eL) (hy.same (TSame.of t5)), dp_rows (rs := [[2, -3]]) upd_same (.cons ⟨T4, rfl, same_new hE6 _ _ upd_same⟩ .nil), shaped_rows _, shaped_rows _, fin _ (by rw [z3, eqv_rows])⟩
end

theorem all_mk {l : PySem.W.OpenLaw} {w : World} {K : PySem.W.Frag} {h : Heap} {mg : Str → Option Value} {fa fIsInt fIsRow fCF fPrim fLead fWo fRB fAdded fRed fPool fTake fThin fRank fDrawn fLLead fLFac fForm fLaw : Addr} (X : K.In h) (G : h.Ns mainGlobals mg) (hfa : mg "law" = some (.ref fa))
    {odIsInt anIsInt : Option Addr} {slIsInt : Array (Option Value)} {ocIsInt kVIsInt dcIsInt pmIsInt cdIsInt ctIsInt : Value}
    (aIsInt : PySem.W.nsIn K mainGlobals "is_integer" = some (some (.ref fIsInt))) (lIsInt : K.lookup fIsInt = some ⟨ocIsInt, odIsInt, .func (PySem.W.fnOf "is_integer" "is_integer" (defArgs sIsInt) (defBody sIsInt) (defScope sIsInt) .none kVIsInt dcIsInt pmIsInt anIsInt cdIsInt ctIsInt), slIsInt⟩) (cIsInt : PySem.W.codeIn K cdIsInt "is_integer" = true) (kIsInt : PySem.W.keepIn K (.ref fIsInt) = true)
    {odIsRow anIsRow : Option Addr} {slIsRow : Array (Option Value)} {ocIsRow kVIsRow dcIsRow pmIsRow cdIsRow ctIsRow : Value}
    (aIsRow : PySem.W.nsIn K mainGlobals "is_row" = some (some (.ref fIsRow))) (lIsRow : K.lookup fIsRow = some ⟨ocIsRow, odIsRow, .func (PySem.W.fnOf "is_row" "is_row" (defArgs sIsRow) (defBody sIsRow) (defScope sIsRow) .none kVIsRow dcIsRow pmIsRow anIsRow cdIsRow ctIsRow), slIsRow⟩) (cIsRow : PySem.W.codeIn K cdIsRow "is_row" = true) (kIsRow : PySem.W.keepIn K (.ref fIsRow) = true)
    {odCF anCF : Option Addr} {slCF : Array (Option Value)} {ocCF kVCF dcCF pmCF cdCF ctCF : Value}
    (aCF : PySem.W.nsIn K mainGlobals "common_factor" = some (some (.ref fCF))) (lCF : K.lookup fCF = some ⟨ocCF, odCF, .func (PySem.W.fnOf "common_factor" "common_factor" (defArgs sCF) (defBody sCF) (defScope sCF) .none kVCF dcCF pmCF anCF cdCF ctCF), slCF⟩) (cCF : PySem.W.codeIn K cdCF "common_factor" = true) (kCF : PySem.W.keepIn K (.ref fCF) = true)
    {odPrim anPrim : Option Addr} {slPrim : Array (Option Value)} {ocPrim kVPrim dcPrim pmPrim cdPrim ctPrim : Value}
    (aPrim : PySem.W.nsIn K mainGlobals "primitive" = some (some (.ref fPrim))) (lPrim : K.lookup fPrim = some ⟨ocPrim, odPrim, .func (PySem.W.fnOf "primitive" "primitive" (defArgs sPrim) (defBody sPrim) (defScope sPrim) .none kVPrim dcPrim pmPrim anPrim cdPrim ctPrim), slPrim⟩) (cPrim : PySem.W.codeIn K cdPrim "primitive" = true) (kPrim : PySem.W.keepIn K (.ref fPrim) = true)
    {odLead anLead : Option Addr} {slLead : Array (Option Value)} {ocLead kVLead dcLead pmLead cdLead ctLead : Value}
    (aLead : PySem.W.nsIn K mainGlobals "lead" = some (some (.ref fLead))) (lLead : K.lookup fLead = some ⟨ocLead, odLead, .func (PySem.W.fnOf "lead" "lead" (defArgs sLead) (defBody sLead) (defScope sLead) .none kVLead dcLead pmLead anLead cdLead ctLead), slLead⟩) (cLead : PySem.W.codeIn K cdLead "lead" = true) (kLead : PySem.W.keepIn K (.ref fLead) = true)
    {odWo anWo : Option Addr} {slWo : Array (Option Value)} {ocWo kVWo dcWo pmWo cdWo ctWo : Value}
    (aWo : PySem.W.nsIn K mainGlobals "without" = some (some (.ref fWo))) (lWo : K.lookup fWo = some ⟨ocWo, odWo, .func (PySem.W.fnOf "without" "without" (defArgs sWo) (defBody sWo) (defScope sWo) .none kVWo dcWo pmWo anWo cdWo ctWo), slWo⟩) (cWo : PySem.W.codeIn K cdWo "without" = true) (kWo : PySem.W.keepIn K (.ref fWo) = true)
    {odRB anRB : Option Addr} {slRB : Array (Option Value)} {ocRB kVRB dcRB pmRB cdRB ctRB : Value}
    (aRB : PySem.W.nsIn K mainGlobals "reduced_by" = some (some (.ref fRB))) (lRB : K.lookup fRB = some ⟨ocRB, odRB, .func (PySem.W.fnOf "reduced_by" "reduced_by" (defArgs sRB) (defBody sRB) (defScope sRB) .none kVRB dcRB pmRB anRB cdRB ctRB), slRB⟩) (cRB : PySem.W.codeIn K cdRB "reduced_by" = true) (kRB : PySem.W.keepIn K (.ref fRB) = true)
    {odAdded anAdded : Option Addr} {slAdded : Array (Option Value)} {ocAdded kVAdded dcAdded pmAdded cdAdded ctAdded : Value}
    (aAdded : PySem.W.nsIn K mainGlobals "added" = some (some (.ref fAdded))) (lAdded : K.lookup fAdded = some ⟨ocAdded, odAdded, .func (PySem.W.fnOf "added" "added" (defArgs sAdded) (defBody sAdded) (defScope sAdded) .none kVAdded dcAdded pmAdded anAdded cdAdded ctAdded), slAdded⟩) (cAdded : PySem.W.codeIn K cdAdded "added" = true) (kAdded : PySem.W.keepIn K (.ref fAdded) = true)
    {odRed anRed : Option Addr} {slRed : Array (Option Value)} {ocRed kVRed dcRed pmRed cdRed ctRed : Value}
    (aRed : PySem.W.nsIn K mainGlobals "reduced" = some (some (.ref fRed))) (lRed : K.lookup fRed = some ⟨ocRed, odRed, .func (PySem.W.fnOf "reduced" "reduced" (defArgs sRed) (defBody sRed) (defScope sRed) .none kVRed dcRed pmRed anRed cdRed ctRed), slRed⟩) (cRed : PySem.W.codeIn K cdRed "reduced" = true) (kRed : PySem.W.keepIn K (.ref fRed) = true)
    {odPool anPool : Option Addr} {slPool : Array (Option Value)} {ocPool kVPool dcPool pmPool cdPool ctPool : Value}
    (aPool : PySem.W.nsIn K mainGlobals "_law_pool" = some (some (.ref fPool))) (lPool : K.lookup fPool = some ⟨ocPool, odPool, .func (PySem.W.fnOf "_law_pool" "_law_pool" (defArgs sPool) (defBody sPool) (defScope sPool) .none kVPool dcPool pmPool anPool cdPool ctPool), slPool⟩) (cPool : PySem.W.codeIn K cdPool "_law_pool" = true) (kPool : PySem.W.keepIn K (.ref fPool) = true)
    {odTake anTake : Option Addr} {slTake : Array (Option Value)} {ocTake kVTake dcTake pmTake cdTake ctTake : Value}
    (aTake : PySem.W.nsIn K mainGlobals "_law_take" = some (some (.ref fTake))) (lTake : K.lookup fTake = some ⟨ocTake, odTake, .func (PySem.W.fnOf "_law_take" "_law_take" (defArgs sTake) (defBody sTake) (defScope sTake) .none kVTake dcTake pmTake anTake cdTake ctTake), slTake⟩) (cTake : PySem.W.codeIn K cdTake "_law_take" = true) (kTake : PySem.W.keepIn K (.ref fTake) = true)
    {odThin anThin : Option Addr} {slThin : Array (Option Value)} {ocThin kVThin dcThin pmThin cdThin ctThin : Value}
    (aThin : PySem.W.nsIn K mainGlobals "_law_thin" = some (some (.ref fThin))) (lThin : K.lookup fThin = some ⟨ocThin, odThin, .func (PySem.W.fnOf "_law_thin" "_law_thin" (defArgs sThin) (defBody sThin) (defScope sThin) .none kVThin dcThin pmThin anThin cdThin ctThin), slThin⟩) (cThin : PySem.W.codeIn K cdThin "_law_thin" = true) (kThin : PySem.W.keepIn K (.ref fThin) = true)
    {odRank anRank : Option Addr} {slRank : Array (Option Value)} {ocRank kVRank dcRank pmRank cdRank ctRank : Value}
    (aRank : PySem.W.nsIn K mainGlobals "_law_rank" = some (some (.ref fRank))) (lRank : K.lookup fRank = some ⟨ocRank, odRank, .func (PySem.W.fnOf "_law_rank" "_law_rank" (defArgs sRank) (defBody sRank) (defScope sRank) .none kVRank dcRank pmRank anRank cdRank ctRank), slRank⟩) (cRank : PySem.W.codeIn K cdRank "_law_rank" = true) (kRank : PySem.W.keepIn K (.ref fRank) = true)
    {odDrawn anDrawn : Option Addr} {slDrawn : Array (Option Value)} {ocDrawn kVDrawn dcDrawn pmDrawn cdDrawn ctDrawn : Value}
    (aDrawn : PySem.W.nsIn K mainGlobals "_law_drawn" = some (some (.ref fDrawn))) (lDrawn : K.lookup fDrawn = some ⟨ocDrawn, odDrawn, .func (PySem.W.fnOf "_law_drawn" "_law_drawn" (defArgs sDrawn) (defBody sDrawn) (defScope sDrawn) .none kVDrawn dcDrawn pmDrawn anDrawn cdDrawn ctDrawn), slDrawn⟩) (cDrawn : PySem.W.codeIn K cdDrawn "_law_drawn" = true) (kDrawn : PySem.W.keepIn K (.ref fDrawn) = true)
    {odLLead anLLead : Option Addr} {slLLead : Array (Option Value)} {ocLLead kVLLead dcLLead pmLLead cdLLead ctLLead : Value}
    (aLLead : PySem.W.nsIn K mainGlobals "_law_lead" = some (some (.ref fLLead))) (lLLead : K.lookup fLLead = some ⟨ocLLead, odLLead, .func (PySem.W.fnOf "_law_lead" "_law_lead" (defArgs sLLead) (defBody sLLead) (defScope sLLead) .none kVLLead dcLLead pmLLead anLLead cdLLead ctLLead), slLLead⟩) (cLLead : PySem.W.codeIn K cdLLead "_law_lead" = true) (kLLead : PySem.W.keepIn K (.ref fLLead) = true)
    {odLFac anLFac : Option Addr} {slLFac : Array (Option Value)} {ocLFac kVLFac dcLFac pmLFac cdLFac ctLFac : Value}
    (aLFac : PySem.W.nsIn K mainGlobals "_law_factor" = some (some (.ref fLFac))) (lLFac : K.lookup fLFac = some ⟨ocLFac, odLFac, .func (PySem.W.fnOf "_law_factor" "_law_factor" (defArgs sLFac) (defBody sLFac) (defScope sLFac) .none kVLFac dcLFac pmLFac anLFac cdLFac ctLFac), slLFac⟩) (cLFac : PySem.W.codeIn K cdLFac "_law_factor" = true) (kLFac : PySem.W.keepIn K (.ref fLFac) = true)
    {odForm anForm : Option Addr} {slForm : Array (Option Value)} {ocForm kVForm dcForm pmForm cdForm ctForm : Value}
    (aForm : PySem.W.nsIn K mainGlobals "_law_form_right" = some (some (.ref fForm))) (lForm : K.lookup fForm = some ⟨ocForm, odForm, .func (PySem.W.fnOf "_law_form_right" "_law_form_right" (defArgs sForm) (defBody sForm) (defScope sForm) .none kVForm dcForm pmForm anForm cdForm ctForm), slForm⟩) (cForm : PySem.W.codeIn K cdForm "_law_form_right" = true) (kForm : PySem.W.keepIn K (.ref fForm) = true)
    {odLaw anLaw : Option Addr} {slLaw : Array (Option Value)} {ocLaw kVLaw dcLaw pmLaw cdLaw ctLaw : Value}
    (aLaw : PySem.W.nsIn K mainGlobals "law" = some (some (.ref fLaw))) (lLaw : K.lookup fLaw = some ⟨ocLaw, odLaw, .func (PySem.W.fnOf "law" "law" (defArgs sLaw) (defBody sLaw) (defScope sLaw) .none kVLaw dcLaw pmLaw anLaw cdLaw ctLaw), slLaw⟩) (cLaw : PySem.W.codeIn K cdLaw "law" = true) (kLaw : PySem.W.keepIn K (.ref fLaw) = true)
    (n_int : PySem.W.nsIn K mainGlobals "int" = some none)
    (n_bool : PySem.W.nsIn K mainGlobals "bool" = some none)
    (n_isinstance : PySem.W.nsIn K mainGlobals "isinstance" = some none)
    (n_len : PySem.W.nsIn K mainGlobals "len" = some none)
    (n_tuple : PySem.W.nsIn K mainGlobals "tuple" = some none)
    (n_list : PySem.W.nsIn K mainGlobals "list" = some none)
    (n_all : PySem.W.nsIn K mainGlobals "all" = some none)
    (n_abs : PySem.W.nsIn K mainGlobals "abs" = some none)
    (n_sorted : PySem.W.nsIn K mainGlobals "sorted" = some none)
    (n_zip : PySem.W.nsIn K mainGlobals "zip" = some none)
    (n_enumerate : PySem.W.nsIn K mainGlobals "enumerate" = some none)
    (n_range : PySem.W.nsIn K mainGlobals "range" = some none)
    (n_sum : PySem.W.nsIn K mainGlobals "sum" = some none)
    (n_max : PySem.W.nsIn K mainGlobals "max" = some none)
    (n_min : PySem.W.nsIn K mainGlobals "min" = some none)
    (n_set : PySem.W.nsIn K mainGlobals "set" = some none)
    (n_repr : PySem.W.nsIn K mainGlobals "repr" = some none)
    : ∃ fd : FuncData, (∀ (s : Shared) (v : Value), BindsTo s fd ⟨[v], []⟩ [("_law_script", v)]) ∧ ∀ base : Heap, K.In base → base.Ns mainGlobals mg → FnAt callerA l.prog w K mg base CX0 fa fd PLaw (spLaw K) := by
  have e := hfa.symm.trans (PySem.W.mg_of X G aLaw)
  cases e
  have FIsInt := fun_mk (st := sIsInt) lIsInt cIsInt kIsInt
  have bIsInt := FIsInt.binds (ps := PIsInt) fun _ _ _ _ _ _ us hl => match us, hl with | [_], _ => rfl
  have gIsInt := PySem.W.mg_of X G aIsInt
  have FIsRow := fun_mk (st := sIsRow) lIsRow cIsRow kIsRow
  have bIsRow := FIsRow.binds (ps := PIsRow) fun _ _ _ _ _ _ us hl => match us, hl with | [_, _], _ => rfl
  have gIsRow := PySem.W.mg_of X G aIsRow
  have FCF := fun_mk (st := sCF) lCF cCF kCF
  have bCF := FCF.binds (ps := PCF) fun _ _ _ _ _ _ us hl => match us, hl with | [_, _], _ => rfl
  have gCF := PySem.W.mg_of X G aCF
  have FPrim := fun_mk (st := sPrim) lPrim cPrim kPrim
  have bPrim := FPrim.binds (ps := PPrim) fun _ _ _ _ _ _ us hl => match us, hl with | [_], _ => rfl
  have gPrim := PySem.W.mg_of X G aPrim
  have FLead := fun_mk (st := sLead) lLead cLead kLead
  have bLead := FLead.binds (ps := PLead) fun _ _ _ _ _ _ us hl => match us, hl with | [_], _ => rfl
  have gLead := PySem.W.mg_of X G aLead
  have FWo := fun_mk (st := sWo) lWo cWo kWo
  have bWo := FWo.binds (ps := PWo) fun _ _ _ _ _ _ us hl => match us, hl with | [_, _], _ => rfl
  have gWo := PySem.W.mg_of X G aWo
  have FRB := fun_mk (st := sRB) lRB cRB kRB
  have bRB := FRB.binds (ps := PRB) fun _ _ _ _ _ _ us hl => match us, hl with | [_, _], _ => rfl
  have gRB := PySem.W.mg_of X G aRB
  have FAdded := fun_mk (st := sAdded) lAdded cAdded kAdded
  have bAdded := FAdded.binds (ps := PAdded) fun _ _ _ _ _ _ us hl => match us, hl with | [_, _], _ => rfl
  have gAdded := PySem.W.mg_of X G aAdded
  have FRed := fun_mk (st := sRed) lRed cRed kRed
  have bRed := FRed.binds (ps := PRed) fun _ _ _ _ _ _ us hl => match us, hl with | [_, _], _ => rfl
  have gRed := PySem.W.mg_of X G aRed
  have FPool := fun_mk (st := sPool) lPool cPool kPool
  have bPool := FPool.binds (ps := PPool) fun _ _ _ _ _ _ us hl => match us, hl with | [_, _], _ => rfl
  have gPool := PySem.W.mg_of X G aPool
  have FTake := fun_mk (st := sTake) lTake cTake kTake
  have bTake := FTake.binds (ps := PTake) fun _ _ _ _ _ _ us hl => match us, hl with | [_, _], _ => rfl
  have gTake := PySem.W.mg_of X G aTake
  have FThin := fun_mk (st := sThin) lThin cThin kThin
  have bThin := FThin.binds (ps := PThin) fun _ _ _ _ _ _ us hl => match us, hl with | [_], _ => rfl
  have gThin := PySem.W.mg_of X G aThin
  have FRank := fun_mk (st := sRank) lRank cRank kRank
  have bRank := FRank.binds (ps := PRank) fun _ _ _ _ _ _ us hl => match us, hl with | [_], _ => rfl
  have gRank := PySem.W.mg_of X G aRank
  have FDrawn := fun_mk (st := sDrawn) lDrawn cDrawn kDrawn
  have bDrawn := FDrawn.binds (ps := PDrawn) fun _ _ _ _ _ _ us hl => match us, hl with | [_], _ => rfl
  have gDrawn := PySem.W.mg_of X G aDrawn
  have FLLead := fun_mk (st := sLLead) lLLead cLLead kLLead
  have bLLead := FLLead.binds (ps := PLLead) fun _ _ _ _ _ _ us hl => match us, hl with | [_], _ => rfl
  have gLLead := PySem.W.mg_of X G aLLead
  have FLFac := fun_mk (st := sLFac) lLFac cLFac kLFac
  have bLFac := FLFac.binds (ps := PLFac) fun _ _ _ _ _ _ us hl => match us, hl with | [_], _ => rfl
  have gLFac := PySem.W.mg_of X G aLFac
  have FForm := fun_mk (st := sForm) lForm cForm kForm
  have bForm := FForm.binds (ps := PForm) fun _ _ _ _ _ _ us hl => match us, hl with | [_], _ => rfl
  have gForm := PySem.W.mg_of X G aForm
  have FLaw := fun_mk (st := sLaw) lLaw cLaw kLaw
  have bLaw := FLaw.binds (ps := PLaw) fun _ _ _ _ _ _ us hl => match us, hl with | [_], _ => rfl
  have gLaw := PySem.W.mg_of X G aLaw
  have m_int := PySem.W.mg_none_of X G n_int
  have m_bool := PySem.W.mg_none_of X G n_bool
  have m_isinstance := PySem.W.mg_none_of X G n_isinstance
  have m_len := PySem.W.mg_none_of X G n_len
  have m_tuple := PySem.W.mg_none_of X G n_tuple
  have m_list := PySem.W.mg_none_of X G n_list
  have m_all := PySem.W.mg_none_of X G n_all
  have m_abs := PySem.W.mg_none_of X G n_abs
  have m_sorted := PySem.W.mg_none_of X G n_sorted
  have m_zip := PySem.W.mg_none_of X G n_zip
  have m_enumerate := PySem.W.mg_none_of X G n_enumerate
  have m_range := PySem.W.mg_none_of X G n_range
  have m_sum := PySem.W.mg_none_of X G n_sum
  have m_max := PySem.W.mg_none_of X G n_max
  have m_min := PySem.W.mg_none_of X G n_min
  have m_set := PySem.W.mg_none_of X G n_set
  have m_repr := PySem.W.mg_none_of X G n_repr

  have TI : TxInt mg := ⟨m_int, m_bool, m_isinstance⟩
  have TR : TxRow mg := { toTxInt := TI, n_len := m_len, n_tuple := m_tuple, n_list := m_list, n_all := m_all, n_abs := m_abs, n_sorted := m_sorted, n_zip := m_zip, n_enumerate := m_enumerate }
  have TK : TxKer mg := { toTxRow := TR, n_range := m_range, n_sum := m_sum }
  have TL : TxLaw mg := { toTxKer := TK, n_max := m_max, n_min := m_min }
  have TF : TxF mg := { toTxLaw := TL, n_set := m_set, n_repr := m_repr }
  refine ⟨PySem.W.fnOf "law" "law" (defArgs sLaw) (defBody sLaw) (defScope sLaw) .none kVLaw dcLaw pmLaw anLaw cdLaw ctLaw, fun s v => .of_eq rfl, fun base kB gB => ?_⟩
  have GI : Has l.prog w K mg base CX0 1 "is_integer" PIsInt (spIsInt K) := ⟨_, _, ok_IsInt FIsInt TI, gIsInt, kIsInt, bIsInt⟩
  have GRw : Has l.prog w K mg base CX0 2 "is_row" PIsRow (spRowG K) := ⟨_, _, ok_IsRowG FIsRow TR GI, gIsRow, kIsRow, bIsRow⟩
  have GC : Has l.prog w K mg base CX0 1 "common_factor" PCF spCF := ⟨_, _, ok_CF FCF TR, gCF, kCF, bCF⟩
  have GPr : Has l.prog w K mg base CX0 2 "primitive" PPrim spPrim := ⟨_, _, ok_Prim FPrim TR GC, gPrim, kPrim, bPrim⟩
  have GLe : Has l.prog w K mg base CX0 1 "lead" PLead spLead := ⟨_, _, ok_Lead FLead TR, gLead, kLead, bLead⟩
  have GW : Has l.prog w K mg base CX0 3 "without" PWo spWo := ⟨_, _, ok_Wo FWo TR GLe GPr, gWo, kWo, bWo⟩
  have GB : Has l.prog w K mg base CX0 4 "reduced_by" PRB (spRB K) := ⟨_, _, ok_RB FRB TR GW GPr, gRB, kRB, bRB⟩
  have GA : Has l.prog w K mg base CX0 5 "added" PAdded (spAdded K) := ⟨_, _, ok_Added FAdded TR GW GPr GB GLe, gAdded, kAdded, bAdded⟩
  have GRd : Has l.prog w K mg base CX0 6 "reduced" PRed spRed := ⟨_, _, ok_Red FRed TR GRw GA, gRed, kRed, bRed⟩
  have GPo : Has l.prog w K mg base CX0 1 "_law_pool" PPool (spPoolB K) := ⟨_, _, ok_PoolB FPool TK, gPool, kPool, bPool⟩
  have GTa : Has l.prog w K mg base CX0 1 "_law_take" PTake spTake := ⟨_, _, ok_Take FTake TK, gTake, kTake, bTake⟩
  have GTh : Has l.prog w K mg base CX0 1 "_law_thin" PThin spThin := ⟨_, _, ok_Thin FThin TK, gThin, kThin, bThin⟩
  have GRa : Has l.prog w K mg base CX0 2 "_law_rank" PRank spRank := ⟨_, _, ok_Rank FRank TK GTh, gRank, kRank, bRank⟩
  have GDr : Has l.prog w K mg base CX0 2 "_law_drawn" PDrawn spDrawn := ⟨_, _, ok_Drawn FDrawn TF GTa, gDrawn, kDrawn, bDrawn⟩
  have GLL : Has l.prog w K mg base CX0 1 "_law_lead" PLLead spLLead := ⟨_, _, ok_LLead FLLead TF, gLLead, kLLead, bLLead⟩
  have GLF : Has l.prog w K mg base CX0 1 "_law_factor" PLFac spLFac := ⟨_, _, ok_LFac FLFac TF, gLFac, kLFac, bLFac⟩
  have GFo : Has l.prog w K mg base CX0 2 "_law_form_right" PForm spForm := ⟨_, _, ok_Form FForm TF GLL GLF, gForm, kForm, bForm⟩
  exact ok_Law FLaw TF GPo GDr GRa GFo GRd
theorem walk {l : PySem.W.OpenLaw} {q : Program} {loose : List Str} {XP : (Str → Option Value) → Heap → Prop} {YP : World → Heap → Prop} {d : DefRec} {K : Params → PySem.W.Frag} (hn : l.most = some 63) (hdf : d.params.defaults = [])
    (hY : ∀ (w : World) (h : Heap), YP w h → (K w.params).In h)
    (F : ∀ (w : World) (mg : Str → Option Value) (fa : Addr) (h : Heap), (K w.params).In h → h.Ns mainGlobals mg → mg d.name = some (.ref fa) →
      ∃ fd : FuncData, (∀ (s : Shared) (u : Value), BindsTo s fd ⟨[u], []⟩ [("_law_script", u)]) ∧ ∀ base : Heap, (K w.params).In base → base.Ns mainGlobals mg → FnAt callerA l.prog w (K w.params) mg base CX0 fa fd PLaw (spLaw (K w.params))) :
    PySem.W.WalkO q loose XP YP l.row.toRowW d [] (fun f vs => PySem.call f vs) :=
  walk_ofA (n := 63) (x := "_law_script") (CX := fun _ => CX0) (sp := fun w => spLaw (K w.params)) hn (by decide) hdf hY F (fun _ _ a ns hl _ hS => ⟨a, ns, rfl, hS, hl, fun _ => rfl⟩) fun _ _ _ _ _ z => z
end Aon
open PySem PySem.W PyProof.Rows
set_option maxRecDepth 100000 in
set_option maxHeartbeats 0 in
theorem PySem.Challenge.cw_allornothing_k40_reduced_rows_holds : PySem.Challenge.rw_allornothing_k40_reduced_rows.Holds := by
  w_on; o_law; k_head; (case hw => w_witness2)
  k_fill
  refine Aon.walk (l := PySem.Challenge.rw_allornothing_k40_reduced_rows) rfl rfl (fun w h Y => PySem.W.kIn_of Y) ?F
  case F =>
    intro w mg fa h KX G hmg
    refine' Aon.all_mk KX G hmg ?aIsInt ?lIsInt ?cIsInt ?kIsInt ?aIsRow ?lIsRow ?cIsRow ?kIsRow ?aCF ?lCF ?cCF ?kCF ?aPrim ?lPrim ?cPrim ?kPrim ?aLead ?lLead ?cLead ?kLead ?aWo ?lWo ?cWo ?kWo ?aRB ?lRB ?cRB ?kRB ?aAdded ?lAdded ?cAdded ?kAdded ?aRed ?lRed ?cRed ?kRed ?aPool ?lPool ?cPool ?kPool ?aTake ?lTake ?cTake ?kTake ?aThin ?lThin ?cThin ?kThin ?aRank ?lRank ?cRank ?kRank ?aDrawn ?lDrawn ?cDrawn ?kDrawn ?aLLead ?lLLead ?cLLead ?kLLead ?aLFac ?lLFac ?cLFac ?kLFac ?aForm ?lForm ?cForm ?kForm ?aLaw ?lLaw ?cLaw ?kLaw ?n_int ?n_bool ?n_isinstance ?n_len ?n_tuple ?n_list ?n_all ?n_abs ?n_sorted ?n_zip ?n_enumerate ?n_range ?n_sum ?n_max ?n_min ?n_set ?n_repr
    (case aIsInt => k_is)
    (case lIsInt => k_is)
    (case cIsInt => k_is)
    (case kIsInt => k_is)
    (case aIsRow => k_is)
    (case lIsRow => k_is)
    (case cIsRow => k_is)
    (case kIsRow => k_is)
    (case aCF => k_is)
    (case lCF => k_is)
    (case cCF => k_is)
    (case kCF => k_is)
    (case aPrim => k_is)
    (case lPrim => k_is)
    (case cPrim => k_is)
    (case kPrim => k_is)
    (case aLead => k_is)
    (case lLead => k_is)
    (case cLead => k_is)
    (case kLead => k_is)
    (case aWo => k_is)
    (case lWo => k_is)
    (case cWo => k_is)
    (case kWo => k_is)
    (case aRB => k_is)
    (case lRB => k_is)
    (case cRB => k_is)
    (case kRB => k_is)
    (case aAdded => k_is)
    (case lAdded => k_is)
    (case cAdded => k_is)
    (case kAdded => k_is)
    (case aRed => k_is)
    (case lRed => k_is)
    (case cRed => k_is)
    (case kRed => k_is)
    (case aPool => k_is)
    (case lPool => k_is)
    (case cPool => k_is)
    (case kPool => k_is)
    (case aTake => k_is)
    (case lTake => k_is)
    (case cTake => k_is)
    (case kTake => k_is)
    (case aThin => k_is)
    (case lThin => k_is)
    (case cThin => k_is)
    (case kThin => k_is)
    (case aRank => k_is)
    (case lRank => k_is)
    (case cRank => k_is)
    (case kRank => k_is)
    (case aDrawn => k_is)
    (case lDrawn => k_is)
    (case cDrawn => k_is)
    (case kDrawn => k_is)
    (case aLLead => k_is)
    (case lLLead => k_is)
    (case cLLead => k_is)
    (case kLLead => k_is)
    (case aLFac => k_is)
    (case lLFac => k_is)
    (case cLFac => k_is)
    (case kLFac => k_is)
    (case aForm => k_is)
    (case lForm => k_is)
    (case cForm => k_is)
    (case kForm => k_is)
    (case aLaw => k_is)
    (case lLaw => k_is)
    (case cLaw => k_is)
    (case kLaw => k_is)
    (case n_int => k_is)
    (case n_bool => k_is)
    (case n_isinstance => k_is)
    (case n_len => k_is)
    (case n_tuple => k_is)
    (case n_list => k_is)
    (case n_all => k_is)
    (case n_abs => k_is)
    (case n_sorted => k_is)
    (case n_zip => k_is)
    (case n_enumerate => k_is)
    (case n_range => k_is)
    (case n_sum => k_is)
    (case n_max => k_is)
    (case n_min => k_is)
    (case n_set => k_is)
    (case n_repr => k_is)
#print axioms PySem.Challenge.cw_allornothing_k40_reduced_rows_holds

