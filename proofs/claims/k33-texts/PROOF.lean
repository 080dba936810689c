import PyProof.Rows.All
import Wide.All
import OpenK.AllK
import Wide.FinOn
import HandS.ForMost
import HandS.Wide
import HandS.IsInst
import HandS.Walk
import HandS.Flow
import HandS.Property
import HandS.Star
import HandS.Conv
import HandS.Text
import HandS.Strs
import HandS.Codes
import HandS.RaiseMore
import HandS.TupAny
import HandS.OwnEq
import HandS.Replace
import HandS.ReplaceList
import PyProof.StrBlock
import KE.KTurns
import KE.GoesMore
import KE.KOpsOwn
import KE.KUnpackStar
import KE.KParD
import PySem.Challenge.RW_allornothing_k33_texts_of_conditions
set_option Elab.async false
set_option linter.all false
set_option maxRecDepth 100000
set_option maxHeartbeats 4000000
namespace Aon
open PySem L2
def topS (i : Nat) : Stmt := PySem.Challenge.pw_allornothing_k33_texts_of_conditions.main.body.getD i (.Pass ⟨0, 0, 0, 0⟩)

/-! ### words of this text, over HandS -/
theorem bb_int : bootBuiltins "int" = some (.type "int") := by decide +kernel
theorem bb_str : bootBuiltins "str" = some (.type "str") := by decide +kernel
theorem bb_bool : bootBuiltins "bool" = some (.type "bool") := by decide +kernel
theorem bb_list : bootBuiltins "list" = some (.type "list") := by decide +kernel
theorem bb_tuple : bootBuiltins "tuple" = some (.type "tuple") := by decide +kernel
theorem bb_len : bootBuiltins "len" = some (.builtin "len") := by decide +kernel
theorem bb_all : bootBuiltins "all" = some (.builtin "all") := by decide +kernel
theorem bb_isinstance : bootBuiltins "isinstance" = some (.builtin "isinstance") := by decide +kernel
/-- a def that stands under its name: its promise, and how it is called -/
structure Has (P : Program) (w : World) (K : PySem.W.Frag) (mg : Str → Option Value) (base : Heap) (CX : CXT) (k : Nat) (x : Str) (ps : List Str) (sp : Sp) : Prop where
  ex : ∃ (f : Addr) (fd : FuncData), FnOk P w K mg base CX k f fd ps sp ∧ mg x = some (.ref f) ∧ PySem.W.keepIn K (.ref f) = true ∧ Binds K fd ps []
section
variable {X : Cx}
theorem pe_callH {CX : CXT} {k : Nat} {x : Str} {ps : List Str} {sp : Sp} {E : XK} {e : Expr} {es : List Expr} {t : TA} {p pos : Pos} (F : Has X.prog X.w X.K X.mg X.base CX k x ps sp) (hr : Room k X.A) (hg : Gl X x) (hx : Passes CX X E) (ha : PA X (e :: es) t)
    (hd : (x == ("__debug__" : Str)) = false := by decide) (he : starEach (e :: es) X.env = (false, eval e X.env) :: starEach es X.env := by rfl) (hpl : (backTo pos (starEach es X.env)).any (·.1) = false := by rfl) :
    PE X (.Call (.Name x p) (e :: es) [] pos) (tCall sp [] E t) := by
  obtain ⟨f, fd, F, m, kp, b⟩ := F.ex
  exact pe_call F hr hg m kp b .nil hx ha hd he hpl
theorem pe_callH0 {CX : CXT} {k : Nat} {x : Str} {ps : List Str} {sp : Sp} {E : XK} {p pos : Pos} (F : Has X.prog X.w X.K X.mg X.base CX k x ps sp) (hr : Room k X.A) (hg : Gl X x) (hx : Passes CX X E) (hd : (x == ("__debug__" : Str)) = false := by decide) :
    PE X (.Call (.Name x p) [] [] pos) (tCall sp [] E tNil) := by
  obtain ⟨f, fd, F, m, kp, b⟩ := F.ex
  exact pe_call0 F hr hg m kp b .nil hx hd
theorem pe_globE {x : Str} {v : V} {pos : Pos} (hg : Gl X x) (hm : ∃ u, X.mg x = some u ∧ RelV v u) (hd : (x == ("__debug__" : Str)) = false := by decide) : PE X (.Name x pos) (tC v) := by
  obtain ⟨u, m, r⟩ := hm
  exact pe_glob hg m r hd
end
/-- a method of the class at C; a class under its name -/
structure HasM (P : Program) (w : World) (K : PySem.W.Frag) (mg : Str → Option Value) (base : Heap) (CX : CXT) (k : Nat) (C : Addr) (m : Str) (ps : List Str) (sp : Sp) : Prop where
  ex : ∃ (f : Addr) (fd : FuncData), Meth K C m f ∧ FnOk P w K mg base CX k f fd ps sp ∧ Binds K fd ps []
structure HasC (P : Program) (w : World) (K : PySem.W.Frag) (mg : Str → Option Value) (base : Heap) (CX : CXT) (k : Nat) (x : Str) (C : Addr) (ps : List Str) (sp : Sp) : Prop where
  ex : ∃ (f : Addr) (fd : FuncData), Mk K C f ∧ FnOk P w K mg base CX k f fd ps sp ∧ mg x = some (.ref C) ∧ Binds K fd ps []
section
variable {X : Cx}
theorem pe_methH {CX : CXT} {k : Nat} {C : Addr} {m : Str} {ps : List Str} {sp : Sp} {E : XK} {o e : Expr} {es : List Expr} {ta : TE} {t : TA} {apos pos : Pos} {pl : Sem Bool} (he : PE X o ta) (c : Cls X.K C) (M : HasM X.prog X.w X.K X.mg X.base CX k C m ps sp) (hr : Room k X.A) (hx : Passes CX X E)
    (ha : PA X (e :: es) t) (hst : starEach (e :: es) X.env = (false, eval e X.env) :: starEach es X.env := by rfl) (hpl : (backTo pos (starEach es X.env)).any (·.1) = false := by rfl)
    (ht : eval (.Call (.Attribute o m apos) (e :: es) [] pos) X.env = (do
      let v ← eval o X.env
      standAt apos.atName
      let (g, r) ← holding [v] (getMethod v m pl)
      callWith pos g r (backTo pos (starEach (e :: es) X.env)) (backToKw pos (keywordEach [] X.env))) := by rfl) : PE X (.Call (.Attribute o m apos) (e :: es) [] pos) (tMeth C m sp [] E ta t) := by
  obtain ⟨f, fd, hm, F, b⟩ := M.ex
  exact pe_meth (pl := pl) he c hm F hr b .nil hx ha hst hpl ht
theorem pe_methH0 {CX : CXT} {k : Nat} {C : Addr} {m : Str} {ps : List Str} {sp : Sp} {E : XK} {o : Expr} {ta : TE} {apos pos : Pos} {pl : Sem Bool} (he : PE X o ta) (c : Cls X.K C) (M : HasM X.prog X.w X.K X.mg X.base CX k C m ps sp) (hr : Room k X.A) (hx : Passes CX X E)
    (ht : eval (.Call (.Attribute o m apos) [] [] pos) X.env = (do
      let v ← eval o X.env
      standAt apos.atName
      let (g, r) ← holding [v] (getMethod v m pl)
      callWith pos g r (backTo pos (starEach [] X.env)) (backToKw pos (keywordEach [] X.env))) := by rfl) : PE X (.Call (.Attribute o m apos) [] [] pos) (tMeth C m sp [] E ta tNil) := by
  obtain ⟨f, fd, hm, F, b⟩ := M.ex
  exact pe_meth0 (pl := pl) he c hm F hr b .nil hx ht
theorem pe_makeH {CX : CXT} {k : Nat} {x : Str} {C : Addr} {ps : List Str} {sp : Sp} {E : XK} {e : Expr} {es : List Expr} {t : TA} {p pos : Pos} (M : HasC X.prog X.w X.K X.mg X.base CX k x C ps sp) (hr : Room (k + 1) X.A) (hg : Gl X x) (hx : Passes CX X E) (ha : PA X (e :: es) t)
    (hd : (x == ("__debug__" : Str)) = false := by decide) (he : starEach (e :: es) X.env = (false, eval e X.env) :: starEach es X.env := by rfl) (hpl : (backTo pos (starEach es X.env)).any (·.1) = false := by rfl) :
    PE X (.Call (.Name x p) (e :: es) [] pos) (tMake C sp [] E t) := by
  obtain ⟨f, fd, mk, F, m, b⟩ := M.ex
  exact pe_make mk F hr hg m b .nil hx ha hd he hpl
theorem pe_propH {CX : CXT} {k : Nat} {C p : Addr} {f : Str} {ps : List Str} {sp : Sp} {E : XK} {e : Expr} {ta : TE} {pos : Pos} (he : PE X e ta) (c : Cls X.K C) (M : ∃ (g : Addr) (fd : FuncData), PropOf X.K C f p g ∧ FnOk X.prog X.w X.K X.mg X.base CX k g fd ps sp ∧ Binds X.K fd ps []) (hr : Room (k + 1) X.A) (hx : Passes CX X.nox E)
    (hab : attributeBase e f X.env (eval e X.env) = eval e X.env := by rfl) : PE X (.Attribute e f pos) (tProp C sp [] E ta) := by
  obtain ⟨g, fd, hp, F, b⟩ := M
  exact pe_prop he c hp F hr b .nil hx hab
end
/-- all but p and c stands -/
def But (p c : Addr) (H H' : Hp) : Prop := ∀ b o, H b = some o → b ≠ p → b ≠ c → H' b = some o
theorem But.refl {p c : Addr} {H : Hp} : But p c H H := fun _ _ e _ _ => e
theorem But.trans {p c : Addr} {H H1 H2 : Hp} (a : But p c H H1) (b : But p c H1 H2) : But p c H H2 := fun x o e h1 h2 => b x o (a x o e h1 h2) h1 h2
theorem iteE {c : Bool} {A B : Prop} (hc : c = false) (k : B) : if c = true then A else B := by
  rw [hc]
  exact iteF k
theorem iteS {c : Bool} {A B : Prop} (hc : c = true) (k : A) : if c = true then A else B := by
  rw [hc]
  exact iteT k

def dOf : V → PyData
  | .non => .none | .bl b => .bool b | .int i => .int i | .str z => .str z | _ => .none
theorem dp_flat {K : PySem.W.Frag} {H : Hp} {v : V} (h : flatV v = true) : Dp K H v (dOf v) := by
  cases v with
  | non => exact .non
  | bl b => exact .bl b
  | int i => exact .int i
  | str z => exact .str z
  | _ => cases h
theorem dpAll_flat {K : PySem.W.Frag} {H : Hp} : ∀ {xs : List V}, xs.all flatV = true → DpAll K H xs (xs.map dOf)
  | [], _ => .nil
  | x :: xs, h => by
    rw [List.all_cons, Bool.and_eq_true] at h
    exact .cons (dp_flat h.1) (dpAll_flat h.2)
/-! shapes -/
def okV : V → Bool
  | .str z => PyData.strOk z
  | _ => true
theorem lay_dOf {v : V} (h : okV v = true) : (dOf v).canLay0 = true := by
  cases v with
  | str z => simpa [dOf, PyData.canLay0, okV] using h
  | _ => simp [dOf, PyData.canLay0]
theorem layAll_dOf : ∀ {xs : List V}, xs.all okV = true → PyData.canLayAll0 (xs.map dOf) = true
  | [], _ => by simp [PyData.canLayAll0]
  | x :: xs, h => by
    rw [List.all_cons, Bool.and_eq_true] at h
    simp only [List.map_cons, PyData.canLayAll0, Bool.and_eq_true]
    exact ⟨lay_dOf h.1, layAll_dOf h.2⟩
theorem depth_dOf (v : V) : (dOf v).depth = 0 := by cases v <;> simp [dOf, PyData.depth]
theorem depthAll_dOf : ∀ xs : List V, PyData.depthAll (xs.map dOf) = 0
  | [] => by simp [PyData.depthAll]
  | x :: xs => by simp only [List.map_cons, PyData.depthAll, depth_dOf, depthAll_dOf xs]; rfl
theorem shaped_tup {xs : List V} (h : xs.all okV = true) : SeqAt.shaped (.tuple (xs.map dOf)) = true := by
  unfold SeqAt.shaped
  simp only [PyData.canLay0, PyData.depth, layAll_dOf h, depthAll_dOf, Bool.true_and]
  decide

/-! ### own __len__, __bool__, __contains__, __eq__, __or__ of an instance: the rules -/
section
variable {X : Cx}
theorem run_own {k : Nat} {f : Addr} {fd : FuncData} {ps : List Str} {sp : Sp} {pins : List (Addr × Obj)} {σ : L2.St} {H : Hp} {s : Shared} {Q : VK} {us : List Value} {vs : List V} {A' : Around} {E' : Value → Shared → Prop} (F : FnOk X.prog X.w X.K X.mg X.base CX0 k f fd ps sp) (hr : Room k A') (hf : A'.frames = X.A.frames)
    (hb : Binds X.K fd ps []) (I : Inv X pins σ H s) (r : Vals vs us) (h : sp vs H Q E0) : wpAny (model X.prog X.w) A' (call (.ref f) us) (EP X pins σ Q) E' s := by
  have hl : us.length = ps.length := by rw [← r.length]; exact F.len _ _ _ _ h
  have e0 := I.env0
  have hb' := hb s us I.kIn (by rw [List.append_nil]; exact hl)
  rw [List.append_nil] at hb'
  refine wpAny_call (codeAny_mono (F.run A' X.stack s H ⟨us, []⟩ us vs Q E0 hr ⟨hf.trans e0.frames, e0.mod, e0.bs, e0.bsz, e0.funs, e0.frf, e0.hok, e0.bare⟩ hb' r h) fun r s' hq => ?_)
  cases r with
  | error e => exact False.elim hq
  | ok fl =>
    cases fl with
    | ret u => exact I.after hq
    | next => exact False.elim hq
    | brk => exact False.elim hq
    | cont => exact False.elim hq
/-- len(o) -/
def rLenO (C : Addr) (sp : Sp) : List V → Hp → VK → Prop := fun xs H Q => ∃ a dx fs, xs = [.ref a] ∧ H a = some (.ins C dx fs) ∧ sp [.ref a] H (fun v H' => ∃ n : Nat, v = .int (n : Nat) ∧ n < 1000000 ∧ Q (.int (n : Nat)) H') E0
theorem call_lenO {k : Nat} {C : Addr} {ps : List Str} {sp : Sp} (M : HasM X.prog X.w X.K X.mg X.base CX0 k C "__len__" ps sp) (hr : Room (k + 1) X.A) : CallR X (.builtin "len") (rLenO C sp) := by
  intro pins s σ H xs us Q I r h
  obtain ⟨f, fd, hm, F, hb⟩ := M.ex
  obtain ⟨a, dx, fs, rfl, ha, hq⟩ := h
  obtain ⟨u, rfl, ru⟩ := vals1 r
  obtain rfl : u = Value.ref a := ru
  obtain ⟨mA, J, _⟩ := ins_get I.hok ha
  obtain ⟨od, J, _⟩ := J.look
  obtain ⟨m, hF⟩ := I.fr
  refine PySem.W.len_K hF I.ok.mod.kin J hm.at_ hm.fn (wpAny_mono (run_own (A' := X.A.in1) F hr.in1 rfl hb I r hq) (fun v s' hv => ?_) fun _ _ z => z)
  obtain ⟨w, H', I', rw', n, rfl, hn, q⟩ := hv
  obtain ⟨t, rfl⟩ := rw'
  exact ⟨⟨by omega, by omega⟩, .int (n : Nat), H', I'.tok _, ⟨_, rfl⟩, q⟩
/-- x in o -/
def rInO (C : Addr) (sp : Sp) : R2 := fun x y H Q => ∃ a dx fs, y = .ref a ∧ H a = some (.ins C dx fs) ∧ sp [.ref a, x] H (fun v H' => ∃ b, v = .bl b ∧ Q (.bl b) H') E0
theorem op_inO {k : Nat} {C : Addr} {ps : List Str} {sp : Sp} (M : HasM X.prog X.w X.K X.mg X.base CX0 k C "__contains__" ps sp) (hr : Room k X.A) : OpR X (compareOp .In) (rInO C sp) := by
  intro pins s σ H x y v u Q I rx ry h
  obtain ⟨f, fd, hm, F, hb⟩ := M.ex
  obtain ⟨a, dx, fs, rfl, ha, hq⟩ := h
  obtain rfl : u = Value.ref a := ry
  obtain ⟨mA, J, _⟩ := ins_get I.hok ha
  obtain ⟨od, J, _⟩ := J.look
  obtain ⟨m, hF⟩ := I.fr
  refine PySem.W.in_K hF I.ok.mod.kin J hm.at_ hm.fn (wpAny_mono (run_own (A' := X.A) (vs := [.ref a, x]) F hr rfl hb I (.cons rfl (.cons rx .nil)) hq) (fun w s' hv => ?_) fun _ _ z => z)
  obtain ⟨w, H', I', rw', b, rfl, q⟩ := hv
  cases rw'
  exact wpAny_pure ⟨.bl b, H', I', rfl, q⟩
/-- o | p, both of one class -/
def rOrO (C : Addr) (sp : Sp) : R2 := fun x y H Q => ∃ a b dx dy fs gs, x = .ref a ∧ y = .ref b ∧ H a = some (.ins C dx fs) ∧ H b = some (.ins C dy gs) ∧ sp [.ref a, .ref b] H (fun v H' => (∃ c, v = .ref c) ∧ Q v H') E0
theorem op_orO {k : Nat} {C : Addr} {ps : List Str} {sp : Sp} (M : HasM X.prog X.w X.K X.mg X.base CX0 k C "__or__" ps sp) (hs : PySem.W.selfFirst X.K C = true) (hr : Room k X.A) : OpR X (binaryOp .BitOr) (rOrO C sp) := by
  intro pins s σ H x y v u Q I rx ry h
  obtain ⟨f, fd, hm, F, hb⟩ := M.ex
  obtain ⟨a, b, dx, dy, fs, gs, rfl, rfl, ha, hb', hq⟩ := h
  obtain rfl : v = Value.ref a := rx
  obtain rfl : u = Value.ref b := ry
  obtain ⟨mA, J, _⟩ := ins_get I.hok ha
  obtain ⟨od, J, _⟩ := J.look
  obtain ⟨mB, J', _⟩ := ins_get I.hok hb'
  obtain ⟨od', J', _⟩ := J'.look
  obtain ⟨m, hF⟩ := I.fr
  refine PySem.W.binop_K hF I.ok.mod.kin J J'.type hs hm.at_ hm.fn (wpAny_mono (run_own (A' := X.A) (vs := [.ref a, .ref b]) F hr rfl hb I (.cons rfl (.cons rfl .nil)) hq) (fun w s' hv => ?_) fun _ _ z => z)
  obtain ⟨w, H', I', rw', ⟨c, rfl⟩, q⟩ := hv
  cases rw'
  exact ⟨.ref c, H', I', rfl, q⟩
/-- o == p, both of one class -/
def rEqO (C : Addr) (sp : Sp) : R2 := fun x y H Q => ∃ a b dx dy fs gs, x = .ref a ∧ y = .ref b ∧ H a = some (.ins C dx fs) ∧ H b = some (.ins C dy gs) ∧ sp [.ref a, .ref b] H (fun v H' => ∃ c, v = .bl c ∧ Q (.bl c) H') E0
theorem op_eqO {k : Nat} {C : Addr} {ps : List Str} {sp : Sp} (M : HasM X.prog X.w X.K X.mg X.base CX0 k C "__eq__" ps sp) (hr : Room k X.A) : OpR X (compareOp .Eq) (rEqO C sp) := by
  intro pins s σ H x y v u Q I rx ry h
  obtain ⟨f, fd, hm, F, hb⟩ := M.ex
  obtain ⟨a, b, dx, dy, fs, gs, rfl, rfl, ha, hb', hq⟩ := h
  obtain rfl : v = Value.ref a := rx
  obtain rfl : u = Value.ref b := ry
  obtain ⟨mA, J, _⟩ := ins_get I.hok ha
  obtain ⟨od, J, _⟩ := J.look
  obtain ⟨mB, J', _⟩ := ins_get I.hok hb'
  obtain ⟨od', J', _⟩ := J'.look
  obtain ⟨m, hF⟩ := I.fr
  show wpAny (model X.prog X.w) X.A (richCompare .Eq (.ref a) (.ref b)) _ _ _
  refine PySem.W.cmp_K (op := .Eq) (tb := .ref C) hr.units0 hF I.ok.mod.kin J J'.type (by simp [PySem.W.notFirst]) hm.at_ hm.fn (wpAny_mono (run_own (A' := X.A) (vs := [.ref a, .ref b]) F hr rfl hb I (.cons rfl (.cons rfl .nil)) hq) (fun w s' hv => ?_) fun _ _ z => z)
  obtain ⟨w, H', I', rw', c, rfl, q⟩ := hv
  cases rw'
  exact ⟨.bl c, H', I', rfl, q⟩
/-- bool(o) -/
def rBoolO (C : Addr) (sp : Sp) : V → Hp → (Bool → Hp → Prop) → Prop := fun x H Q => ∃ a dx fs, x = .ref a ∧ H a = some (.ins C dx fs) ∧ sp [.ref a] H (fun v H' => ∃ c, v = .bl c ∧ Q c H') E0
theorem truthO {k : Nat} {C : Addr} {ps : List Str} {sp : Sp} {A' : Around} {pins : List (Addr × Obj)} {s : Shared} {σ : L2.St} {H : Hp} {x : V} {u : Value} {Q : Bool → Hp → Prop} {E : Value → Shared → Prop} (M : HasM X.prog X.w X.K X.mg X.base CX0 k C "__bool__" ps sp) (hr : Room k A') (hf : A'.frames = X.A.frames)
    (I : Inv X pins σ H s) (rx : RelV x u) (h : rBoolO C sp x H Q) : wpAny (model X.prog X.w) A' (truthy u) (fun b s' => ∃ H', Inv X pins σ H' s' ∧ Q b H') E s := by
  obtain ⟨f, fd, hm, F, hb⟩ := M.ex
  obtain ⟨a, dx, fs, rfl, ha, hq⟩ := h
  obtain rfl : u = Value.ref a := rx
  obtain ⟨mA, J, _⟩ := ins_get I.hok ha
  obtain ⟨od, J, _⟩ := J.look
  obtain ⟨m, hF⟩ := I.fr
  refine PySem.W.truthy_K hF I.ok.mod.kin J hm.at_ hm.fn (wpAny_mono (run_own (A' := A') (vs := [.ref a]) F hr hf hb I (.cons rfl .nil) hq) (fun w s' hv => ?_) fun _ _ z => z)
  obtain ⟨w, H', I', rw', c, rfl, q⟩ := hv
  cases rw'
  exact ⟨H', I', q⟩
end

/-! ### own __and__, __invert__; the call of an instance; word, *rest = a tuple -/
section
variable {X : Cx}
theorem op_andO {k : Nat} {C : Addr} {ps : List Str} {sp : Sp} (M : HasM X.prog X.w X.K X.mg X.base CX0 k C "__and__" ps sp) (hs : PySem.W.selfFirst X.K C = true) (hr : Room k X.A) : OpR X (binaryOp .BitAnd) (rOrO C sp) := by
  intro pins s σ H x y v u Q I rx ry h
  obtain ⟨f, fd, hm, F, hb⟩ := M.ex
  obtain ⟨a, b, dx, dy, fs, gs, rfl, rfl, ha, hb', hq⟩ := h
  obtain rfl : v = Value.ref a := rx
  obtain rfl : u = Value.ref b := ry
  obtain ⟨mA, J, _⟩ := ins_get I.hok ha
  obtain ⟨od, J, _⟩ := J.look
  obtain ⟨mB, J', _⟩ := ins_get I.hok hb'
  obtain ⟨od', J', _⟩ := J'.look
  obtain ⟨m, hF⟩ := I.fr
  refine PySem.W.binop_K hF I.ok.mod.kin J J'.type hs hm.at_ hm.fn (wpAny_mono (run_own (A' := X.A) (vs := [.ref a, .ref b]) F hr rfl hb I (.cons rfl (.cons rfl .nil)) hq) (fun w s' hv => ?_) fun _ _ z => z)
  obtain ⟨w, H', I', rw', ⟨c, rfl⟩, q⟩ := hv
  cases rw'
  exact ⟨.ref c, H', I', rfl, q⟩
/-- ~o -/
def rInvO (C : Addr) (sp : Sp) : V → Hp → VK → Prop := fun x H Q => ∃ a dx fs, x = .ref a ∧ H a = some (.ins C dx fs) ∧ sp [.ref a] H Q E0
theorem un_invO {k : Nat} {C : Addr} {ps : List Str} {sp : Sp} (M : HasM X.prog X.w X.K X.mg X.base CX0 k C "__invert__" ps sp) (hr : Room k X.A) : UnR X (unaryOp .Invert) (rInvO C sp) := by
  intro pins s σ H x v Q I rx h
  obtain ⟨f, fd, hm, F, hb⟩ := M.ex
  obtain ⟨a, dx, fs, rfl, ha, hq⟩ := h
  obtain rfl : v = Value.ref a := rx
  obtain ⟨mA, J, _⟩ := ins_get I.hok ha
  obtain ⟨od, J, _⟩ := J.look
  obtain ⟨m, hF⟩ := I.fr
  exact PySem.W.ksp_inv hF I.ok.mod.kin J hm.at_ hm.fn (run_own (A' := X.A) (vs := [.ref a]) F hr rfl hb I (.cons rfl .nil) hq)
/-- o(e, ..) -/
structure HasO (P : Program) (w : World) (K : PySem.W.Frag) (mg : Str → Option Value) (base : Heap) (CX : CXT) (k : Nat) (C : Addr) (ps : List Str) (sp : Sp) : Prop where
  ex : ∃ (g : Addr) (fd : FuncData), StX.CallO K C g ∧ FnOk P w K mg base CX k g fd ps sp ∧ Binds K fd ps []
theorem pe_callOH {CX : CXT} {k : Nat} {C : Addr} {ps : List Str} {sp : Sp} {E : XK} {fe e : Expr} {es : List Expr} {tf : TE} {t : TA} {pos : Pos} (hf : PE X fe tf) (M : HasO X.prog X.w X.K X.mg X.base CX k C ps sp) (hr : Room k X.A) (hx : Passes CX X E) (ha : PA X (e :: es) t)
    (ht : eval (.Call fe (e :: es) [] pos) X.env = (do callWith pos (← eval fe X.env) [] (backTo pos (starEach (e :: es) X.env)) (backToKw pos (keywordEach [] X.env))) := by rfl)
    (he : starEach (e :: es) X.env = (false, eval e X.env) :: starEach es X.env := by rfl) (hpl : (backTo pos (starEach es X.env)).any (·.1) = false := by rfl) : PE X (.Call fe (e :: es) [] pos) (StX.tCallO X C sp E tf t) := by
  obtain ⟨g, fd, c, F, b⟩ := M.ex
  exact StX.pe_callO hf c ((F.raw b .nil).imp fun vs H Q E h => by rw [List.append_nil]; exact h) hr hx ha ht he hpl
/-- word, *rest = a tuple -/
def gStar1 (K : PySem.W.Frag) (t : TGs) : TG := fun v σ H Q => ∃ a x xs, v = .ref a ∧ SqT K H a (x :: xs) ∧ ∀ D, H D = none → t [x, .ref D] σ (upd H D (.lst xs)) Q
theorem pgs_star {e : Expr} {es : List Expr} {t : TG} {u : TGs} {p : Pos} (h1 : PG X e t) (h2 : PGs X es u)
    (hs : (assignEach (.Starred e p :: es) X.env).map (·.2) = assign e X.env :: (assignEach es X.env).map (·.2) := by rfl) : PGs X (.Starred e p :: es) (gCons t u) := by
  refine ⟨fun pins s σ H vs us Q I r h => ?_⟩
  obtain ⟨v, vr, rfl, h⟩ := h
  cases r with
  | cons r rr =>
    rw [hs]
    refine PyProof.Rows.assignInOrder_cons (thn (h1.run pins s σ H _ _ _ I r h) fun _ s1 ⟨σ1, H1, I1, q1⟩ => ?_)
    exact h2.run pins s1 σ1 H1 _ _ Q I1 rr q1
theorem pg_star1 {es : List Expr} {k : Nat} {t : TGs} {pos : Pos} (hc : X.calm = true) (h : PGs X es t)
    (hn : (assignEach es X.env).length = 2 := by rfl) (hst : (assignEach es X.env).findIdx? (·.1) = some 1 := by rfl) : PG X (.Tuple es k pos) (gStar1 X.K t) := by
  refine ⟨fun pins s σ H v u Q I r hw => ?_⟩
  obtain ⟨a, x, xs, rfl, hq, hw⟩ := hw
  cases r
  have hh := I.ok.hd hc
  obtain ⟨its, rv, ht, hz⟩ := I.tuple hq
  obtain ⟨y, ys, rfl, ry, rys⟩ : ∃ y ys, its = y :: ys ∧ RelV x y ∧ Vals xs ys := by
    cases rv with
    | cons a b => exact ⟨_, _, rfl, a, b⟩
  have zs : (y :: ys).toArray.size = ys.length + 1 := by simp
  have lys : ys.length = xs.length := rys.length.symm
  have zl : ys.length + 1 ≤ sizeLine := by
    rw [List.length_cons] at hz
    omega
  have hlt : a ≠ s.heap.objs.size := by obtain ⟨o, ho, _⟩ := ht; exact Nat.ne_of_lt (Heap.lt_size ho)
  rw [PyProof.Rows.assign_Tuple]
  refine wpAny_bind (wpAny_standAt ?_)
  unfold unpack
  rw [hn, hst]
  refine wpAny_bind (wpAny_holding ?_)
  unfold unpackItems
  refine wpAny_bind ?_
  unfold notIterableAtAll
  refine wpAny_bind (wpAny_specialOf ht.typeIs PyProof.Rows.slot_tuple_iter.lookup ?_)
  refine wpAny_pure ?_
  simp only [Bool.false_eq_true, if_false]
  refine wpAny_bind (wpAny_holding (PyProof.Rows.iter_tuple ht ?_))
  refine wpAny_bind (wpAny_holding (PyProof.Rows.draw_tuple hlt 1 0 _ _ ⟨_, Heap.get?_push_size _ rfl, rfl, rfl⟩ (ht.push _) (by omega) fun h₁ hit₁ hs₁ => ?_))
  have ht₁ : PyProof.Rows.IsTup h₁ a (y :: ys).toArray := (ht.push _).extBut hs₁.extBut hlt
  have ei : ∃ oi, h₁.get? s.heap.objs.size = some oi := by obtain ⟨oi, hoi, _⟩ := hit₁; exact ⟨oi, hoi⟩
  obtain ⟨oi, hoi⟩ := ei
  have el : ∃ ol, h₁.get? a = some ol := by obtain ⟨ol, hol, _⟩ := ht₁; exact ⟨ol, hol⟩
  obtain ⟨ol, hol⟩ := el
  rw [if_neg (show ¬ ((List.take 1 (List.drop 0 (y :: ys).toArray.toList)).length < 1) by simp)]
  refine wpAny_bind (wpAny_holding (PySem.W.kun_collect (s := { s with heap := h₁ }) (T := "tuple_iterator") (.inr (.inr (.inr rfl))) (Walks.tuple (A := X.A.in1) hh s.heap.objs.size a hlt (y :: ys).toArray) (fun j u st => st.1.typeIs) (k := 1) (by omega) ⟨hit₁, ht₁⟩ (Heap.lt_size hoi) (Heap.lt_size hol) (fun h₂ tk hk => ?_) (by rw [zs]; exact zl)))
  have he : Heap.ExtBut s.heap.objs.size s.heap h₂ := fun b o hb e => hk b o hb (hs₁.extBut b o hb (Heap.get?_push_of_some _ e))
  have I2 : Inv X pins σ H { s with heap := h₂, toks := tk } := I.kept (t' := tk) fun b o e => he b o (Nat.ne_of_lt (Heap.lt_size e)) e
  have ed : (y :: ys).toArray.toList.drop 1 = ys := by simp
  rw [ed]
  show wpAny _ _ (if ys.length < 2 - 1 - 1 then _ else _) _ _ _
  rw [if_neg (by omega)]
  have et : ys.take (ys.length - (2 - 1 - 1)) = ys := List.take_of_length_le (by omega)
  have edr : ys.drop (ys.length - (2 - 1 - 1)) = [] := List.drop_eq_nil_of_le (by omega)
  show wpAny _ _ (newList (ys.take (ys.length - (2 - 1 - 1))) >>= fun d => pure ([y] ++ [d] ++ ys.drop (ys.length - (2 - 1 - 1)))) _ _ _
  rw [et, edr]
  refine wpAny_bind (wpAny_newList ?_ (by omega))
  refine wpAny_pure ?_
  have hf : H h₂.objs.size = none := I2.hok.fresh (Nat.le_refl _)
  have I3 : Inv X pins σ (upd H h₂.objs.size (.lst xs)) { s with heap := h₂.push { cls := .type "list", data := .seq ys.toArray }, toks := tk } :=
    I2.laid (t' := tk) (fun b u e => Heap.get?_push_of_some _ e) (Nat.le_refl _) ⟨by omega, ys, 0, rys, Heap.get?_push_size _ rfl⟩
  exact h.run pins _ σ _ [x, .ref h₂.objs.size] _ Q I3 (.cons ry (.cons rfl .nil)) (hw _ hf)
end

/-! ### def f(**d), called with keywords alone -/
section
variable {prog : Program} {w : World} {A : Around} {E : Value → Shared → Prop}
theorem ns_one {d : Addr} {s : Shared} {es : List DictEntry} {n : Nat} {k : Str} {v : Value} {Q : Unit → Shared → Prop} (D : s.heap.get? d = some (PySem.W.dictOf es n)) (hs : ∀ e ∈ es, e.key.isStr k = false) (hr : ∀ e ∈ es, e.refKey = false)
    (h : ∀ h' : Heap, h'.get? d = some (PySem.W.dictOf (es ++ [⟨PyData.keyHash w.params k, .str k s.toks, v⟩]) (n + 1)) → (∀ b o, b ≠ d → s.heap.get? b = some o → h'.get? b = some o) → h'.objs.size = s.heap.objs.size → Q () { s with heap := h', toks := s.toks + 1 }) :
    wpAny (model prog w) A (nsSet d k v) Q E s := by
  have e1 : es.any (·.key.isStr k) = false := List.any_eq_false.mpr fun e he => by rw [hs e he]; decide
  have e2 : es.any (·.refKey) = false := List.any_eq_false.mpr fun e he => by rw [hr e he]; decide
  have e : Obj.putName k (PyData.keyHash w.params k) (.str k s.toks) v (PySem.W.dictOf es n) = PySem.W.dictOf (es ++ [⟨PyData.keyHash w.params k, .str k s.toks, v⟩]) (n + 1) := by
    rw [PySem.W.putName_dict, PySem.W.putL_new hs]
    show PySem.W.dictOf _ (if es.any (·.key.isStr k) then n else n + 1) = _
    rw [e1, if_neg Bool.false_ne_true]
  have c : aRefKeyMayBeTheName k es.toArray = false := by
    rw [aRefKeyMayBeTheName_at, ← Array.any_toList, ← Array.any_toList]
    show (!es.any (·.key.isStr k) && es.any (·.refKey)) = false
    rw [e2, Bool.and_false]
  unfold nsSet
  refine wpAny_bind (wpAny_bind (wpAny_askSetting (wpAny_pure (wpAny_bind (wpAny_mkText (wpAny_bind (wpAny_loadPart D ?_)))))))
  dsimp only
  rw [c]
  have e' : (Obj.putName k (PyData.keyHash w.params k) (.str k s.toks) v (PySem.W.dictOf es n)).isFreed = false := by rw [e]; rfl
  refine wpAny_updatePart D (h _ ?_ (fun b o hb q => ?_) ?_)
  · exact (Heap.get?_update_self _ D e').trans (congrArg some e)
  · exact (Heap.get?_update_other _ _ (Ne.symm hb)).trans q
  · exact Heap.size_update _ _ _
theorem ns_fill {d : Addr} {Q : PUnit → Shared → Prop} : ∀ (ex : List (Str × Value)) (s : Shared) (es : List DictEntry) (n : Nat), s.heap.get? d = some (PySem.W.dictOf es n) →
    (∀ e ∈ es, ∀ x ∈ ex, e.key.isStr x.1 = false) → (∀ e ∈ es, e.refKey = false) → (ex.map (·.1)).Nodup →
    (∀ (h' : Heap) (tk : Tok), h'.get? d = some (PySem.W.dictOf (es ++ PySem.W.kwEs w.params s.toks ex) (n + ex.length)) → (∀ b o, b ≠ d → s.heap.get? b = some o → h'.get? b = some o) → h'.objs.size = s.heap.objs.size → Q ⟨⟩ { s with heap := h', toks := tk }) →
    wpAny (model prog w) A (forIn ex PUnit.unit fun x _ => (nsSet d x.1 x.2 >>= fun _ => pure (ForInStep.yield PUnit.unit))) Q E s
  | [], s, es, n, D, _, _, _, h => by
    rw [List.forIn_nil]
    refine wpAny_pure (h s.heap s.toks ?_ (fun _ _ _ q => q) rfl)
    show s.heap.get? d = some (PySem.W.dictOf (es ++ []) n)
    rw [List.append_nil]
    exact D
  | x :: r, s, es, n, D, hs, hr, hn, h => by
    obtain ⟨hn1, hn2⟩ := List.nodup_cons.mp (show (x.1 :: r.map (·.1)).Nodup from hn)
    rw [List.forIn_cons]
    refine wpAny_bind (wpAny_bind (ns_one D (fun e he => hs e he x List.mem_cons_self) hr fun h' D' k' z' => wpAny_pure ?_))
    show wpAny (model prog w) A (forIn r PUnit.unit fun x _ => (nsSet d x.1 x.2 >>= fun _ => pure (ForInStep.yield PUnit.unit))) Q E { s with heap := h', toks := s.toks + 1 }
    refine ns_fill r { s with heap := h', toks := s.toks + 1 } _ _ D' (fun e he y hy => ?_) (fun e he => ?_) hn2 fun h'' tk D'' k'' z'' => ?_
    · rcases List.mem_append.mp he with he | he
      · exact hs e he y (List.mem_cons_of_mem _ hy)
      · rw [List.mem_singleton.mp he]
        exact beq_eq_false_iff_ne.mpr fun q => hn1 (by rw [show x.1 = y.1 from q]; exact List.mem_map_of_mem hy)
    · rcases List.mem_append.mp he with he | he
      · exact hr e he
      · rw [List.mem_singleton.mp he]
        rfl
    · refine h h'' tk ?_ (fun b o hb q => k'' b o hb (k' b o hb q)) (z''.trans z')
      rw [D'', List.append_assoc, show n + 1 + r.length = n + (x :: r).length by rw [List.length_cons]; omega]
      rfl
end
def kwK : List Str → List V → List (Key × V)
  | k :: ks, v :: vs => (Sum.inr k, v) :: kwK ks vs
  | _, _ => []
theorem kwK_len : ∀ (ks : List Str) (vs : List V), (kwK ks vs).length ≤ ks.length
  | [], _ => Nat.zero_le _
  | _ :: _, [] => Nat.zero_le _
  | _ :: ks, _ :: vs => Nat.succ_le_succ (kwK_len ks vs)
def kwV : List Str → List Value → List (Key × Value)
  | k :: ks, v :: vs => (Sum.inr k, v) :: kwV ks vs
  | _, _ => []
theorem kw_kv : ∀ {ks : List Str} {vs : List V} {us : List Value}, Vals vs us → KV (kwK ks vs) (kwV ks us)
  | [], _, _, _ => .nil
  | _ :: _, [], [], _ => .nil
  | _ :: _, _ :: _, _ :: _, .cons r rs => .cons ⟨rfl, r⟩ (kw_kv rs)
theorem kw_pairs {P : Program} {w : World} : ∀ (ks : List Str) (us : List Value) (t : Tok), Pairs (mixKind P w) (PySem.W.kwEs w.params t (ks.zip us)) (kwV ks us)
  | [], _, _ => Pairs.nil
  | _ :: _, [], _ => Pairs.nil
  | k :: ks, _ :: us, t => Pairs.cons (keyIs_str k t) rfl (kw_pairs ks us (t + 1))
theorem kw_keys : ∀ (ks : List Str) (us : List Value), ∀ k ∈ (kwV ks us).map (·.1), ∃ x ∈ ks, k = Sum.inr x
  | [], _, _, h => by cases h
  | _ :: _, [], _, h => by cases h
  | k :: ks, _ :: us, x, h => by
    rcases List.mem_cons.mp h with e | e
    · exact ⟨k, List.mem_cons_self, e⟩
    · obtain ⟨y, hy, e⟩ := kw_keys ks us x e
      exact ⟨y, List.mem_cons_of_mem _ hy, e⟩
theorem kw_nodup : ∀ {ks : List Str} (us : List Value), ks.Nodup → ((kwV ks us).map (·.1)).Nodup
  | [], _, _ => List.nodup_nil
  | _ :: _, [], _ => List.nodup_nil
  | k :: ks, _ :: us, h => by
    obtain ⟨h1, h2⟩ := List.nodup_cons.mp h
    refine List.nodup_cons.mpr ⟨fun q => ?_, kw_nodup us h2⟩
    obtain ⟨y, hy, e⟩ := kw_keys ks us _ q
    exact h1 (by rw [Sum.inr.inj e]; exact hy)
theorem zip_nodup : ∀ {ks : List Str} (us : List Value), ks.Nodup → ((ks.zip us).map (·.1)).Nodup
  | [], _, _ => List.nodup_nil
  | _ :: _, [], _ => List.nodup_nil
  | k :: ks, _ :: us, h => by
    obtain ⟨h1, h2⟩ := List.nodup_cons.mp h
    refine List.nodup_cons.mpr ⟨fun q => ?_, zip_nodup us h2⟩
    obtain ⟨y, hy, e⟩ := List.mem_map.mp q
    have e : y.1 = k := e
    exact h1 (by rw [← e]; exact (List.of_mem_zip hy).1)
/-- the promise of a def called by the keywords ks alone -/
def FnKw (P : Program) (w : World) (K : PySem.W.Frag) (mg : Str → Option Value) (base : Heap) (k : Nat) (f : Addr) (ks : List Str) (sp : Sp) : Prop :=
  ∀ (A : Around) (outer : List Env) (s : Shared) (H : Hp) (us : List Value) (vs : List V) (Q : VK) (E : XK), Room k A → Env0 P w K mg base A outer s H → Vals vs us → us.length = ks.length → sp vs H Q E →
    codeAny (model P w) A (.call (.ref f) ⟨[], ks.zip us⟩) (CR CX0 outer P w H s Q E) s
section
variable {P : Program} {w : World} {K : PySem.W.Frag} {mg : Str → Option Value} {base : Heap}
theorem Fun.okKw {x qual pd : Str} {st : Stmt} {f : Addr} {fd : FuncData} {N ks : List Str} {k : Nat} {sp : Sp} (F : Fun K x qual st f fd) (S : FnScope N [pd] (defScope st)) (hks : ks.Nodup) (hkl : ks.length ≤ 100)
    (hb : ∀ (kV doc pm : Value) (an : Option Addr) (cdv ct : Value) (us : List Value), us.length = ks.length → bindArgs (PySem.W.fnOf x qual (defArgs st) (defBody st) (defScope st) .none kV doc pm an cdv ct) ⟨[], ks.zip us⟩ =
      (alloc ({ cls := .type "dict", data := .dict #[] } : Obj) >>= fun d => (forIn (ks.zip us) PUnit.unit fun x _ => (nsSet d x.1 x.2 >>= fun _ => pure (ForInStep.yield PUnit.unit))) >>= fun _ => pure [(pd, Value.ref d)]))
    (hbody : ∀ (cdv : Value) (A : Around) (outer : List Env) (s : Shared) (H : Hp) (vs : List V) (Q : VK) (E : XK), Room k (A.deeper (PyProof.Rows.envOfC qual (defScope st) s.heap.objs.size f cdv)) → sp vs H Q E →
      ∃ t, PSs (cxOf CX0 P w K mg base N qual (defScope st) f cdv A outer s H E).nox (defBody st) t ∧ t { nx := fun _ H' => Q .non H', rt := Q } (start N vs) H) :
    FnKw P w K mg base (k + 1) f ks (fun vs H Q E => vs.length = ks.length ∧ ∀ p, H p = none → sp [.ref p] (upd H p (.dK (kwK ks vs))) Q E) := by
  intro A outer s H us vs Q E hr e0 r hl hq
  have hq := hq.2
  obtain ⟨oc, od, kV, doc, pm, an, cdv, ct, osl, rfl, lk, hcd⟩ := F.ex
  have hn : H s.heap.objs.size = none := e0.hok.fresh (Nat.le_refl _)
  refine StX.run_bnd lk hcd S hr e0 (G := fun xs H2 => ∃ p, H p = none ∧ xs = [V.ref p] ∧ H2 = upd H p (.dK (kwK ks vs))) (fun A' Ex Q' h => ?_) fun s2 H2 xs ⟨p, hp, ex, eH⟩ hr' => ?_
  · rw [hb kV doc pm an cdv ct us hl]
    refine wpAny_bind (wpAny_alloc ?_)
    have D : (s.heap.push ({ cls := .type "dict", data := .dict #[] } : Obj)).get? s.heap.objs.size = some (PySem.W.dictOf [] 0) := Heap.get?_push_size _ rfl
    refine wpAny_bind (ns_fill (ks.zip us) _ [] 0 D (fun _ he => by cases he) (fun _ he => by cases he) (zip_nodup us hks) fun h' tk D' k' z' => wpAny_pure ?_)
    have kp : ∀ b o, s.heap.get? b = some o → h'.get? b = some o := fun b o e => k' b o (Nat.ne_of_lt (Heap.lt_size e)) (Heap.get?_push_of_some _ e)
    have new : ObjOk P w (upd H s.heap.objs.size (.dK (kwK ks vs))) h' s.heap.objs.size (.dK (kwK ks vs)) := by
      refine ⟨Nat.le_trans (kwK_len _ _) (Nat.le_trans hkl (by decide)), beq_eq_false_iff_ne.mpr (Ne.symm (Nat.ne_of_lt (StX.env0_big e0))), kwV ks us, kw_kv r, _, _, _, D', ⟨rfl, rfl, rfl⟩, rfl, fun e he => ?_, ?_, kw_nodup us hks⟩
      · obtain ⟨y, u, q1, q2⟩ := PySem.W.kwEs_key (ks.zip us) s.toks e (by simpa using he)
        exact ⟨Sum.inr y, by rw [q1]; exact keyIs_str y u, q2.trans rfl⟩
      · simpa using kw_pairs (P := P) ks us s.toks
    have un : Un (frs outer) [] H (upd H s.heap.objs.size (.dK (kwK ks vs))) s.heap h' := Un.laid kp (Nat.le_refl _) hn
    have e2 : Env0 P w K mg base A outer { s with heap := h', toks := tk } (upd H s.heap.objs.size (.dK (kwK ks vs))) := by
      refine ⟨e0.frames, e0.mod, fun b x e => ⟨kp b x (e0.bs b x e).1, ?_⟩, ?_, Heap.FunFrames.of_keeps (fun b x e _ => ⟨x, kp b x e, rfl⟩) e0.funs, fun b hb => ?_, e0.hok.laid kp (Nat.le_refl _) new, e0.bare⟩
      · rw [upd_ne (Nat.ne_of_lt (Heap.lt_size (e0.bs b x e).1))]
        exact (e0.bs b x e).2
      · show base.objs.size ≤ h'.objs.size
        rw [z']
        show base.objs.size ≤ (s.heap.push _).objs.size
        rw [Heap.size_push]
        exact Nat.le_succ_of_le e0.bsz
      · obtain ⟨_, x, hx, _⟩ := e0.funs.mem hb
        rw [upd_ne (Nat.ne_of_lt (Heap.lt_size hx))]
        exact e0.frf b hb
    exact h _ _ [V.ref s.heap.objs.size] [Value.ref s.heap.objs.size] e2 un rfl (fun _ _ z => z) (.cons rfl .nil) rfl ⟨_, hn, rfl, rfl⟩
  · subst ex eH
    obtain ⟨t, h, q⟩ := hbody cdv A outer s2 _ _ Q E hr' (hq p hp)
    exact ⟨t, h.nox, q⟩
end
section
variable {X : Cx}
def tCallKw (sp : Sp) (tk : TA) : TE := fun σ H Q => tk σ H fun zs H2 => sp zs H2 Q E0
theorem pe_callKw {k : Nat} {f : Addr} {ks : List Str} {sp : Sp} {x : Str} {kws : List Keyword} {tk : TA} {p pos : Pos} (F : FnKw X.prog X.w X.K X.mg X.base k f ks sp) (hm : X.mg x = some (.ref f)) (hk : PySem.W.keepIn X.K (.ref f) = true) (hr : Room k X.A) (hg : Gl X x) (hx : Passes CX0 X E0) (hkw : PK X kws tk)
    (hln : kws.length = ks.length := by rfl) (hall : (backToKw pos (keywordEach kws X.env)).all (·.1.isSome) = true := by rfl) (hks : (backToKw pos (keywordEach kws X.env)).filterMap (·.1) = ks := by rfl) (hlen : ∀ vs H Q E, sp vs H Q E → vs.length = ks.length := by exact fun _ _ _ _ h => h.1)
    (hdb : (x == ("__debug__" : Str)) = false := by decide) (hpl : ((backTo pos (starEach [] X.env)).any (·.1) || (backToKw pos (keywordEach kws X.env)).any (·.1.isNone)) = false := by rfl) :
    PE X (.Call (.Name x p) [] kws pos) (tCallKw sp tk) := by
  refine ⟨fun pins s σ H Q I h => ?_⟩
  refine wpAny_Call_Name_kw (ld_glob I hg hm ?_ hdb)
  refine PySem.W.callWith_KW0 (h₀ := X.base) I.ok.mod.kin hk hall (thn (hkw.run pos pins s σ H _ I h) fun us s1 ⟨vs, H1, I1, r, q⟩ => ⟨I1.kIn, ?_⟩) hpl
  rw [hks]
  refine wpAny_call (codeAny_mono (F X.A X.stack s1 H1 us vs Q E0 hr I1.env0 r (r.length.symm.trans (hlen _ _ _ _ q)) q) fun r s' hq => ?_)
  cases r with
  | error e => exact hx pins σ H1 s1 e s' I1 hq
  | ok fl =>
    cases fl with
    | ret u => exact I1.after hq
    | next => exact False.elim hq
    | brk => exact False.elim hq
    | cont => exact False.elim hq
end

/-! ### tuple == tuple, whose items are flat or instances with an own __eq__: both answers -/
section
open PySem.SeqAt MeetsSeq MeetsSeq2 MeetsSeq3 SeqRoads2
variable {prog : Program} {w : World} {A : Around} {R : Result → Shared → Prop}
theorem tuple_eqB (l b : Addr) (items items2 : Array Value) (n n2 : Nat) (dd dd2 : Option Addr) (sl sl2 : Array (Option Value)) (I : Nat → Shared → Prop)
    (turn : ∀ i (h1 : i < items.size) (h2 : i < items2.size) s, I i s → wpAny (model prog w) A.in1 (eqBool items[i] items2[i]) (fun r s' => (r = true ∧ I (i + 1) s') ∨ (r = false ∧ R (.ok (.ret (.bool false))) s')) (fun e s' => R (.error e) s') s)
    (fin : ∀ s, I (min items.size items2.size) s → R (.ok (.ret (.bool (items.size == items2.size)))) s) {s : Shared} (hl1 : s.heap.get? l = some { cls := .type "tuple", dict := dd, data := .seq items n, slots := sl }) (hb1 : s.heap.get? b = some { cls := .type "tuple", dict := dd2, data := .seq items2 n2, slots := sl2 }) (h : I 0 s) :
    wpAny (model prog w) A.in1 (Builtin.«tuple.__eq__» ⟨[.ref l, .ref b], []⟩) (GQ.FinOf prog w A R) (fun e s' => R (.error e) s') s := by
  have f2 := AutoSeq1.sub_tuple_tuple
  have hZ : (items.toList.zip items2.toList).length = min items.size items2.size := by simp
  have h0 := h
  obtain ⟨hp, g, d, tk, os⟩ := s
  wp_walk using AutoSeq1.wpAny_loadPart' hl1, AutoSeq1.wpAny_loadPart' hb1, wpAny_forIn_list _ (fun rest b s' => b.1 = none ∧ ∃ i, rest = (items.toList.zip items2.toList).drop i ∧ i ≤ min items.size items2.size ∧ I i s') _
  case turn =>
    rintro ⟨y, x⟩ rest b s' ⟨hb', i, hz, hi, hI⟩
    have hlt : i < (items.toList.zip items2.toList).length := by
      rcases Nat.lt_or_ge i (items.toList.zip items2.toList).length with h' | h'
      · exact h'
      · rw [List.drop_of_length_le h'] at hz; cases hz
    have h12 : i < min items.size items2.size := hZ ▸ hlt
    have h1 : i < items.size := by omega
    have h2 : i < items2.size := by omega
    rw [List.drop_eq_getElem_cons hlt] at hz
    injection hz with hyx hrest
    have hy : y = items[i] := by have := congrArg Prod.fst hyx; simpa using this
    have hx : x = items2[i] := by have := congrArg Prod.snd hyx; simpa using this
    subst hy hx
    refine wpAny_bind (wpAny_mono (turn i h1 h2 s' hI) (fun r s2 q2 => ?_) fun _ _ x => x)
    rcases q2 with ⟨hr, q2⟩ | ⟨hr, q2⟩
    · subst hr
      wp_walk
      exact ⟨rfl, i + 1, hrest, by omega, q2⟩
    · subst hr
      wp_walk
      exact q2
  case fin =>
    rintro ⟨b1, b2⟩ s' ⟨hb', i, hz, hi, hI⟩
    simp only at hb'
    subst hb'
    have hge : min items.size items2.size ≤ i := by
      rcases Nat.lt_or_ge i (items.toList.zip items2.toList).length with h' | h'
      · rw [List.drop_eq_getElem_cons h'] at hz; cases hz
      · exact hZ ▸ h'
    have hi' : i = min items.size items2.size := by omega
    have hR := fin s' (hi' ▸ hI)
    wp_walk
    exact hR
  case h =>
    exact ⟨rfl, 0, rfl, Nat.zero_le _, h0⟩
theorem rc_tupB {E : Value → Shared → Prop} {s : Shared} {l b : Addr} {items items2 : Array Value} {Q : Value → Shared → Prop} (hu : A.units < cLine) (I : Nat → Shared → Prop) (hl : s.heap.IsTuple l items) (hb : s.heap.IsTuple b items2)
    (turn : ∀ i (h1 : i < items.size) (h2 : i < items2.size) s, I i s → wpAny (model prog w) A.in1 (eqBool items[i] items2[i]) (fun r s' => (r = true ∧ I (i + 1) s') ∨ (r = false ∧ Q (.bool false) s')) E s)
    (fin : ∀ s, I (min items.size items2.size) s → Q (.bool (items.size == items2.size)) s) (h : I 0 s) : wpAny (model prog w) A (richCompare .Eq (.ref l) (.ref b)) Q E s := by
  obtain ⟨⟨cls, dd, data, sl⟩, ho, hc, n, hd⟩ := id hl
  obtain ⟨⟨cls2, dd2, data2, sl2⟩, ho2, hc2, n2, hd2⟩ := id hb
  simp only at hc hd hc2 hd2
  subst hc hd hc2 hd2
  refine wpAny_richCompare_same_room (op := .Eq) ⟨_, ho, rfl⟩ ⟨_, ho2, rfl⟩ F.slot_tuple_eq (GQ.call_here F.slot_tuple_eq ⟨_, ho, rfl⟩ F.entry_tuple_eq (F.args_tuple_eq_2 _ _) ?_) hu
  refine tuple_eqB (R := wants (fun v s' => v ≠ .notImplemented ∧ Q v s') E) l b items items2 n n2 dd dd2 sl sl2 I (fun i h1 h2 s' hI => wpAny_mono (turn i h1 h2 s' hI) (fun r s2 q => ?_) fun _ _ z => z) (fun s' q => ⟨(fun x => nomatch x), fin s' q⟩) ho ho2 h
  rcases q with q | ⟨q1, q2⟩
  · exact .inl q
  · exact .inr ⟨q1, ⟨(fun x => nomatch x), q2⟩⟩
end

/-! ### the pool: _law_pool, _law_mixed, _law_draw -/
abbrev sMixed : Stmt := topS 26
abbrev NMixed : List Str := ["_law_number", "_law_count", "_law_many"]
abbrev PMixed : List Str := ["_law_number", "_law_count", "_law_many"]
theorem scMixed : FnScope NMixed PMixed (defScope sMixed) := ⟨rfl, rfl, rfl, by decide +kernel, rfl, by decide +kernel, by decide +kernel⟩
abbrev sDraw : Stmt := topS 27
abbrev NDraw : List Str := ["_law_pool_here", "_law_many", "_law_at", "_law_cells", "_law_cell"]
abbrev PDraw : List Str := ["_law_pool_here", "_law_many"]
theorem scDraw : FnScope NDraw PDraw (defScope sDraw) := ⟨rfl, rfl, rfl, by decide +kernel, rfl, by decide +kernel, by decide +kernel⟩
abbrev sPool : Stmt := topS 25
abbrev NPool : List Str := ["_law_script", "_law_cells", "_law_cell", "_law_seed"]
abbrev PPool : List Str := ["_law_script"]
theorem scPool : FnScope NPool PPool (defScope sPool) := ⟨rfl, rfl, rfl, by decide +kernel, rfl, by decide +kernel, by decide +kernel⟩
/-- the pool at p, its cells at c; lim is its last item; at most n draws so far -/
def PoolAt (H : Hp) (p c : Addr) (lim : V) (n : Nat) : Prop :=
  ∃ (i : Nat) (cells : List Int) (cnt seed mode : Int), H p = some (.lst [.ref c, .int (i : Int), .int cnt, .int seed, .int mode, lim]) ∧ H c = some (.lst (cells.map V.int)) ∧
    i ≤ cells.length ∧ 0 ≤ cnt ∧ cnt ≤ (n : Int) ∧ 0 ≤ seed ∧ seed < 2147483647
def spMixed : Sp := fun vs H Q _ => ∃ (n c m : Int), vs = [.int n, .int c, .int m] ∧ 0 ≤ n ∧ n < 2147483647 ∧ 0 ≤ c ∧ c ≤ 1000000000000 ∧ 0 < m ∧ ∀ r : Int, 0 ≤ r → r < m → Q (.int r) H
def spDraw : Sp := fun vs H Q _ => ∃ (p c : Addr) (lim : V) (n : Nat) (m : Int), vs = [.ref p, .int m] ∧ PoolAt H p c lim n ∧ n < 1000000000000 ∧ 0 < m ∧ m ≤ 1000000000000000000 ∧
  ∀ (r : Int) (H' : Hp), 0 ≤ r → r < m → PoolAt H' p c lim (n + 1) → But p c H H' → Q (.int r) H'
def spPool (K : PySem.W.Frag) : Sp := fun vs H Q _ => ∃ (a : Addr) (ns : List Int), vs = [.ref a] ∧ SqL K H a (ns.map V.int) ∧ ns.length ≤ 63 ∧
  ∀ (p c : Addr) (H' : Hp), Same H H' → H p = none → H c = none → PoolAt H' p c (.int 30) 0 → Q (.ref p) H'
structure TxPool (mg : Str → Option Value) : Prop where
  n_int : mg "int" = none
  n_len : mg "len" = none
theorem pool_ne {H : Hp} {p c : Addr} {xs : List V} {cells : List Int} (hp : H p = some (.lst (.ref c :: xs))) (hc : H c = some (.lst (cells.map V.int))) : p ≠ c := ne_of hp hc (by
  intro z
  injection z with z
  cases cells with
  | nil => cases z
  | cons a r => injection z with z _; cases z)
theorem pow_lt {n c : Int} (h1 : 0 ≤ n) (h2 : n < 2147483647) (h3 : 0 ≤ c) (h4 : c ≤ 1000000000000) : (n + 7919 * c).natAbs < 2 ^ 64 := by
  have : (2 : Nat) ^ 64 = 18446744073709551616 := by decide
  omega
theorem m63 {m : Int} (h0 : 0 < m) (h1 : m ≤ 1000000000000000000) : m.natAbs < 2 ^ 63 := by
  have : (2 : Nat) ^ 63 = 9223372036854775808 := by decide
  omega
theorem set_ints (cells : List Int) (j : Nat) (z : Int) : (cells.map V.int).set j (V.int z) = (cells.set j z).map V.int := by
  rw [List.map_set]
theorem same_new {H : Hp} {p : Addr} {o : HO} (h : H p = none) : Same H (upd H p o) := fun b x e => by
  rw [upd_ne (ne_of_none e h)]
  exact e
theorem atI_in {α : Type} {xs : List α} {i : Int} (h0 : 0 ≤ i) (h1 : i < xs.length) : ∃ v, atI xs i = some v ∧ v ∈ xs := by
  have h : i.toNat < xs.length := by omega
  refine ⟨xs[i.toNat], ?_, List.getElem_mem h⟩
  have e : i = ((i.toNat : Nat) : Int) := by omega
  have q := atI_nat (xs := xs) (j := i.toNat) (v := xs[i.toNat]) (by simp [h])
  rw [← e] at q
  exact q
theorem PoolAt.same {H H' : Hp} {p c : Addr} {lim : V} {n : Nat} (h : PoolAt H p c lim n) (s : Same H H') : PoolAt H' p c lim n := by
  obtain ⟨i, cs, cn, sd, md, e1, e2, e⟩ := h
  exact ⟨i, cs, cn, sd, md, s _ _ e1, s _ _ e2, e⟩
theorem PoolAt.ne1 {H : Hp} {p c q : Addr} {lim : V} {n : Nat} (h : PoolAt H p c lim n) (hq : H q = none) : q ≠ p := fun z => by
  obtain ⟨_, _, _, _, _, e, _⟩ := h
  rw [z, e] at hq
  cases hq
theorem PoolAt.ne2 {H : Hp} {p c q : Addr} {lim : V} {n : Nat} (h : PoolAt H p c lim n) (hq : H q = none) : q ≠ c := fun z => by
  obtain ⟨_, _, _, _, _, _, e, _⟩ := h
  rw [z, e] at hq
  cases hq
theorem str_app_len (a b : Str) : (a ++ b : Str).length = a.length + b.length := by
  show (a.cps ++ b.cps).size = a.cps.size + b.cps.size
  exact Array.size_append
theorem PoolAt.mono {H : Hp} {p c : Addr} {lim : V} {n m : Nat} (h : PoolAt H p c lim n) (hm : n ≤ m) : PoolAt H p c lim m := by
  obtain ⟨i, cs, cn, sd, md, e1, e2, e3, e4, e5, e⟩ := h
  exact ⟨i, cs, cn, sd, md, e1, e2, e3, e4, by omega, e⟩
theorem PoolAt.upd {H : Hp} {p c q : Addr} {lim : V} {n : Nat} {o : HO} (h : PoolAt H p c lim n) (h1 : q ≠ p) (h2 : q ≠ c) : PoolAt (upd H q o) p c lim n := by
  obtain ⟨i, cs, cn, sd, md, e1, e2, e⟩ := h
  exact ⟨i, cs, cn, sd, md, by rw [upd_ne h1.symm]; exact e1, by rw [upd_ne h2.symm]; exact e2, e⟩
section
variable {P : Program} {w : World} {K : PySem.W.Frag} {mg : Str → Option Value} {base : Heap}
theorem ok_Mixed {f : Addr} {fd : FuncData} (F : Fun K "_law_mixed" "_law_mixed" sMixed f fd) (T : TxPool mg) : FnOk P w K mg base CX0 1 f fd PMixed spMixed := by
  refine F.ok scMixed (fun vs H Q E h => ?_) (fun cdv A outer s H vs Q E hr h => ?_)
  · obtain ⟨n, c, m, rfl, _⟩ := h
    rfl
  · obtain ⟨n, c, m, rfl, n0, n1, c0, c1, m0, k⟩ := h
    refine ⟨_, (pss_one (ps_ret (pe_op op_mod (pe_op op_fdiv (pe_callTy call_int1 (by rfl) T.n_int bb_int (pa_cons (pe_op op_mod (pe_op op_pow (pe_callTy call_int1 (by rfl) T.n_int bb_int (pa_cons (pe_op op_add (pv 0) (pe_op op_mul pe_int (pv 1))) pa_nil)) pe_int) pe_int) pa_nil)) pe_int) (pv 2)))), ?_⟩
    refine ⟨_, rfl, _, rfl, _, _, rfl, rfl, .inl ⟨by decide, by decide⟩, _, _, rfl, rfl, .inl ⟨_, rfl, ?_⟩⟩
    refine ⟨_, _, rfl, rfl, ⟨by decide, by decide, pow_lt n0 n1 c0 c1⟩, _, _, rfl, rfl, (show (0 : Int) < 2147483647 by decide), .inl ⟨_, rfl, ?_⟩⟩
    refine ⟨_, _, rfl, rfl, ⟨by decide, by decide⟩, _, rfl, _, _, rfl, rfl, m0, ?_⟩
    exact k _ (Int.emod_nonneg _ (by omega)) (Int.emod_lt_of_pos _ m0)
theorem ok_Draw {f : Addr} {fd : FuncData} (F : Fun K "_law_draw" "_law_draw" sDraw f fd) (T : TxPool mg) (GM : Has P w K mg base CX0 1 "_law_mixed" PMixed spMixed) :
    FnOk P w K mg base CX0 2 f fd PDraw spDraw := by
  refine F.ok scDraw (fun vs H Q E h => ?_) (fun cdv A outer s H vs Q E hr h => ?_)
  · obtain ⟨p, c, lim, n, m, rfl, _⟩ := h
    rfl
  · obtain ⟨p, c, lim, n, m, rfl, ⟨i, cells, cnt, seed, mode, hp, hc, hi, c0, c1, s0, s1⟩, hn, m0, m1, k⟩ := h
    have npc : p ≠ c := pool_ne hp hc
    refine ⟨_, (pss_cons (ps_asg (pe_op op_add (pe_ix (r := rIxL K) ix_list (pv 0) pe_int (fun _ _ => rfl)) pe_int) (pg_sub (pv 0) pe_int set_list))
  (pss_cons (ps_if (pt_cmpR op_ge (pe_ix (r := rIxL K) ix_list (pv 0) pe_int (fun _ _ => rfl)) (pe_callB call_len_seq (by rfl) T.n_len bb_len (pa_cons (pe_ix (r := rIxL K) ix_list (pv 0) pe_int (fun _ _ => rfl)) pa_nil)) (nomark _))
  (pss_one (ps_ret (pe_callH GM hr rfl pass0 (pa_cons (pe_ix (r := rIxL K) ix_list (pv 0) pe_int (fun _ _ => rfl)) (pa_cons (pe_ix (r := rIxL K) ix_list (pv 0) pe_int (fun _ _ => rfl)) (pa_cons (pv 1) pa_nil))))))
  pss_nil)
  (pss_cons (ps_set (i := 2) scDraw.nd rfl (Or.inl rfl) (pe_ix (r := rIxL K) ix_list (pv 0) pe_int (fun _ _ => rfl)))
  (pss_cons (ps_set (i := 3) scDraw.nd rfl (Or.inl rfl) (pe_ix (r := rIxL K) ix_list (pv 0) pe_int (fun _ _ => rfl)))
  (pss_cons (ps_set (i := 4) scDraw.nd rfl (Or.inl rfl) (pe_ix (r := rIxL K) ix_list (pv 3) (pv 2) (fun _ _ => rfl)))
  (pss_cons (ps_if (PW.pt (pw_and (pt_cmpR op_ne (pe_ix (r := rIxL K) ix_list (pv 0) pe_int (fun _ _ => rfl)) pe_int (nomark _)) (pw_and1 (pt_cmpR op_lt (pv 4) (pe_op op_pow pe_int pe_int) (nomark _)))))
  (pss_cons (ps_asg (pe_op op_add (pe_ix (r := rIxL K) ix_list (pv 0) pe_int (fun _ _ => rfl)) pe_int) (pg_sub (pv 0) pe_int set_list))
  (pss_cons (ps_if (pt_cmpR op_eq (pe_ix (r := rIxL K) ix_list (pv 0) pe_int (fun _ _ => rfl)) pe_int (nomark _))
  (pss_cons (ps_asg (pe_op op_add (pv 2) pe_int) (pg_sub (pv 0) pe_int set_list))
  (pss_one (ps_asg pe_int (pg_sub (pv 0) pe_int set_list))))
  pss_nil)
  (pss_one (ps_ret (pe_callH GM hr rfl pass0 (pa_cons (pe_op op_mod (pe_callTy call_int1 (by rfl) T.n_int bb_int (pa_cons (pv 4) pa_nil)) pe_int) (pa_cons (pe_ix (r := rIxL K) ix_list (pv 0) pe_int (fun _ _ => rfl)) (pa_cons (pv 1) pa_nil))))))))
  pss_nil)
  (pss_cons (ps_asg pe_int (pg_sub (pv 0) pe_int set_list))
  (pss_cons (ps_asg (pe_op op_fdivW (pe_callTy call_int1 (by rfl) T.n_int bb_int (pa_cons (pv 4) pa_nil)) (pv 1)) (pg_sub (pv 3) (pv 2) set_list))
  (pss_cons (ps_if (pt_cmpR op_eq (pe_ix (r := rIxL K) ix_list (pv 3) (pv 2) (fun _ _ => rfl)) pe_int (nomark _))
  (pss_cons (ps_asg (pe_op op_add (pv 2) pe_int) (pg_sub (pv 0) pe_int set_list))
  (pss_one (ps_asg pe_int (pg_sub (pv 0) pe_int set_list))))
  pss_nil)
  (pss_one (ps_ret (pe_op op_mod (pe_callTy call_int1 (by rfl) T.n_int bb_int (pa_cons (pv 4) pa_nil)) (pv 1))))))))))))), ?_⟩
    -- pool[2] = pool[2] + 1
    refine ⟨_, rfl, p, _, _, _, rfl, rfl, SqL.of hp, rfl, _, _, rfl, rfl, _, rfl, p, _, _, _, rfl, rfl, hp, rfl, ?_⟩
    have st : ∀ (i' : Nat) (md : Int) (cs : List Int), i' ≤ cs.length → ∀ H' : Hp, H' p = some (.lst [.ref c, .int (i' : Int), .int (cnt + 1), .int seed, .int md, lim]) → H' c = some (.lst (cs.map V.int)) → PoolAt H' p c lim (n + 1) :=
      fun i' md cs hl H' a b => ⟨i', cs, cnt + 1, seed, md, a, b, hl, by omega, by omega, s0, s1⟩
    have ac : ∀ {H' : Hp} {o : HO} {x : HO}, H' c = some x → upd H' p o c = some x := fun e => by rw [upd_ne npc.symm]; exact e
    have ap : ∀ {H' : Hp} {o : HO} {x : HO}, H' p = some x → upd H' c o p = some x := fun e => by rw [upd_ne npc]; exact e
    have kq : ∀ {H' : Hp} {o : HO}, But p c H H' → But p c H (upd H' p o) := fun b x o e hb hx => by rw [upd_ne hb]; exact b x o e hb hx
    have kc : ∀ {H' : Hp} {o : HO}, But p c H H' → But p c H (upd H' c o) := fun b x o e hb hx => by rw [upd_ne hx]; exact b x o e hb hx
    -- if pool[1] >= len(pool[0])
    refine ⟨_, rfl, p, _, _, _, rfl, rfl, SqL.of upd_same, rfl, _, rfl, p, _, _, _, rfl, rfl, SqL.of upd_same, rfl, c, _, rfl, .inl (SqL.of (ac hc)), _, _, rfl, rfl, _, rfl, ?_⟩
    refine ite2 (fun hge => ?_) (fun hlt => ?_)
    · refine ⟨_, rfl, p, _, _, _, rfl, rfl, SqL.of upd_same, rfl, _, rfl, p, _, _, _, rfl, rfl, SqL.of upd_same, rfl, _, rfl, seed, cnt + 1, m, rfl, s0, s1, by omega, by omega, m0, fun r r0 r1 => ?_⟩
      exact k r _ r0 r1 (st i mode cells hi _ upd_same (ac hc)) (kq But.refl)
    · have hil : i < cells.length := by
        have z : ¬ ((cells.map V.int).length : Int) ≤ (i : Int) := fun z => hlt (decide_eq_true z)
        rw [List.length_map] at z
        omega
      obtain ⟨cell, hcell⟩ : ∃ z, cells[i]? = some z := ⟨cells[i], by simp [hil]⟩
      have hcV : (cells.map V.int)[i]? = some (V.int cell) := by rw [List.getElem?_map, hcell]; rfl
      -- at, cells, cell
      refine ⟨_, rfl, p, _, _, _, rfl, rfl, SqL.of upd_same, rfl, ?_⟩
      refine ⟨_, rfl, p, _, _, _, rfl, rfl, SqL.of upd_same, rfl, ?_⟩
      refine ⟨_, rfl, _, rfl, c, _, _, _, rfl, rfl, SqL.of (ac hc), atI_nat hcV, ?_⟩
      -- if pool[4] != 2 and cell < 10 ** 18
      refine ⟨_, rfl, p, _, _, _, rfl, rfl, SqL.of upd_same, rfl, rfl, _, rfl, ?_⟩
      refine ite2 (fun h2 => ?gA) (fun h2 => iteF ?gB)
      case' gA => refine ⟨_, rfl, _, _, rfl, rfl, ⟨by decide, by decide, by decide⟩, _, _, rfl, rfl, _, rfl, ite2 (fun h3 => ?gD) (fun h3 => ?gC)⟩
      case gD =>
        refine ⟨_, rfl, p, _, _, _, rfl, rfl, SqL.of upd_same, rfl, _, _, rfl, rfl, _, rfl, p, _, _, _, rfl, rfl, upd_same, rfl, ?_⟩
        refine ⟨_, rfl, p, _, _, _, rfl, rfl, SqL.of upd_same, rfl, rfl, _, rfl, ite2 (fun h4 => ?_) (fun h4 => ?_)⟩
        · refine ⟨_, rfl, _, _, rfl, rfl, _, rfl, p, _, _, _, rfl, rfl, upd_same, rfl, ?_⟩
          refine ⟨_, rfl, p, _, _, _, rfl, rfl, upd_same, rfl, ?_⟩
          refine ⟨_, rfl, .inl ⟨_, rfl, _, _, rfl, rfl, (show (0 : Int) < 2147483647 by decide), _, rfl, p, _, _, _, rfl, rfl, SqL.of upd_same, rfl, _, rfl, _, cnt + 1, m, rfl, Int.emod_nonneg _ (by decide), Int.emod_lt_of_pos _ (by decide), by omega, by omega, m0, fun r r0 r1 => ?_⟩⟩
          exact k r _ r0 r1 (st (i + 1) 0 cells (by omega) _ upd_same (ac (ac (ac (ac hc))))) (kq (kq (kq (kq But.refl))))
        · refine ⟨_, rfl, .inl ⟨_, rfl, _, _, rfl, rfl, (show (0 : Int) < 2147483647 by decide), _, rfl, p, _, _, _, rfl, rfl, SqL.of upd_same, rfl, _, rfl, _, cnt + 1, m, rfl, Int.emod_nonneg _ (by decide), Int.emod_lt_of_pos _ (by decide), by omega, by omega, m0, fun r r0 r1 => ?_⟩⟩
          exact k r _ r0 r1 (st i (mode + 1) cells (by omega) _ upd_same (ac (ac hc))) (kq (kq But.refl))
      all_goals
        -- pool[4] = 2; cells[at] = int(cell) // many
        refine ⟨_, rfl, p, _, _, _, rfl, rfl, upd_same, rfl, ?_⟩
        have hix : ixN (cells.map V.int).length (i : Int) = some i := by
          unfold ixN
          rw [List.length_map, if_pos (by omega), if_pos (by omega), Int.toNat_natCast]
        refine ⟨_, rfl, .inl ⟨_, rfl, _, rfl, _, _, rfl, rfl, wide_div m0 (m63 m0 m1) (by decide) (by decide), _, rfl, _, rfl, c, _, _, i, rfl, rfl, ac (ac hc), hix, ?_⟩⟩
        rw [set_ints]
        have hcW : ((cells.set i (cell / m)).map V.int)[i]? = some (V.int (cell / m)) := by
          rw [List.getElem?_map, List.getElem?_set_self hil]; rfl
        have hlen : (cells.set i (cell / m)).length = cells.length := List.length_set
        refine ⟨_, rfl, _, rfl, c, _, _, _, rfl, rfl, SqL.of upd_same, atI_nat hcW, rfl, _, rfl, ite2 (fun h4 => ?_) (fun h4 => ?_)⟩
        · refine ⟨_, rfl, _, _, rfl, rfl, _, rfl, p, _, _, _, rfl, rfl, ap upd_same, rfl, ?_⟩
          refine ⟨_, rfl, p, _, _, _, rfl, rfl, upd_same, rfl, ?_⟩
          refine ⟨_, rfl, .inl ⟨_, rfl, _, rfl, _, _, rfl, rfl, m0, ?_⟩⟩
          exact k _ _ (Int.emod_nonneg _ (by omega)) (Int.emod_lt_of_pos _ m0) (st (i + 1) 0 _ (by omega) _ upd_same (ac (ac upd_same))) (kq (kq (kc (kq (kq But.refl)))))
        · refine ⟨_, rfl, .inl ⟨_, rfl, _, rfl, _, _, rfl, rfl, m0, ?_⟩⟩
          exact k _ _ (Int.emod_nonneg _ (by omega)) (Int.emod_lt_of_pos _ m0) (st i 2 _ (by omega) _ (ap upd_same) upd_same) (kc (kq (kq But.refl)))
/-! _law_pool -/
theorem cut63 {ns : List Int} (h : ns.length ≤ 63) : cutV (ns.map V.int) none (some 63) = ns.map V.int := by
  unfold cutV
  rw [HT.sIx_none, show HT.sIx (ns.map V.int).length (ns.map V.int).length (some 63) = min 63 (ns.map V.int).length from HT.sIx_nat _ _ 63]
  rw [List.length_map, List.drop_zero, List.take_of_length_le]
  rw [List.length_map]
  omega
theorem int_at {ns : List Int} {i : Nat} {x : V} (h : (ns.map V.int)[i]? = some x) : ∃ z, ns[i]? = some z ∧ x = V.int z := by
  rw [List.getElem?_map] at h
  cases e : ns[i]? with
  | none => rw [e] at h; cases h
  | some z => rw [e] at h; exact ⟨z, rfl, (Option.some.inj h).symm⟩
theorem take_snoc {α : Type} {l : List α} {i : Nat} {z : α} (h : l[i]? = some z) : l.take (i + 1) = l.take i ++ [z] := by
  rw [List.take_succ, h]; rfl
theorem ok_Pool {f : Addr} {fd : FuncData} (F : Fun K "_law_pool" "_law_pool" sPool f fd) (T : TxPool mg) : FnOk P w K mg base CX0 1 f fd PPool (spPool K) := by
  refine F.ok scPool (fun vs H Q E h => ?_) (fun cdv A outer s H vs Q E hr h => ?_)
  · obtain ⟨a, ns, rfl, _⟩ := h
    rfl
  · obtain ⟨a, ns, rfl, hS, hlen, k⟩ := h
    refine ⟨_, (pss_cons (ps_setLc (i := 1) (own := [("_law_cell", 2)]) (g := gName 2) (tt := tYes) rfl scPool.nd rfl rfl (sw_true rfl rfl rfl (by decide +kernel)) (pi_list (pe_slice sl_list (pv 0) po_none (po_some pe_int))) (blkOk_by (own := [("_law_cell", 2)]) (N := NPool) (sc := (defScope sPool)) (by decide +kernel)) (fun _ _ _ _ _ => (pg_name (i := 2) scPool.nd rfl (Or.inl rfl))) (fun _ _ _ _ _ => pts_nil) (fun _ _ _ _ _ => (pe_callTy call_int1 (by rfl) T.n_int bb_int (pa_cons (pv 2) pa_nil))))
  (pss_cons (ps_set (i := 3) scPool.nd rfl (Or.inl rfl) pe_int)
  (pss_cons (ps_for PassesOwn.never rfl (pi_list (pv 1)) (pg_name (i := 2) scPool.nd rfl (Or.inl rfl))
  (pss_one (ps_set (i := 3) scPool.nd rfl (Or.inl rfl) (pe_op op_mod (pe_callTy call_int1 (by rfl) T.n_int bb_int (pa_cons (pe_op op_add (pe_op op_mul (pv 3) pe_int) (pv 2)) pa_nil)) pe_int))))
  (pss_one (ps_ret (pe_lst (pa_cons (pv 1) (pa_cons pe_int (pa_cons pe_int (pa_cons (pv 3) (pa_cons pe_int (pa_cons pe_int pa_nil)))))))))))), ?_⟩
    refine ⟨_, rfl, 63, rfl, a, _, rfl, hS, fun q hq => ⟨q, rfl, ⟨_, SqL.of upd_same⟩, fun D hD => ?_⟩⟩
    rw [cut63 hlen] at *
    have nqD : q ≠ D := fun z => by rw [z, upd_same] at hD; cases hD
    have hD0 : H D = none := by rw [← hD, upd_ne (Ne.symm nqD)]
    refine lc_list (K := K) (a := q) (xs := ns.map V.int) (fun i H' => Same H H' ∧ H' q = some (.lst (ns.map V.int)) ∧ H' D = some (.lst ((ns.take i).map V.int))) ?_ ?_ ?_ ?_
    · exact ⟨fun b o e => by rw [upd_ne (ne_of_none e hD0), upd_ne (ne_of_none e hq)]; exact e, by rw [upd_ne nqD, upd_same], upd_same⟩
    · exact fun i H' _ h' => SqL.of h'.2.1
    · rintro i x H' hx ⟨s1, q1, d1⟩
      obtain ⟨z, hz, rfl⟩ := int_at hx
      refine ⟨rfl, _, rfl, .inl ⟨_, rfl, _, d1, ?_, ?_⟩⟩
      · exact small1000 (by rw [List.length_map, List.length_take]; omega)
      · refine ⟨fun b o e => by rw [upd_ne (ne_of_none e hD0)]; exact s1 b o e, by rw [upd_ne nqD]; exact q1, ?_⟩
        rw [upd_same, take_snoc hz, List.map_append]
        rfl
    · rintro H1 ⟨s1, q1, d1⟩
      rw [List.length_map, List.take_length] at d1
      -- seed = 11; the loop
      refine ⟨_, rfl, D, rfl, ⟨_, SqL.of d1⟩, for_list (K := K) (a := D) (xs := ns.map V.int) (fun i σ H' => ∃ (x : Option V) (z : Int), σ = [some (.ref a), some (.ref D), x, some (.int z)] ∧ 0 ≤ z ∧ z < 2147483647 ∧ H' = H1)
        ⟨none, 11, rfl, by decide, by decide, rfl⟩ (fun i σ H' _ ⟨_, _, _, _, _, e⟩ => by rw [e]; exact SqL.of d1) ?_ ?_⟩
      · rintro i x σ H' hx ⟨y, z, rfl, z0, z1, rfl⟩
        obtain ⟨u, hu, rfl⟩ := int_at hx
        refine ⟨_, rfl, _, _, rfl, rfl, .inr ⟨by decide, by decide⟩, _, rfl, _, _, rfl, rfl, .inl ⟨_, rfl, _, _, rfl, rfl, (show (0 : Int) < 2147483647 by decide), ?_⟩⟩
        exact ⟨_, _, rfl, Int.emod_nonneg _ (by decide), Int.emod_lt_of_pos _ (by decide), rfl⟩
      · rintro σ H' ⟨y, z, rfl, z0, z1, rfl⟩
        refine ⟨_, rfl, _, rfl, (by show 6 ≤ sizeLine; decide), fun p hp => ?_⟩
        have npD : D ≠ p := ne_of_none d1 hp
        refine k p D _ (s1.trans (same_new hp)) (s1.free hp) hD0 ⟨0, ns, 0, z, 0, upd_same, by rw [upd_ne npD]; exact d1, Nat.zero_le _, by decide, by decide, z0, z1⟩
end

def LET : Str := "abcdefghijklmnopqrstuvwxyz"
def DIG : Str := "0123456789"
def KWS : List Str := ["globals", "kinds", "keep", "def", "if", "else", "while", "risk", "raise", "try", "except", "finally", "undo", "with", "swallow", "return"]
def al (c : Nat) : Bool := decide (c ∈ LET.cps.toList) || decide (c ∈ DIG.cps.toList)

/-! of lcs.tpl: what the texts need -/
theorem Paired.snocP {α β : Type} {F : α → β → Prop} : ∀ {l₁ : List α} {l₂ : List β} {a : α} {b : β}, Paired F l₁ l₂ → F a b → Paired F (l₁ ++ [a]) (l₂ ++ [b])
  | _, _, _, _, .nil, h => .cons h .nil
  | _, _, _, _, .cons r t, h => .cons r (Paired.snocP t h)
theorem Paired.at {α β : Type} {F : α → β → Prop} {xs : List α} {ys : List β} (hp : Paired F xs ys) : ∀ {i : Nat} {x : α}, xs[i]? = some x → ∃ y, ys[i]? = some y ∧ F x y := by
  induction hp with
  | nil => intro i x h; simp at h
  | cons r t ih =>
    intro i x h
    cases i with
    | zero => cases h; exact ⟨_, rfl, r⟩
    | succ j => exact ih h
/-- tuples stay -/
def TSame (H H' : Hp) : Prop := ∀ b xs, H b = some (.tup xs) → H' b = some (.tup xs)
theorem TSame.of {H H' : Hp} (s : Same H H') : TSame H H' := fun b xs e => s b _ e
theorem TSame.trans {H H1 H2 : Hp} (a : TSame H H1) (b : TSame H1 H2) : TSame H H2 := fun x xs e => b x xs (a x xs e)
/-- each step gives some y with P i y; the steps lay new objects down -/
theorem lc_rel {J : It} {n : Nat} {G : Hp → Prop} {Y : Nat → Hp → V → Hp → Prop} (w : Walk J n G Y) {g : TG} {te : TE} {vs : List Nat} {σ : L2.St} {H1 : Hp} {D : Addr} {Qd : Hp → Prop} (P : Nat → V → Hp → Prop) (hP : ∀ i y H H', TSame H H' → P i y H → P i y H') (hD : H1 D = none) (hn : n ≤ 1000) (hG : ∀ H, Same H1 H → G H)
    (hs : ∀ i x H H' (k : VK), i < n → Same H1 H → Y i H x H' → (∀ y H4, Same H H4 → P i y H4 → k y H4) → g x (wipe σ vs) H' fun σ2 H2 => wipe σ2 vs = wipe σ vs ∧ te σ2 H2 k)
    (hd : ∀ ys H, Same H1 H → H D = some (.lst ys) → ys.length = n → (∀ i y, ys[i]? = some y → P i y H) → Qd H) :
    ∃ W : Nat → Nat → Hp → Prop, (∃ m, W 0 m (upd H1 D (.lst []))) ∧ ∀ i m H, W i m H →
      (J.stop i H ∧ Qd H) ∨ (J.go i H ∧ ∃ Nx : Hp → Prop, (∀ H', Nx H' → ∃ m', m' < m ∧ W (i + 1) m' H') ∧ ∀ x H', J.yld i H x H' → g x (wipe σ vs) H' fun σ2 H2 => wipe σ2 vs = wipe σ vs ∧ tYes σ2 H2 fun b H3 =>
        if b = true then te σ2 H3 fun y H4 => ∃ acc, H4 D = some (.lst acc) ∧ acc.length < sizeLine ∧ Nx (upd H4 D (.lst (acc ++ [y]))) else Nx H3) := by
  refine lc_it w (fun i H => Same H1 H ∧ ∃ ys, H D = some (.lst ys) ∧ ys.length = i ∧ ∀ j y, ys[j]? = some y → P j y H) ⟨same_new hD, [], upd_same, rfl, fun j y z => by simp at z⟩ (fun i H _ h => hG H h.1) (fun i x H H' hi ⟨s1, ys, e1, l1, p1⟩ y => ?_) (fun H ⟨s1, ys, e1, l1, p1⟩ => hd ys H s1 e1 l1 p1)
  refine hs i x H H' _ hi s1 y fun y H4 s4 p4 => ?_
  have t4 : TSame H4 (upd H4 D (.lst (ys ++ [y]))) := fun b xs z => by
    rw [upd_ne (ne_of z (s4 _ _ e1) (fun q => by cases q))]
    exact z
  refine ⟨ys, s4 _ _ e1, small1000 (by omega), fun b o z => ?_, ys ++ [y], upd_same, by rw [List.length_append, l1]; rfl, fun j z hz => ?_⟩
  · rw [upd_ne (ne_of_none z hD)]
    exact s4 b o (s1 b o z)
  · by_cases hj : j < ys.length
    · rw [List.getElem?_append_left hj] at hz
      exact hP _ _ _ _ ((TSame.of s4).trans t4) (p1 j z hz)
    · rw [List.getElem?_append_right (by omega)] at hz
      have hj' : j - ys.length = 0 := by
        have q := (List.getElem?_eq_some_iff.mp hz).1
        simp at q
        omega
      rw [hj'] at hz
      cases hz
      obtain rfl : j = i := by omega
      exact hP _ _ _ _ t4 p4
/-- each step gives f i -/
theorem lc_map {J : It} {n : Nat} {G : Hp → Prop} {Y : Nat → Hp → V → Hp → Prop} (w : Walk J n G Y) {g : TG} {te : TE} {vs : List Nat} {σ : L2.St} {H1 : Hp} {D : Addr} {Qd : Hp → Prop} (f : Nat → V) (hD : H1 D = none) (hn : n ≤ 1000) (hG : ∀ H, Same H1 H → G H)
    (hs : ∀ i x H H' (k : VK), i < n → Same H1 H → Y i H x H' → (∀ H4, Same H H4 → k (f i) H4) → g x (wipe σ vs) H' fun σ2 H2 => wipe σ2 vs = wipe σ vs ∧ te σ2 H2 k)
    (hd : ∀ H, Same H1 H → H D = some (.lst ((List.range n).map f)) → Qd H) :
    ∃ W : Nat → Nat → Hp → Prop, (∃ m, W 0 m (upd H1 D (.lst []))) ∧ ∀ i m H, W i m H →
      (J.stop i H ∧ Qd H) ∨ (J.go i H ∧ ∃ Nx : Hp → Prop, (∀ H', Nx H' → ∃ m', m' < m ∧ W (i + 1) m' H') ∧ ∀ x H', J.yld i H x H' → g x (wipe σ vs) H' fun σ2 H2 => wipe σ2 vs = wipe σ vs ∧ tYes σ2 H2 fun b H3 =>
        if b = true then te σ2 H3 fun y H4 => ∃ acc, H4 D = some (.lst acc) ∧ acc.length < sizeLine ∧ Nx (upd H4 D (.lst (acc ++ [y]))) else Nx H3) := by
  refine lc_rel w (fun i y _ => y = f i) (fun _ _ _ _ _ h => h) hD hn hG (fun i x H H' k hi s1 y kk => hs i x H H' k hi s1 y fun H4 s4 => kk _ H4 s4 rfl) fun ys H s1 e1 l1 p1 => hd H s1 ?_
  rw [e1]
  congr 2
  refine List.ext_getElem? fun j => ?_
  by_cases hj : j < n
  · rw [List.getElem?_map, List.getElem?_range hj]
    obtain ⟨y, hy⟩ : ∃ y, ys[j]? = some y := ⟨ys[j], by simp [l1, hj]⟩
    rw [hy, p1 j y hy]
    rfl
  · rw [List.getElem?_eq_none (by omega), List.getElem?_eq_none (by rw [List.length_map, List.length_range]; omega)]
theorem range_map {α β : Type} (l : List α) (F : α → β) (f : Nat → β) (h : ∀ (i : Nat) (x : α), l[i]? = some x → f i = F x) : (List.range l.length).map f = l.map F := by
  refine List.ext_getElem? fun j => ?_
  by_cases hj : j < l.length
  · rw [List.getElem?_map, List.getElem?_range hj, List.getElem?_map, List.getElem?_eq_getElem hj]
    exact congrArg some (h j _ (List.getElem?_eq_getElem hj))
  · rw [List.getElem?_eq_none (by rw [List.length_map, List.length_range]; omega), List.getElem?_eq_none (by rw [List.length_map]; omega)]

/-! ### tokens -/
abbrev sKindOf : Stmt := topS 14
abbrev NKindOf : List Str := ["word", "char"]
abbrev PKindOf : List Str := ["word"]
theorem scKindOf : FnScope NKindOf PKindOf (defScope sKindOf) := ⟨rfl, rfl, rfl, by decide +kernel, rfl, by decide +kernel, by decide +kernel⟩
abbrev sEndRun : Stmt := topS 15
abbrev NEndRun : List Str := ["text", "start", "at"]
abbrev PEndRun : List Str := ["text", "start"]
theorem scEndRun : FnScope NEndRun PEndRun (defScope sEndRun) := ⟨rfl, rfl, rfl, by decide +kernel, rfl, by decide +kernel, by decide +kernel⟩
abbrev sToksOf : Stmt := topS 16
abbrev NToksOf : List Str := ["text", "found", "at", "stop"]
abbrev PToksOf : List Str := ["text"]
theorem scToksOf : FnScope NToksOf PToksOf (defScope sToksOf) := ⟨rfl, rfl, rfl, by decide +kernel, rfl, by decide +kernel, by decide +kernel⟩
def SIG : Str := "=+-*&?(){},"
structure TxTok (K : PySem.W.Frag) (mg : Str → Option Value) (kw : Addr) : Prop where
  n_len : mg "len" = none
  c_LETTERS : ∃ u, mg "LETTERS" = some u ∧ RelV (.str LET) u
  c_DIGITS : ∃ u, mg "DIGITS" = some u ∧ RelV (.str DIG) u
  c_SIGNS : ∃ u, mg "SIGNS" = some u ∧ RelV (.str SIG) u
  c_KEYWORDS : ∃ u, mg "KEYWORDS" = some u ∧ RelV (.ref kw) u
  kws : ∀ H, SqT K H kw (KWS.map V.str)
def dg (c : Nat) : Bool := decide (c ∈ DIG.cps.toList)
def kindOf (z : Str) : Str := if inV (.str z) (KWS.map V.str) = true then "mark" else match z.cps.toList with
  | [] => "bad"
  | c :: r => if c ∈ LET.cps.toList then "name" else if (c :: r).all dg = false then "bad" else if c = 48 ∧ 1 < (c :: r).length then "bad" else "number"
theorem eq_sign (c d : Nat) : decide (V.str (⟨#[c]⟩ : Str) = V.str ⟨#[d]⟩) = decide (c = d) := decide_eq_decide.mpr ⟨fun h => by
  injection h with h
  injection h with h
  injection h with h
  exact List.head_eq_of_cons_eq h, fun h => by rw [h]⟩
section
variable {P : Program} {w : World} {K : PySem.W.Frag} {mg : Str → Option Value} {base : Heap} {kw : Addr}
def spKind : Sp := fun vs H Q _ => ∃ z : Str, vs = [.str z] ∧ z.cps.toList ≠ [] ∧ z.length ≤ 100000 ∧ Q (.str (kindOf z)) H
theorem ok_KindOf {f : Addr} {fd : FuncData} (F : Fun K "kind_of" "kind_of" sKindOf f fd) (T : TxTok K mg kw) : FnOk P w K mg base CX0 1 f fd PKindOf spKind := by
  refine F.ok scKindOf (fun vs H Q E h => ?_) (fun cdv A outer s H vs Q E hr h => ?_)
  · obtain ⟨z, rfl, _⟩ := h
    rfl
  · obtain ⟨z, rfl, hne, hz, k⟩ := h
    have hz' : z.length ≤ sizeLine := Nat.le_trans hz (by decide)
    obtain ⟨c, r, ec⟩ : ∃ c r, z.cps.toList = c :: r := by
      cases e : z.cps.toList with
      | nil => exact absurd e hne
      | cons a r => exact ⟨a, r, rfl⟩
    have h0 : z.cps.toList[0]? = some c := by rw [ec]; rfl
    have zl : z.length = (c :: r).length := by rw [← ec]; exact Array.length_toList.symm
    unfold kindOf at k
    rw [ec] at k
    simp only at k
    refine ⟨_, (pss_cons (ps_if (pt_cmpR op_in_seq (pv 0) (pe_globE rfl T.c_KEYWORDS) (by rfl))
  (pss_one (ps_ret pe_str))
  pss_nil)
  (pss_cons (ps_if (pt_cmpR op_in_sign (pe_ix ix_str (pv 0) pe_int (fun _ _ => rfl)) (pe_globE rfl T.c_LETTERS) (by rfl))
  (pss_one (ps_ret pe_str))
  pss_nil)
  (pss_cons (ps_for PassesOwn.never rfl (pi_str (pv 0)) (pg_name (i := 1) scKindOf.nd rfl (Or.inl rfl))
  (pss_one (ps_if (pt_cmpR op_notIn_sign (pv 1) (pe_globE rfl T.c_DIGITS) (by rfl))
  (pss_one (ps_ret pe_str))
  pss_nil)))
  (pss_cons (ps_if (PW.pt (pw_and (pt_cmpR op_eq (pe_ix ix_str (pv 0) pe_int (fun _ _ => rfl)) pe_str (nomark _)) (pw_and1 (pt_cmpR op_gt (pe_callB call_len_str (by rfl) T.n_len bb_len (pa_cons (pv 0) pa_nil)) pe_int (nomark _)))))
  (pss_one (ps_ret pe_str))
  pss_nil)
  (pss_one (ps_ret pe_str)))))), ?_⟩
    refine ⟨_, rfl, kw, _, rfl, .inr (T.kws _), rfl, by decide +kernel, _, rfl, ite2 (fun h1 => ?_) (fun h1 => ?_)⟩
    · have h1 : inV (.str z) (KWS.map V.str) = true := h1
      rw [if_pos h1] at k
      exact k
    · have h1 : ¬ inV (.str z) (KWS.map V.str) = true := h1
      rw [if_neg h1] at k
      refine ⟨_, rfl, z, 0, c, rfl, rfl, hz', atI_nat (j := 0) h0, c, _, rfl, rfl, _, rfl, ite2 (fun h2 => ?_) (fun h2 => ?_)⟩
      · rw [if_pos (of_decide_eq_true h2)] at k
        exact k
      · rw [if_neg (fun q => h2 (decide_eq_true q))] at k
        refine ⟨_, rfl, z, rfl, for_it (walk_str (z := z)) (fun i σ H' => H' = H ∧ (z.cps.toList.take i).all dg = true ∧ ∃ x, σ = [some (.str z), x]) ⟨rfl, rfl, none, rfl⟩ (fun _ _ _ _ _ => trivial) ?_ ?_⟩
        · rintro i x σ H1 H2 hi ⟨rfl, ha, y, rfl⟩ ⟨rfl, d, hd, rfl⟩
          have hd' : z.cps.toList[i]? = some d := by rw [Array.getElem?_toList]; exact hd
          refine ⟨_, rfl, d, _, rfl, rfl, _, rfl, ite2 (fun h3 => ?_) (fun h3 => ?_)⟩
          · have h3 : decide (d ∈ DIG.cps.toList) = false := by simpa using h3
            have : (c :: r).all dg = false := by
              rw [← ec, List.all_eq_false]
              exact ⟨d, List.mem_of_getElem? hd', by unfold dg; rw [h3]; decide⟩
            rw [if_pos this] at k
            exact k
          · have h3 : decide (d ∈ DIG.cps.toList) = true := by simpa using h3
            refine ⟨rfl, ?_, _, rfl⟩
            rw [take_snoc hd', List.all_append, ha, Bool.true_and, List.all_cons, List.all_nil, Bool.and_true]
            exact h3
        · rintro σ H1 ⟨rfl, ha, y, rfl⟩
          rw [show z.cps.size = z.cps.toList.length from Array.length_toList.symm, List.take_length, ec] at ha
          rw [if_neg (by rw [ha]; decide)] at k
          have e48 : ("0" : Str) = ⟨#[48]⟩ := by decide +kernel
          refine ⟨_, rfl, z, 0, c, rfl, rfl, hz', atI_nat (j := 0) h0, rfl, _, rfl, ite2 (fun h4 => ?_) (fun h4 => ?_)⟩
          · have h4 : decide (V.str (⟨#[c]⟩ : Str) = V.str ("0" : Str)) = true := h4
            rw [e48, eq_sign] at h4
            have h4 := of_decide_eq_true h4
            refine ⟨_, rfl, z, rfl, hz', _, _, rfl, rfl, _, rfl, ite2 (fun h5 => ?_) (fun h5 => ?_)⟩
            · have h5 := of_decide_eq_true h5
              rw [if_pos ⟨h4, by rw [← zl]; omega⟩] at k
              exact k
            · rw [if_neg (fun q => h5 (decide_eq_true (by rw [zl]; have := q.2; omega)))] at k
              exact k
          · have h4 : ¬ decide (V.str (⟨#[c]⟩ : Str) = V.str ("0" : Str)) = true := h4
            rw [e48, eq_sign] at h4
            rw [if_neg (fun q => h4 (decide_eq_true q.1))] at k
            exact k
/-! end_of_run -/
/-- the index behind the letters and digits that begin at i -/
def Run (t : List Nat) (i j : Nat) : Prop := i ≤ j ∧ j ≤ t.length ∧ (∀ x, i ≤ x → x < j → ∃ c, t[x]? = some c ∧ al c = true) ∧ ∀ c, t[j]? = some c → al c = false
def spEnd : Sp := fun vs H Q _ => ∃ (z : Str) (i j : Nat), vs = [.str z, .int (i : Nat)] ∧ z.length ≤ 100000 ∧ Run z.cps.toList i j ∧ Q (.int (j : Nat)) H
theorem ok_EndRun {f : Addr} {fd : FuncData} (F : Fun K "end_of_run" "end_of_run" sEndRun f fd) (T : TxTok K mg kw) : FnOk P w K mg base CX0 1 f fd PEndRun spEnd := by
  refine F.ok scEndRun (fun vs H Q E h => ?_) (fun cdv A outer s H vs Q E hr h => ?_)
  · obtain ⟨z, i, j, rfl, _⟩ := h
    rfl
  · obtain ⟨z, i, j, rfl, hz, ⟨r1, r2, r3, r4⟩, k⟩ := h
    have hz' : z.length ≤ sizeLine := Nat.le_trans hz (by decide)
    have zl : z.length = z.cps.toList.length := Array.length_toList.symm
    refine ⟨_, (pss_cons (ps_set (i := 2) scEndRun.nd rfl (Or.inl rfl) (pv 1))
  (pss_cons (ps_while PassesOwn.never (PW.pt (pw_and (pt_cmpR op_lt (pv 2) (pe_callB call_len_str (by rfl) T.n_len bb_len (pa_cons (pv 0) pa_nil)) (nomark _)) (pw_and1 (PW.pt (pw_or (pt_cmpR op_in_sign (pe_ix ix_str (pv 0) (pv 2) (fun _ _ => rfl)) (pe_globE rfl T.c_LETTERS) (by rfl)) (pw_or1 (pt_cmpR op_in_sign (pe_ix ix_str (pv 0) (pv 2) (fun _ _ => rfl)) (pe_globE rfl T.c_DIGITS) (by rfl))))))))
  (pss_one (ps_aug (i := 2) scEndRun.nd rfl (Or.inl rfl) pe_int ip_add)))
  (pss_one (ps_ret (pv 2))))), ?_⟩
    refine ⟨_, rfl, fun m σ H' => ∃ a : Nat, m = j - a ∧ i ≤ a ∧ a ≤ j ∧ σ = [some (.str z), some (.int (i : Nat)), some (.int (a : Nat))] ∧ H' = H, ⟨_, i, rfl, Nat.le_refl _, r1, rfl, rfl⟩, ?_⟩
    rintro m σ H1 ⟨a, rfl, a1, a2, rfl, eH⟩
    have stop : a = j → Q (.int (a : Nat)) H1 := fun e => by rw [e, eH]; exact k
    refine ⟨_, rfl, _, rfl, z, rfl, hz', _, _, rfl, rfl, _, rfl, ite2 (fun h1 => ?_) (fun h1 => iteE rfl ⟨_, rfl, stop ?_⟩)⟩
    · have h1 : a < z.cps.toList.length := by have := of_decide_eq_true h1; omega
      obtain ⟨c, hc⟩ : ∃ c, z.cps.toList[a]? = some c := ⟨_, List.getElem?_eq_getElem h1⟩
      have atc : atI z.cps.toList ((a : Nat) : Int) = some c := atI_nat hc
      have go : al c = true → a < j := fun h => by
        rcases Nat.lt_or_ge a j with q | q
        · exact q
        · have e : a = j := by omega
          rw [e] at hc
          rw [r4 c hc] at h
          cases h
      have no : al c = false → a = j := fun h => by
        rcases Nat.lt_or_ge a j with q | q
        · obtain ⟨d, h1, h2⟩ := r3 a a1 q
          rw [hc] at h1
          cases h1
          rw [h] at h2
          cases h2
        · omega
      refine ⟨_, rfl, _, rfl, z, _, c, rfl, rfl, hz', atc, c, _, rfl, rfl, _, rfl, ite2 (fun h2 => iteS rfl ?_) (fun h2 => ?_)⟩
      · have q := go (by unfold al; rw [show decide (c ∈ LET.cps.toList) = true from h2]; rfl)
        refine ⟨fun σ' H' => σ' = [some (.str z), some (.int (i : Nat)), some (.int ((a + 1 : Nat) : Int))] ∧ H' = H, fun σ' H' ⟨e1, e2⟩ => ⟨j - (a + 1), by omega, a + 1, rfl, by omega, by omega, e1, e2⟩, ?_⟩
        exact ⟨_, rfl, _, _, rfl, rfl, rfl, eH⟩
      · have h2 : decide (c ∈ LET.cps.toList) = false := by simpa using h2
        refine ⟨_, rfl, _, rfl, z, _, c, rfl, rfl, hz', atc, c, _, rfl, rfl, _, rfl, ite2 (fun h3 => ?_) (fun h3 => ?_)⟩
        · have q := go (by unfold al; rw [h2, show decide (c ∈ DIG.cps.toList) = true from h3]; rfl)
          refine ⟨fun σ' H' => σ' = [some (.str z), some (.int (i : Nat)), some (.int ((a + 1 : Nat) : Int))] ∧ H' = H, fun σ' H' ⟨e1, e2⟩ => ⟨j - (a + 1), by omega, a + 1, rfl, by omega, by omega, e1, e2⟩, ?_⟩
          exact ⟨_, rfl, _, _, rfl, rfl, rfl, eH⟩
        · have h3 : decide (c ∈ DIG.cps.toList) = false := by simpa using h3
          exact ⟨_, rfl, stop (no (by unfold al; rw [h2, h3]; rfl))⟩
    · have h1 : ¬ a < z.length := fun q => h1 (decide_eq_true (by omega))
      omega
end

/-! tokens_of -/
abbrev TK := Str × Str × Nat
def TkAt (H : Hp) (v : V) (tk : TK) : Prop := ∃ p, v = .ref p ∧ H p = some (.tup [.str tk.1, .str tk.2.1, .int (tk.2.2 : Nat)])
theorem TkAt.same {H H' : Hp} {v : V} {tk : TK} (h : TkAt H v tk) (s : ∀ b xs, H b = some (.tup xs) → H' b = some (.tup xs)) : TkAt H' v tk := let ⟨p, e, q⟩ := h; ⟨p, e, s _ _ q⟩
def cutT (t : List Nat) (i j : Nat) : Str := ⟨((t.drop i).take (j - i)).toArray⟩
def Plain (c : Nat) : Prop := c ≠ 32 ∧ c ≠ 10 ∧ c ∉ SIG.cps.toList
inductive Tkz (t : List Nat) : Nat → List TK → Prop
  | fin {a : Nat} (h : a = t.length) : Tkz t a [("end", "", a)]
  | gap {a c : Nat} {ts : List TK} (h : t[a]? = some c) (hc : c = 32 ∨ c = 10) (r : Tkz t (a + 1) ts) : Tkz t a ts
  | sign {a c : Nat} {ts : List TK} (h : t[a]? = some c) (hc : c ∈ SIG.cps.toList) (r : Tkz t (a + 1) ts) : Tkz t a (("mark", ⟨#[c]⟩, a) :: ts)
  | word {a j c : Nat} {ts : List TK} (h : t[a]? = some c) (hg : Plain c) (run : Run t a j) (lt : a < j) (k : kindOf (cutT t a j) ≠ "bad") (r : Tkz t j ts) : Tkz t a ((kindOf (cutT t a j), cutT t a j, a) :: ts)
  | bad {a j c : Nat} (h : t[a]? = some c) (hg : Plain c) (run : Run t a j) (b : j = a ∨ kindOf (cutT t a j) = "bad") : Tkz t a [("bad", "", a)]
theorem sig_gap : ∀ c ∈ SIG.cps.toList, c ≠ 32 ∧ c ≠ 10 := by decide +kernel
theorem e32 : (" " : Str) = ⟨#[32]⟩ := by decide +kernel
theorem e10 : ("\n" : Str) = ⟨#[10]⟩ := by decide +kernel
theorem cutS_nat {z : Str} {i j : Nat} (h1 : i ≤ j) (h2 : j ≤ z.cps.toList.length) : cutS z (some ((i : Nat) : Int)) (some ((j : Nat) : Int)) = cutT z.cps.toList i j := by
  have zl : z.length = z.cps.toList.length := Array.length_toList.symm
  unfold cutS cutT
  rw [HT.sIx_nat, HT.sIx_nat, Nat.min_eq_left (by omega), Nat.min_eq_left (by omega)]
theorem tkz_le {t : List Nat} {a : Nat} {ts : List TK} (h : Tkz t a ts) : a ≤ t.length := by
  cases h with
  | fin h => omega
  | gap h _ _ => exact Nat.le_of_lt (List.getElem?_eq_some_iff.mp h).1
  | sign h _ _ => exact Nat.le_of_lt (List.getElem?_eq_some_iff.mp h).1
  | word h _ _ _ _ _ => exact Nat.le_of_lt (List.getElem?_eq_some_iff.mp h).1
  | bad h _ _ _ => exact Nat.le_of_lt (List.getElem?_eq_some_iff.mp h).1
section
variable {P : Program} {w : World} {K : PySem.W.Frag} {mg : Str → Option Value} {base : Heap} {kw : Addr}
def spToks : Sp := fun vs H Q _ => ∃ (z : Str) (ts : List TK), vs = [.str z] ∧ z.length ≤ 100000 ∧ Tkz z.cps.toList 0 ts ∧ ts.length ≤ 100001 ∧ ∀ (L : Addr) (xs : List V) (H' : Hp), Same H H' → H L = none → H' L = some (.lst xs) → Paired (TkAt H') xs ts → Q (.ref L) H'
theorem ok_ToksOf {f : Addr} {fd : FuncData} (F : Fun K "tokens_of" "tokens_of" sToksOf f fd) (T : TxTok K mg kw) (GK : Has P w K mg base CX0 1 "kind_of" PKindOf spKind) (GE : Has P w K mg base CX0 1 "end_of_run" PEndRun spEnd) : FnOk P w K mg base CX0 2 f fd PToksOf spToks := by
  refine F.ok scToksOf (fun vs H Q E h => ?_) (fun cdv A outer s H vs Q E hr h => ?_)
  · obtain ⟨z, ts, rfl, _⟩ := h
    rfl
  · obtain ⟨z, ts, rfl, hz, ht, lts, k⟩ := h
    have hz' : z.length ≤ sizeLine := Nat.le_trans hz (by decide)
    have zl : z.length = z.cps.toList.length := Array.length_toList.symm
    refine ⟨_, (pss_cons (ps_set (i := 1) scToksOf.nd rfl (Or.inl rfl) (pe_lst pa_nil))
  (pss_cons (ps_set (i := 2) scToksOf.nd rfl (Or.inl rfl) pe_int)
  (pss_cons (ps_while PassesOwn.never (pt_cmpR op_lt (pv 2) (pe_callB call_len_str (by rfl) T.n_len bb_len (pa_cons (pv 0) pa_nil)) (nomark _))
  (pss_cons (ps_if (PW.pt (pw_or (pt_cmpR op_eq (pe_ix ix_str (pv 0) (pv 2) (fun _ _ => rfl)) pe_str (nomark _)) (pw_or1 (pt_cmpR op_eq (pe_ix ix_str (pv 0) (pv 2) (fun _ _ => rfl)) pe_str (nomark _)))))
  (pss_cons (ps_aug (i := 2) scToksOf.nd rfl (Or.inl rfl) pe_int ip_add)
  (pss_one ps_continue))
  pss_nil)
  (pss_cons (ps_if (pt_cmpR op_in_sign (pe_ix ix_str (pv 0) (pv 2) (fun _ _ => rfl)) (pe_globE rfl T.c_SIGNS) (by rfl))
  (pss_cons (ps_expr (pe_bm PySem.F.plainAttrs_list PySem.F.slot_list_append PySem.F.type_list_append mt_append (pv 1) (pa_cons (pe_tup (pa_cons pe_str (pa_cons (pe_ix ix_str (pv 0) (pv 2) (fun _ _ => rfl)) (pa_cons (pv 2) pa_nil)))) pa_nil)))
  (pss_cons (ps_aug (i := 2) scToksOf.nd rfl (Or.inl rfl) pe_int ip_add)
  (pss_one ps_continue)))
  pss_nil)
  (pss_cons (ps_set (i := 3) scToksOf.nd rfl (Or.inl rfl) (pe_callH GE hr rfl pass0 (pa_cons (pv 0) (pa_cons (pv 2) pa_nil))))
  (pss_cons (ps_if (PW.pt (pw_or (pt_cmpR op_eq (pv 3) (pv 2) (nomark _)) (pw_or1 (pt_cmpR op_eq (pe_callH GK hr rfl pass0 (pa_cons (pe_slice sl_str (pv 0) (po_some (pv 2)) (po_some (pv 3))) pa_nil)) pe_str (nomark _)))))
  (pss_cons (ps_expr (pe_bm PySem.F.plainAttrs_list PySem.F.slot_list_append PySem.F.type_list_append mt_append (pv 1) (pa_cons (pe_tup (pa_cons pe_str (pa_cons pe_str (pa_cons (pv 2) pa_nil)))) pa_nil)))
  (pss_one (ps_ret (pv 1))))
  pss_nil)
  (pss_cons (ps_expr (pe_bm PySem.F.plainAttrs_list PySem.F.slot_list_append PySem.F.type_list_append mt_append (pv 1) (pa_cons (pe_tup (pa_cons (pe_callH GK hr rfl pass0 (pa_cons (pe_slice sl_str (pv 0) (po_some (pv 2)) (po_some (pv 3))) pa_nil)) (pa_cons (pe_slice sl_str (pv 0) (po_some (pv 2)) (po_some (pv 3))) (pa_cons (pv 2) pa_nil)))) pa_nil)))
  (pss_one (ps_set (i := 2) scToksOf.nd rfl (Or.inl rfl) (pv 3)))))))))
  (pss_cons (ps_expr (pe_bm PySem.F.plainAttrs_list PySem.F.slot_list_append PySem.F.type_list_append mt_append (pv 1) (pa_cons (pe_tup (pa_cons pe_str (pa_cons pe_str (pa_cons (pe_callB call_len_str (by rfl) T.n_len bb_len (pa_cons (pv 0) pa_nil)) pa_nil)))) pa_nil)))
  (pss_one (ps_ret (pv 1))))))), ?_⟩
    refine ⟨(by show 0 ≤ sizeLine; decide), fun L hL => ?_⟩
    refine ⟨fun m σ H' => ∃ (a : Nat) (ts1 ts2 : List TK) (xs : List V) (x3 : Option V), m = z.length - a ∧ ts = ts1 ++ ts2 ∧ Tkz z.cps.toList a ts2 ∧ σ = [some (.str z), some (.ref L), some (.int (a : Nat)), x3] ∧ Same H H' ∧ H' L = some (.lst xs) ∧ Paired (TkAt H') xs ts1, ⟨_, 0, [], ts, [], _, rfl, rfl, ht, rfl, same_new hL, upd_same, .nil⟩, ?_⟩
    rintro m σ H1 ⟨a, ts1, ts2, xs, x3, rfl, ets, hz2, rfl, s1, eL, hp⟩
    have lx : xs.length = ts1.length := Paired.length hp
    have lt1 : ts1.length + ts2.length = ts.length := by rw [ets, List.length_append]
    -- one more token, whatever it is
    have more : ∀ {H2 : Hp} {p : Addr} {tk : TK}, Same H1 H2 → H2 p = none → Paired (TkAt (upd (upd H2 p (.tup [.str tk.1, .str tk.2.1, .int (tk.2.2 : Nat)])) L (.lst (xs ++ [.ref p])))) (xs ++ [.ref p]) (ts1 ++ [tk]) ∧ Same H (upd (upd H2 p (.tup [.str tk.1, .str tk.2.1, .int (tk.2.2 : Nat)])) L (.lst (xs ++ [.ref p]))) := fun {H2 p tk} s2 hp2 => by
      have s3 := same_new (o := .tup [.str tk.1, .str tk.2.1, .int (tk.2.2 : Nat)]) hp2
      have eL2 := s2 _ _ eL
      have pL : p ≠ L := fun z => by rw [z, eL2] at hp2; cases hp2
      refine ⟨Paired.snocP (Paired.mapP hp fun _ _ q => q.same fun b ys e => ?_) ⟨p, rfl, ?_⟩, fun b o e => ?_⟩
      · rw [upd_ne (ne_of (s2 _ _ e) eL2 fun z => by cases z)]
        exact s3 _ _ (s2 _ _ e)
      · rw [upd_ne pL, upd_same]
      · rw [upd_ne (ne_of_none e hL)]
        exact s3 _ _ (s2 _ _ (s1 _ _ e))
    refine ⟨_, rfl, _, rfl, z, rfl, hz', _, _, rfl, rfl, _, rfl, ite2 (fun h1 => ?_) (fun h1 => ?_)⟩
    · have h1 : a < z.cps.toList.length := by have := of_decide_eq_true h1; omega
      obtain ⟨c, hc⟩ : ∃ c, z.cps.toList[a]? = some c := ⟨_, List.getElem?_eq_getElem h1⟩
      have atc : atI z.cps.toList ((a : Nat) : Int) = some c := atI_nat hc
      refine ⟨fun σ' H' => ∃ (a' : Nat) (ts1 ts2 : List TK) (xs : List V) (x3 : Option V), a < a' ∧ a' ≤ z.cps.toList.length ∧ ts = ts1 ++ ts2 ∧ Tkz z.cps.toList a' ts2 ∧ σ' = [some (.str z), some (.ref L), some (.int (a' : Nat)), x3] ∧ Same H H' ∧ H' L = some (.lst xs) ∧ Paired (TkAt H') xs ts1, fun σ' H' ⟨a', u1, u2, us, ux, q1, q2, q3⟩ => ⟨z.length - a', by omega, a', u1, u2, us, ux, rfl, q3⟩, ?_⟩
      cases hz2 with
      | fin h => omega
      | @gap _ c' _ h hcc r =>
        rw [hc] at h
        cases h
        refine ⟨_, rfl, _, rfl, z, _, c, rfl, rfl, hz', atc, rfl, _, rfl, ?_⟩
        have le := tkz_le r
        rw [e32, eq_sign]
        refine ite2 (fun q => iteS rfl ?_) (fun q => ?_)
        · exact ⟨_, rfl, _, _, rfl, rfl, a + 1, ts1, ts2, xs, _, by omega, le, ets, r, rfl, s1, eL, hp⟩
        · have c10 : c = 10 := hcc.resolve_left fun e => q (decide_eq_true e)
          refine ⟨_, rfl, _, rfl, z, _, c, rfl, rfl, hz', atc, rfl, _, rfl, iteS (by rw [e10, eq_sign, decide_eq_true c10]) ?_⟩
          exact ⟨_, rfl, _, _, rfl, rfl, a + 1, ts1, ts2, xs, _, by omega, le, ets, r, rfl, s1, eL, hp⟩
      | @sign _ c' ts' h hcc r =>
        rw [hc] at h
        cases h
        obtain ⟨n1, n2⟩ := sig_gap c hcc
        refine ⟨_, rfl, _, rfl, z, _, c, rfl, rfl, hz', atc, rfl, _, rfl, iteE (by rw [e32, eq_sign, decide_eq_false n1]) ?_⟩
        refine ⟨_, rfl, _, rfl, z, _, c, rfl, rfl, hz', atc, rfl, _, rfl, iteE (by rw [e10, eq_sign, decide_eq_false n2]) ?_⟩
        refine ⟨_, rfl, _, rfl, z, _, c, rfl, rfl, hz', atc, c, _, rfl, rfl, _, rfl, iteS (decide_eq_true hcc) ?_⟩
        refine ⟨_, rfl, .inl ⟨rfl, _, SqL.of eL⟩, _, rfl, _, rfl, z, _, c, rfl, rfl, hz', atc, _, rfl, (by show 3 ≤ sizeLine; decide), fun p hp2 => ?_⟩
        obtain ⟨m1, m2⟩ := more (tk := ("mark", ⟨#[c]⟩, a)) (Same.refl _) hp2
        rw [List.length_cons] at lt1
        refine ⟨L, xs, _, rfl, rfl, same_new hp2 _ _ eL, Nat.lt_of_le_of_lt (show xs.length ≤ 100001 by omega) (by decide), ?_⟩
        exact ⟨_, rfl, _, _, rfl, rfl, a + 1, ts1 ++ [(("mark", ⟨#[c]⟩, a) : TK)], ts', xs ++ [.ref p], _, by omega, tkz_le r, by rw [ets, List.append_assoc]; rfl, r, rfl, m2, upd_same, m1⟩
      | @word _ j c' ts' h hg run lt kb r =>
        rw [hc] at h
        cases h
        obtain ⟨n1, n2, n3⟩ := hg
        refine ⟨_, rfl, _, rfl, z, _, c, rfl, rfl, hz', atc, rfl, _, rfl, iteE (by rw [e32, eq_sign, decide_eq_false n1]) ?_⟩
        refine ⟨_, rfl, _, rfl, z, _, c, rfl, rfl, hz', atc, rfl, _, rfl, iteE (by rw [e10, eq_sign, decide_eq_false n2]) ?_⟩
        refine ⟨_, rfl, _, rfl, z, _, c, rfl, rfl, hz', atc, c, _, rfl, rfl, _, rfl, iteE (decide_eq_false n3) ?_⟩
        have j2 := run.2.1
        have cw : cutS z (some ((a : Nat) : Int)) (some ((j : Nat) : Int)) = cutT z.cps.toList a j := cutS_nat (by omega) j2
        have cl : (cutT z.cps.toList a j).cps.toList.length = j - a := by
          unfold cutT
          rw [List.toList_toArray, List.length_take, List.length_drop]
          omega
        have cne : (cutT z.cps.toList a j).cps.toList ≠ [] := fun e => by rw [e] at cl; simp at cl; omega
        have cle : (cutT z.cps.toList a j).length ≤ 100000 := by
          have : (cutT z.cps.toList a j).length = (cutT z.cps.toList a j).cps.toList.length := Array.length_toList.symm
          omega
        refine ⟨_, rfl, _, rfl, z, a, j, rfl, hz, run, ?_⟩
        refine ⟨_, rfl, _, rfl, rfl, _, rfl, iteE (decide_eq_false fun q => by injection q with q; omega) ?_⟩
        refine ⟨_, rfl, _, rfl, _, rfl, _, rfl, _, rfl, z, rfl, hz', ?_⟩
        rw [cw]
        refine ⟨_, rfl, cne, cle, rfl, _, rfl, iteE (decide_eq_false fun q => kb (by injection q)) ?_⟩
        refine ⟨_, rfl, .inl ⟨rfl, _, SqL.of eL⟩, _, rfl, _, rfl, _, rfl, _, rfl, _, rfl, z, rfl, hz', ?_⟩
        rw [cw]
        refine ⟨_, rfl, cne, cle, ?_⟩
        refine ⟨_, rfl, _, rfl, _, rfl, _, rfl, _, rfl, z, rfl, hz', ?_⟩
        rw [cw]
        refine ⟨_, rfl, (by show 3 ≤ sizeLine; decide), fun p hp2 => ?_⟩
        obtain ⟨m1, m2⟩ := more (tk := (kindOf (cutT z.cps.toList a j), cutT z.cps.toList a j, a)) (Same.refl _) hp2
        rw [List.length_cons] at lt1
        refine ⟨L, xs, _, rfl, rfl, same_new hp2 _ _ eL, Nat.lt_of_le_of_lt (show xs.length ≤ 100001 by omega) (by decide), ?_⟩
        exact ⟨_, rfl, j, ts1 ++ [(kindOf (cutT z.cps.toList a j), cutT z.cps.toList a j, a)], ts', xs ++ [.ref p], _, lt, tkz_le r, by rw [ets, List.append_assoc]; rfl, r, rfl, m2, upd_same, m1⟩
      | @bad _ j c' h hg run b =>
        rw [hc] at h
        cases h
        obtain ⟨n1, n2, n3⟩ := hg
        have fin : ∀ {p : Addr}, H1 p = none → Q (.ref L) (upd (upd H1 p (.tup [.str "bad", .str "", .int (a : Nat)])) L (.lst (xs ++ [.ref p]))) := fun {p} hp2 => by
          obtain ⟨m1, m2⟩ := more (tk := ("bad", "", a)) (Same.refl _) hp2
          exact k L _ _ m2 hL upd_same (by rw [ets]; exact m1)
        have sml : xs.length < sizeLine := Nat.lt_of_le_of_lt (show xs.length ≤ 100001 by omega) (by decide)
        refine ⟨_, rfl, _, rfl, z, _, c, rfl, rfl, hz', atc, rfl, _, rfl, iteE (by rw [e32, eq_sign, decide_eq_false n1]) ?_⟩
        refine ⟨_, rfl, _, rfl, z, _, c, rfl, rfl, hz', atc, rfl, _, rfl, iteE (by rw [e10, eq_sign, decide_eq_false n2]) ?_⟩
        refine ⟨_, rfl, _, rfl, z, _, c, rfl, rfl, hz', atc, c, _, rfl, rfl, _, rfl, iteE (decide_eq_false n3) ?_⟩
        have j2 := run.2.1
        refine ⟨_, rfl, _, rfl, z, a, j, rfl, hz, run, ?_⟩
        by_cases ja : j = a
        · refine ⟨_, rfl, _, rfl, rfl, _, rfl, iteS (decide_eq_true (by rw [ja])) (iteS rfl ?_)⟩
          exact ⟨_, rfl, .inl ⟨rfl, _, SqL.of eL⟩, _, rfl, (by show 3 ≤ sizeLine; decide), fun p hp2 => ⟨L, xs, _, rfl, rfl, same_new hp2 _ _ eL, sml, _, rfl, fin hp2⟩⟩
        · have kb := b.resolve_left ja
          have r1 := run.1
          have cw : cutS z (some ((a : Nat) : Int)) (some ((j : Nat) : Int)) = cutT z.cps.toList a j := cutS_nat (by omega) j2
          have cl : (cutT z.cps.toList a j).cps.toList.length = j - a := by
            unfold cutT
            rw [List.toList_toArray, List.length_take, List.length_drop]
            omega
          have cne : (cutT z.cps.toList a j).cps.toList ≠ [] := fun e => by rw [e] at cl; simp at cl; omega
          have cle : (cutT z.cps.toList a j).length ≤ 100000 := by
            have : (cutT z.cps.toList a j).length = (cutT z.cps.toList a j).cps.toList.length := Array.length_toList.symm
            omega
          refine ⟨_, rfl, _, rfl, rfl, _, rfl, iteE (decide_eq_false fun q => by injection q with q; omega) ?_⟩
          refine ⟨_, rfl, _, rfl, _, rfl, _, rfl, _, rfl, z, rfl, hz', ?_⟩
          rw [cw]
          refine ⟨_, rfl, cne, cle, rfl, _, rfl, iteS (decide_eq_true (by rw [kb])) ?_⟩
          exact ⟨_, rfl, .inl ⟨rfl, _, SqL.of eL⟩, _, rfl, (by show 3 ≤ sizeLine; decide), fun p hp2 => ⟨L, xs, _, rfl, rfl, same_new hp2 _ _ eL, sml, _, rfl, fin hp2⟩⟩
    · have h1 : ¬ a < z.length := fun q => h1 (decide_eq_true (by omega))
      cases hz2 with
      | fin h =>
        refine ⟨_, rfl, .inl ⟨rfl, _, SqL.of eL⟩, _, rfl, z, rfl, hz', (by show 3 ≤ sizeLine; decide), fun p hp2 => ?_⟩
        obtain ⟨m1, m2⟩ := more (tk := ("end", "", z.length)) (Same.refl _) hp2
        have ea : a = z.length := by omega
        exact ⟨L, xs, _, rfl, rfl, same_new hp2 _ _ eL, Nat.lt_of_le_of_lt (show xs.length ≤ 100001 by omega) (by decide), _, rfl, k L _ _ m2 hL upd_same (by rw [ets, ea]; exact m1)⟩
      | gap h _ _ => exact absurd (List.getElem?_eq_some_iff.mp h).1 (by omega)
      | sign h _ _ => exact absurd (List.getElem?_eq_some_iff.mp h).1 (by omega)
      | word h _ _ _ _ _ => exact absurd (List.getElem?_eq_some_iff.mp h).1 (by omega)
      | bad h _ _ _ => exact absurd (List.getElem?_eq_some_iff.mp h).1 (by omega)
end

/-! ### what a name is -/
def isName (z : Str) : Bool := match z.cps.toList with
  | [] => false
  | c :: r => decide (c ∈ LET.cps.toList) && (c :: r).all al && !inV (.str z) (KWS.map V.str)
theorem isName_at {z : Str} {c : Nat} (h : z.cps.toList[0]? = some c) : isName z = (decide (c ∈ LET.cps.toList) && z.cps.toList.all al && !inV (.str z) (KWS.map V.str)) := by
  unfold isName
  cases e : z.cps.toList with
  | nil => rw [e] at h; simp at h
  | cons a r => rw [e] at h; simp at h; subst h; rfl

/-! ### _law_names -/
abbrev sNames : Stmt := topS 28
abbrev NNames : List Str := ["_law_pool_here", "_law_letter", "_law_shift", "_law_k"]
abbrev PNames : List Str := ["_law_pool_here"]
theorem scNames : FnScope NNames PNames (defScope sNames) := ⟨rfl, rfl, rfl, by decide +kernel, rfl, by decide +kernel, by decide +kernel⟩
def nm (c : Nat) (i : Int) : Str := (⟨#[c]⟩ : Str) ++ ((toString i : String) : Str)
/-- a list of names as _law_names gives it -/
structure NamesOk (ns : List Str) : Prop where
  nd : ns.Nodup
  name : ∀ n ∈ ns, isName n = true
  len : ∀ n ∈ ns, n.length ≤ 10
theorem dig_facts : ∀ k : Fin 16, ((toString ((k.val : Nat) : Int) : String) : Str).cps.toList ≠ [] ∧ (∀ c ∈ ((toString ((k.val : Nat) : Int) : String) : Str).cps.toList, c ∈ DIG.cps.toList) ∧ ((toString ((k.val : Nat) : Int) : String) : Str).cps.toList.length ≤ 2 := by decide +kernel
theorem dig_inj : ∀ k j : Fin 16, ((toString ((k.val : Nat) : Int) : String) : Str) = ((toString ((j.val : Nat) : Int) : String) : Str) → k = j := by decide +kernel
theorem mod_inj : ∀ s k j : Fin 16, (7 * k.val + s.val) % 16 = (7 * j.val + s.val) % 16 → k = j := by decide +kernel
theorem kws_let : ∀ k ∈ KWS, ∀ c ∈ k.cps.toList, c ∈ LET.cps.toList := by decide +kernel
theorem let_dig : ∀ c ∈ DIG.cps.toList, c ∉ LET.cps.toList := by decide +kernel
theorem nm_list (c : Nat) (i : Int) : (nm c i).cps.toList = c :: ((toString i : String) : Str).cps.toList := by
  show (#[c] ++ ((toString i : String) : Str).cps).toList = _
  simp
theorem nm_name {c : Nat} (hc : c ∈ LET.cps.toList) {i : Int} (h0 : 0 ≤ i) (h1 : i < 16) : isName (nm c i) = true ∧ (nm c i).length ≤ 10 := by
  have e : i = (((⟨i.toNat, by omega⟩ : _root_.Fin 16).val : Nat) : Int) := by
    show i = ((i.toNat : Nat) : Int)
    omega
  obtain ⟨d1, d2, d3⟩ := dig_facts ⟨i.toNat, by omega⟩
  rw [← e] at d1 d2 d3
  have hl := nm_list c i
  have h0 : (nm c i).cps.toList[0]? = some c := by rw [hl]; rfl
  constructor
  · rw [isName_at h0, hl]
    simp only [Bool.and_eq_true, decide_eq_true_eq, Bool.not_eq_true']
    refine ⟨⟨hc, ?_⟩, ?_⟩
    · rw [List.all_eq_true]
      intro x hx
      unfold al
      simp only [Bool.or_eq_true, decide_eq_true_eq]
      rcases List.mem_cons.mp hx with q | q
      · rw [q]; exact .inl hc
      · exact .inr (d2 x q)
    · cases q : inV (.str (nm c i)) (KWS.map V.str) with
      | false => rfl
      | true =>
        unfold inV at q
        obtain ⟨v, hv, q⟩ := List.any_eq_true.mp q
        obtain ⟨k, hk, rfl⟩ := List.mem_map.mp hv
        have q : k = nm c i := by
          have q : (k == nm c i) = true := q
          simpa using q
        obtain ⟨x, hx⟩ := List.exists_mem_of_ne_nil _ d1
        exact absurd (kws_let k hk x (by rw [q, hl]; exact List.mem_cons_of_mem _ hx)) (let_dig x (d2 x hx))
  · show (nm c i).cps.size ≤ 10
    rw [← Array.length_toList, hl, List.length_cons]
    omega
theorem nm_inj {c : Nat} {i j : Int} (i0 : 0 ≤ i) (i1 : i < 16) (j0 : 0 ≤ j) (j1 : j < 16) (h : nm c i = nm c j) : i = j := by
  have q : ((toString i : String) : Str).cps.toList = ((toString j : String) : Str).cps.toList := by
    have z := congrArg (fun z : Str => z.cps.toList) h
    simp only [nm_list] at z
    exact (List.cons.inj z).2
  have e : ((toString i : String) : Str) = ((toString j : String) : Str) := by
    have z := congrArg List.toArray q
    simp only [Array.toArray_toList] at z
    cases hx : ((toString i : String) : Str) with
    | mk a =>
      cases hy : ((toString j : String) : Str) with
      | mk b =>
        rw [hx, hy] at z
        rw [show a = b from z]
  have ei : i = (((⟨i.toNat, by omega⟩ : _root_.Fin 16).val : Nat) : Int) := by
    show i = ((i.toNat : Nat) : Int)
    omega
  have ej : j = (((⟨j.toNat, by omega⟩ : _root_.Fin 16).val : Nat) : Int) := by
    show j = ((j.toNat : Nat) : Int)
    omega
  rw [ei, ej] at e
  have f := congrArg Fin.val (dig_inj _ _ e)
  have f : i.toNat = j.toNat := f
  omega
def nms (c : Nat) (s : Int) (n : Nat) : List Str := (List.range n).map fun k => nm c ((7 * (k : Nat) + s) % 16)
theorem nms_ok {c : Nat} (hc : c ∈ LET.cps.toList) {s : Int} (s0 : 0 ≤ s) (s1 : s < 16) {n : Nat} (hn : n ≤ 16) : NamesOk (nms c s n) := by
  have b : ∀ k : Nat, 0 ≤ (7 * (k : Int) + s) % 16 ∧ (7 * (k : Int) + s) % 16 < 16 := fun k => ⟨Int.emod_nonneg _ (by decide), Int.emod_lt_of_pos _ (by decide)⟩
  refine ⟨?_, fun x hx => ?_, fun x hx => ?_⟩
  · unfold nms
    rw [List.nodup_iff_pairwise_ne, List.pairwise_map]
    refine List.Pairwise.imp_of_mem (fun {i j} hi hj hne z => hne ?_) List.nodup_range
    have hi := List.mem_range.mp hi
    have hj := List.mem_range.mp hj
    have q := nm_inj (b i).1 (b i).2 (b j).1 (b j).2 z
    have m := mod_inj ⟨s.toNat, by omega⟩ ⟨i, by omega⟩ ⟨j, by omega⟩ (by show (7 * i + s.toNat) % 16 = (7 * j + s.toNat) % 16; omega)
    exact congrArg Fin.val m
  · obtain ⟨k, _, rfl⟩ := List.mem_map.mp hx
    exact (nm_name hc (b k).1 (b k).2).1
  · obtain ⟨k, _, rfl⟩ := List.mem_map.mp hx
    exact (nm_name hc (b k).1 (b k).2).2
def spNames : Sp := fun vs H Q _ => ∃ (p c : Addr) (lim : V) (n : Nat), vs = [.ref p] ∧ PoolAt H p c lim n ∧ n < 100000000000 ∧
  ∀ (q : Addr) (ns : List Str) (H' : Hp), NamesOk ns → ns.length = 16 → PoolAt H' p c lim (n + 2) → But p c H H' → H q = none → H' q = some (.lst (ns.map V.str)) → Q (.ref q) H'
structure TxNames (mg : Str → Option Value) : Prop where
  n_str : mg "str" = none
  n_range : mg "range" = none
section
variable {P : Program} {w : World} {K : PySem.W.Frag} {mg : Str → Option Value} {base : Heap}
theorem log2_small {i : Int} (h0 : 0 ≤ i) (h1 : i < 16) : i.natAbs.log2 < 1920 := by
  have : i.natAbs.log2 ≤ i.natAbs := Nat.log2_le_self _
  omega
theorem ok_Names {f : Addr} {fd : FuncData} (F : Fun K "_law_names" "_law_names" sNames f fd) (T : TxNames mg) (GD : Has P w K mg base CX0 2 "_law_draw" PDraw spDraw) : FnOk P w K mg base CX0 3 f fd PNames spNames := by
  refine F.ok scNames (fun vs H Q E h => ?_) (fun cdv A outer s H vs Q E hr h => ?_)
  · obtain ⟨p, c, lim, n, rfl, _⟩ := h
    rfl
  · obtain ⟨p, c, lim, n, rfl, P0, hn, k⟩ := h
    refine ⟨_, (pss_cons (ps_set (i := 1) scNames.nd rfl (Or.inr rfl) (pe_ix ix_str pe_str (pe_callH GD hr rfl pass0 (pa_cons (pv 0) (pa_cons pe_int pa_nil))) (fun _ _ => rfl)))
  (pss_cons (ps_set (i := 2) scNames.nd rfl (Or.inr rfl) (pe_callH GD hr rfl pass0 (pa_cons (pv 0) (pa_cons pe_int pa_nil))))
  (pss_one (ps_ret (pe_lc (own := [("_law_k", 3)]) (g := gName 3) (tt := tYes) rfl scNames.nd (pi_range1 (by rfl) T.n_range (pa_cons pe_int pa_nil)) (blkOk_by (own := [("_law_k", 3)]) (N := NNames) (sc := (defScope sNames)) (by decide +kernel)) (fun _ _ _ _ _ => (pg_name (i := 3) scNames.nd rfl (Or.inl rfl))) (fun _ _ _ _ _ => pts_nil) (fun _ _ _ _ _ => (pe_op op_add_str (pv 1) (pe_callTy call_str_int (by rfl) T.n_str bb_str (pa_cons (pe_op op_mod (pe_op op_add (pe_op op_mul pe_int (pv 3)) (pv 2)) pe_int) pa_nil))))))))), ?_⟩
    refine ⟨_, rfl, p, c, lim, n, 26, rfl, P0, by omega, by decide, by decide, fun r H1 r0 r1 P1 b1 => ?_⟩
    obtain ⟨lc, hlc, mlc⟩ := atI_in (xs := LET.cps.toList) r0 (by rw [show LET.cps.toList.length = 26 by decide +kernel]; exact r1)
    refine ⟨_, _, lc, rfl, rfl, by decide +kernel, hlc, ?_⟩
    refine ⟨_, rfl, p, c, lim, n + 1, 16, rfl, P1, by omega, by decide, by decide, fun sh H2 s0 s1 P2 b2 => ?_⟩
    refine ⟨16, rfl, by decide, by decide, fun D hD => ?_⟩
    have Dp := P2.ne1 hD
    have Dc := P2.ne2 hD
    refine lc_range (lo := 0) (n := 16) (fun i H' => Same H2 H' ∧ H' D = some (.lst ((nms lc sh i).map V.str))) ⟨same_new hD, upd_same⟩ ?_ ?_
    · rintro i H3 hi ⟨s3, e3⟩
      have b : 0 ≤ (7 * (0 + (i : Int)) + sh) % 16 ∧ (7 * (0 + (i : Int)) + sh) % 16 < 16 := ⟨Int.emod_nonneg _ (by decide), Int.emod_lt_of_pos _ (by decide)⟩
      refine ⟨rfl, _, rfl, _, rfl, _, _, rfl, rfl, .inl ⟨by decide, by decide⟩, _, rfl, _, _, rfl, rfl, _, _, rfl, rfl, (show (0 : Int) < 16 by decide), _, rfl, log2_small b.1 b.2, _, _, rfl, rfl, ?_, _, e3, small1000 ?_, fun b o z => ?_, ?_⟩
      · have q := (nm_name mlc b.1 b.2).2
        unfold nm at q
        rw [str_app_len] at q
        exact Nat.le_trans q (by decide)
      · unfold nms
        rw [List.length_map, List.length_map, List.length_range]
        omega
      · rw [upd_ne (ne_of_none z hD)]
        exact s3 b o z
      · rw [upd_same]
        unfold nms
        rw [List.range_succ, List.map_append, List.map_append]
        show some (HO.lst (_ ++ [V.str (nm lc ((7 * (0 + (i : Int)) + sh) % 16))])) = _
        rw [Int.zero_add]
        rfl
    · rintro H3 ⟨s3, e3⟩
      have hD0 : H D = none := by
        cases q : H D with
        | none => rfl
        | some o => rw [b2 D o (b1 D o q Dp Dc) Dp Dc] at hD; cases hD
      refine k D _ H3 (nms_ok mlc s0 s1 (Nat.le_refl 16)) (by unfold nms; rw [List.length_map, List.length_range]) (P2.same s3) (fun b o z h1 h2 => s3 b o (b2 b o (b1 b o z h1 h2) h1 h2)) hD0 e3
end

/-! ### texts and the shapes of their tokens -/
def numS (n : Nat) : Str := Str.ofString (toString ((n : Nat) : Int))
abbrev SH := List (Str × Str)
def shOf (ts : List TK) : SH := ts.map fun k => (k.1, k.2.1)
def Tks (t : List Nat) (sh : SH) : Prop := ∀ p : List Nat, ∃ ts : List TK, shOf ts = sh ∧ Tkz (p ++ t) p.length ts
theorem Tks.nil : Tks [] [("end", "")] := fun p => ⟨[(("end", "", p.length) : TK)], rfl, .fin (by rw [List.append_nil])⟩
theorem mid_get (p t : List Nat) (c : Nat) : (p ++ c :: t)[p.length]? = some c := by
  rw [List.getElem?_append_right (Nat.le_refl _), Nat.sub_self]
  rfl
theorem Tks.gap {t : List Nat} {sh : SH} (h : Tks t sh) : Tks (32 :: t) sh := fun p => by
  obtain ⟨ts, e, k⟩ := h (p ++ [32])
  rw [List.append_assoc, List.length_append] at k
  exact ⟨ts, e, .gap (mid_get p t 32) (.inl rfl) k⟩
theorem Tks.gaps {t : List Nat} {sh : SH} (h : Tks t sh) : ∀ n, Tks (List.replicate n 32 ++ t) sh
  | 0 => h
  | n + 1 => (Tks.gaps h n).gap
theorem Tks.sign {t : List Nat} {sh : SH} {c : Nat} (hc : c ∈ SIG.cps.toList) (h : Tks t sh) : Tks (c :: t) (("mark", (⟨#[c]⟩ : Str)) :: sh) := fun p => by
  obtain ⟨ts, e, k⟩ := h (p ++ [c])
  rw [List.append_assoc, List.length_append] at k
  exact ⟨(("mark", ⟨#[c]⟩, p.length) : TK) :: ts, by rw [← e]; rfl, .sign (mid_get p t c) hc k⟩
def NoAl (t : List Nat) : Prop := ∀ c, t[0]? = some c → al c = false
theorem let_plain : ∀ c ∈ LET.cps.toList, c ≠ 32 ∧ c ≠ 10 ∧ c ∉ SIG.cps.toList := by decide +kernel
theorem dig_plain : ∀ c ∈ DIG.cps.toList, c ≠ 32 ∧ c ≠ 10 ∧ c ∉ SIG.cps.toList := by decide +kernel
theorem al_plain {c : Nat} (h : al c = true) : Plain c := by
  unfold al at h
  rw [Bool.or_eq_true, decide_eq_true_eq, decide_eq_true_eq] at h
  rcases h with h | h
  · exact let_plain c h
  · exact dig_plain c h
theorem Tks.word {w t : List Nat} {sh : SH} (hw : w ≠ []) (ha : ∀ c ∈ w, al c = true) (hk : kindOf ⟨w.toArray⟩ ≠ "bad") (hn : NoAl t) (h : Tks t sh) : Tks (w ++ t) ((kindOf ⟨w.toArray⟩, (⟨w.toArray⟩ : Str)) :: sh) := fun p => by
  obtain ⟨ts, e, k⟩ := h (p ++ w)
  rw [List.append_assoc, List.length_append] at k
  have wl : 0 < w.length := List.length_pos_iff.mpr hw
  have cut : cutT (p ++ (w ++ t)) p.length (p.length + w.length) = ⟨w.toArray⟩ := by
    unfold cutT
    rw [List.drop_left, Nat.add_sub_cancel_left, List.take_left]
  have at_w : ∀ x, p.length ≤ x → x < p.length + w.length → (p ++ (w ++ t))[x]? = w[x - p.length]? := fun x h1 h2 => by
    rw [List.getElem?_append_right h1, List.getElem?_append_left (by omega)]
  obtain ⟨c, hc⟩ : ∃ c, w[0]? = some c := ⟨_, List.getElem?_eq_getElem wl⟩
  have run : Run (p ++ (w ++ t)) p.length (p.length + w.length) := by
    refine ⟨by omega, by rw [List.length_append, List.length_append]; omega, fun x h1 h2 => ?_, fun c hc => ?_⟩
    · have hx : x - p.length < w.length := by omega
      exact ⟨_, by rw [at_w x h1 h2]; exact List.getElem?_eq_getElem hx, ha _ (List.getElem_mem hx)⟩
    · rw [List.getElem?_append_right (by omega), Nat.add_sub_cancel_left, List.getElem?_append_right (Nat.le_refl _), Nat.sub_self] at hc
      exact hn c hc
  have tk := Tkz.word (t := p ++ (w ++ t)) (a := p.length) (j := p.length + w.length) (c := c) (by rw [at_w _ (Nat.le_refl _) (by omega), Nat.sub_self]; exact hc) (al_plain (ha c (List.mem_of_getElem? hc))) run (by omega) (by rw [cut]; exact hk) k
  rw [cut] at tk
  exact ⟨_, by rw [← e]; rfl, tk⟩
theorem str_tl (z : Str) : (⟨(TL.tl z).toArray⟩ : Str) = z := TL.ext_tl rfl
/-- a name -/
theorem name_al {x : Str} (h : isName x = true) : TL.tl x ≠ [] ∧ (∀ c ∈ TL.tl x, al c = true) ∧ kindOf x = "name" := by
  unfold isName at h
  cases e : x.cps.toList with
  | nil => rw [e] at h; cases h
  | cons c r =>
    rw [e] at h
    simp only [Bool.and_eq_true, decide_eq_true_eq, Bool.not_eq_true'] at h
    obtain ⟨⟨h1, h2⟩, h3⟩ := h
    refine ⟨by rw [show TL.tl x = c :: r from e]; simp, fun d hd => ?_, ?_⟩
    · rw [show TL.tl x = c :: r from e] at hd
      exact List.all_eq_true.mp h2 d hd
    · unfold kindOf
      rw [h3, if_neg (by decide), e]
      simp only
      rw [if_pos h1]
theorem tks_name {x : Str} {t : List Nat} {sh : SH} (hx : isName x = true) (hn : NoAl t) (h : Tks t sh) : Tks (TL.tl x ++ t) (("name", x) :: sh) := by
  obtain ⟨h1, h2, h3⟩ := name_al hx
  have := Tks.word h1 h2 (by rw [str_tl, h3]; decide +kernel) hn h
  rw [str_tl, h3] at this
  exact this
/-- a number -/
theorem numL_zero (n : Nat) : ∀ c r, TL.numL n = c :: r → c = 48 → n = 0 := by
  induction n using Nat.strongRecOn with
  | ind n ih =>
    intro c r e h
    by_cases h1 : n < 10
    · rw [TL.numL_lt h1] at e
      injection e with e _
      omega
    · rw [TL.numL_step (by omega)] at e
      cases q : TL.numL (n / 10) with
      | nil => exact absurd q (TL.numL_ne _)
      | cons d s =>
        rw [q] at e
        injection e with e _
        have := ih (n / 10) (by omega) d s q (by rw [e]; exact h)
        omega
theorem dig_mem : ∀ k : Fin 10, 48 + k.val ∈ DIG.cps.toList ∧ 48 + k.val ∉ LET.cps.toList := by decide +kernel
theorem num_kind (n : Nat) : TL.tl (numS n) ≠ [] ∧ (∀ c ∈ TL.tl (numS n), al c = true) ∧ kindOf (numS n) = "number" := by
  have e : TL.tl (numS n) = TL.numL n := TL.tl_num n
  have dg' : ∀ c ∈ TL.numL n, c ∈ DIG.cps.toList ∧ c ∉ LET.cps.toList := fun c hc => by
    have := TL.numL_digits n c hc
    have q := dig_mem ⟨c - 48, by omega⟩
    have e : 48 + (c - 48) = c := by omega
    rw [show (48 + (⟨c - 48, by omega⟩ : _root_.Fin 10).val) = c from e] at q
    exact q
  refine ⟨by rw [e]; exact TL.numL_ne n, fun c hc => ?_, ?_⟩
  · rw [e] at hc
    unfold al
    rw [decide_eq_true (dg' c hc).1, Bool.or_true]
  · have nk : inV (.str (numS n)) (KWS.map V.str) = false := by
      cases q : inV (.str (numS n)) (KWS.map V.str) with
      | false => rfl
      | true =>
        unfold inV at q
        obtain ⟨v, hv, q⟩ := List.any_eq_true.mp q
        obtain ⟨k, hk, rfl⟩ := List.mem_map.mp hv
        have q : k = numS n := by
          have q : (k == numS n) = true := q
          simpa using q
        obtain ⟨x, hx⟩ := List.exists_mem_of_ne_nil _ (TL.numL_ne n)
        exact absurd (kws_let k hk x (by rw [q]; show x ∈ TL.tl (numS n); rw [e]; exact hx)) (dg' x hx).2
    unfold kindOf
    rw [nk, if_neg (by decide), show (numS n).cps.toList = TL.numL n from e]
    cases q : TL.numL n with
    | nil => exact absurd q (TL.numL_ne n)
    | cons c r =>
      rw [q] at dg'
      simp only
      rw [if_neg (dg' c List.mem_cons_self).2, if_neg, if_neg]
      · rintro ⟨h1, h2⟩
        have z := numL_zero n c r q h1
        subst z
        rw [TL.numL_lt (by decide)] at q
        injection q with _ q
        rw [← q] at h2
        exact absurd h2 (by show ¬ 1 < 1; decide)
      · rw [Bool.not_eq_false, List.all_eq_true]
        intro d hd
        unfold dg
        rw [decide_eq_true (dg' d hd).1]
theorem tks_num {n : Nat} {t : List Nat} {sh : SH} (hn : NoAl t) (h : Tks t sh) : Tks (TL.tl (numS n) ++ t) (("number", numS n) :: sh) := by
  obtain ⟨h1, h2, h3⟩ := num_kind n
  have := Tks.word h1 h2 (by rw [str_tl, h3]; decide +kernel) hn h
  rw [str_tl, h3] at this
  exact this
theorem noAl_gap {t : List Nat} : NoAl (32 :: t) := fun c h => by cases h; decide +kernel
theorem noAl_nil : NoAl [] := fun c h => by cases h
theorem sh_at {ts : List TK} {i : Nat} {x : Str × Str} {rest : SH} (h : (shOf ts).drop i = x :: rest) : (∃ a, ts[i]? = some ((x.1, x.2, a) : TK)) ∧ (shOf ts).drop (i + 1) = rest := by
  have h0 : (shOf ts)[i]? = some x := by
    have := congrArg (fun l : SH => l[0]?) h
    simp only [List.getElem?_drop] at this
    exact this
  refine ⟨?_, ?_⟩
  · unfold shOf at h0
    rw [List.getElem?_map] at h0
    cases e : ts[i]? with
    | none => rw [e] at h0; cases h0
    | some tk =>
      rw [e] at h0
      have h0 : (tk.1, tk.2.1) = x := Option.some.inj h0
      exact ⟨tk.2.2, by rw [← h0]⟩
  · rw [← List.drop_drop, h]
    rfl
theorem num_len {n : Nat} (h : n < 10 ^ 12) : (numS n).length ≤ 12 := by
  rw [TL.len_tl, show TL.tl (numS n) = TL.numL n from TL.tl_num n]
  exact TL.numL_len (by decide) h
theorem num_int {n : Nat} (h : n < 10 ^ 12) : PySem.intText? (numS n) = some (n : Int) := by
  have := TL.numL_len (k := 12) (by decide) h
  exact TL.int_num (by omega)

/-! ### conditions as forms -/
inductive Fm where
  | any : Fm
  | nt : Fm → Fm
  | bin : Bool → Fm → Fm → Fm
  | fld : Str → V → Fm
def wd (o : Bool) : Str := if o = true then "or" else "and"
def FLD : List Str := ["function", "place", "kind", "verdict", "changes"]
def VDS : List Str := ["same", "sound", "changed"]
def Fm.dep : Fm → Nat
  | .any => 0
  | .nt a => a.dep + 1
  | .bin _ a b => max a.dep b.dep + 1
  | .fld _ _ => 0
inductive FldOk : Str → V → Prop
  | place (n : Nat) (h : n < 10 ^ 12) : FldOk "place" (.int (n : Nat))
  | verdict (z : Str) (h : z ∈ VDS) : FldOk "verdict" (.str z)
  | name (w z : Str) (hw : w = "function" ∨ w = "kind" ∨ w = "changes") (hz : isName z = true) (hl : z.length ≤ 10) : FldOk w (.str z)
def Fm.ok : Fm → Prop
  | .any => True
  | .nt a => a.ok
  | .bin _ a b => a.ok ∧ b.ok
  | .fld w v => FldOk w v
structure Row where
  fn : Str
  pl : Int
  kd : Str
  vd : Str
  cells : List Str
def RowAt (H : Hp) (r : Addr) (R : Row) : Prop := ∃ cl, H r = some (.tup [.str R.fn, .int R.pl, .str R.kd, .str R.vd, .ref cl]) ∧ H cl = some (.tup (R.cells.map V.str))
def fieldV (R : Row) (w : Str) : V := if w = "function" then .str R.fn else if w = "place" then .int R.pl else if w = "kind" then .str R.kd else .str R.vd
def leafB (R : Row) (w : Str) (v : V) : Bool := if w = "changes" then inV v (R.cells.map V.str) else decide (fieldV R w = v)
def Fm.holds (R : Row) : Fm → Bool
  | .any => true
  | .nt a => !(a.holds R)
  | .bin o a b => if o = true then (a.holds R || b.holds R) else (a.holds R && b.holds R)
  | .fld w v => leafB R w v
theorem RowAt.same {H H' : Hp} {r : Addr} {R : Row} (h : RowAt H r R) (s : TSame H H') : RowAt H' r R := let ⟨cl, a, b⟩ := h; ⟨cl, s _ _ a, s _ _ b⟩
theorem strs_flat (ns : List Str) : (ns.map V.str).all flatV = true := by
  rw [List.all_map, List.all_eq_true]
  intro _ _
  rfl
theorem fldOk_w {w : Str} {v : V} (h : FldOk w v) : w ∈ FLD := by
  cases h with
  | place => decide +kernel
  | verdict => decide +kernel
  | name _ _ hw => rcases hw with rfl | rfl | rfl <;> decide +kernel
theorem fldOk_flat {w : Str} {v : V} (h : FldOk w v) : flatV v = true := by cases h <;> rfl
theorem fld_words : ∀ w ∈ FLD, w ≠ "any" ∧ w ≠ "not" ∧ w ≠ "and" ∧ w ≠ "or" := by decide +kernel
/-- a text or an int -/
def SI (v : V) : Prop := (∃ z, v = .str z) ∨ ∃ i, v = .int i
theorem SI.scal {x y : V} (h : SI x) (g : SI y) : L2.scal x y = true := by
  rcases h with ⟨_, rfl⟩ | ⟨_, rfl⟩ <;> rcases g with ⟨_, rfl⟩ | ⟨_, rfl⟩ <;> rfl
theorem fldOk_si {w : Str} {v : V} (h : FldOk w v) : SI v := by
  cases h
  · exact .inr ⟨_, rfl⟩
  · exact .inl ⟨_, rfl⟩
  · exact .inl ⟨_, rfl⟩
theorem field_si (R : Row) (w : Str) : SI (fieldV R w) := by
  unfold fieldV
  split
  · exact .inl ⟨_, rfl⟩
  · split
    · exact .inr ⟨_, rfl⟩
    · split
      · exact .inl ⟨_, rfl⟩
      · exact .inl ⟨_, rfl⟩
theorem field_at {R : Row} {cl : Addr} {w : Str} (h : w ∈ FLD) (hc : w ≠ "changes") : ∃ j : Nat, FLD[j]? = some w ∧ (∀ m, m < j → FLD[m]? ≠ some w) ∧ [V.str R.fn, .int R.pl, .str R.kd, .str R.vd, .ref cl][j]? = some (fieldV R w) ∧ SI (fieldV R w) := by
  unfold FLD at h
  simp only [List.mem_cons, List.not_mem_nil, or_false] at h
  rcases h with rfl | rfl | rfl | rfl | rfl
  · exact ⟨0, rfl, fun m hm => by omega, rfl, field_si _ _⟩
  · refine ⟨1, rfl, fun m hm => ?_, ?_, field_si _ _⟩
    · obtain rfl : m = 0 := by omega
      decide +kernel
    · unfold fieldV
      rw [if_neg (by decide +kernel), if_pos rfl]
      rfl
  · refine ⟨2, rfl, fun m hm => ?_, ?_, field_si _ _⟩
    · rcases (show m = 0 ∨ m = 1 by omega) with rfl | rfl <;> decide +kernel
    · unfold fieldV
      rw [if_neg (by decide +kernel), if_neg (by decide +kernel), if_pos rfl]
      rfl
  · refine ⟨3, rfl, fun m hm => ?_, ?_, field_si _ _⟩
    · rcases (show m = 0 ∨ m = 1 ∨ m = 2 by omega) with rfl | rfl | rfl <;> decide +kernel
    · unfold fieldV
      rw [if_neg (by decide +kernel), if_neg (by decide +kernel), if_neg (by decide +kernel)]
      rfl
  · exact absurd rfl hc

/-! ### the class Condition -/
abbrev sCIni : Stmt := inClass (topS 20) 0
abbrev NCIni : List Str := ["self", "form"]
abbrev PCIni : List Str := ["self", "form"]
theorem scCIni : FnScope NCIni PCIni (defScope sCIni) := ⟨rfl, rfl, rfl, by decide +kernel, rfl, by decide +kernel, by decide +kernel⟩
abbrev sCCall : Stmt := inClass (topS 20) 2
abbrev NCCall : List Str := ["self", "row", "word", "rest"]
abbrev PCCall : List Str := ["self", "row"]
theorem scCCall : FnScope NCCall PCCall (defScope sCCall) := ⟨rfl, rfl, rfl, by decide +kernel, rfl, by decide +kernel, by decide +kernel⟩
abbrev sCAnd : Stmt := inClass (topS 20) 3
abbrev NCAnd : List Str := ["self", "other"]
abbrev PCAnd : List Str := ["self", "other"]
theorem scCAnd : FnScope NCAnd PCAnd (defScope sCAnd) := ⟨rfl, rfl, rfl, by decide +kernel, rfl, by decide +kernel, by decide +kernel⟩
abbrev sCOr : Stmt := inClass (topS 20) 4
abbrev NCOr : List Str := ["self", "other"]
abbrev PCOr : List Str := ["self", "other"]
theorem scCOr : FnScope NCOr PCOr (defScope sCOr) := ⟨rfl, rfl, rfl, by decide +kernel, rfl, by decide +kernel, by decide +kernel⟩
abbrev sCInv : Stmt := inClass (topS 20) 5
abbrev NCInv : List Str := ["self"]
abbrev PCInv : List Str := ["self"]
theorem scCInv : FnScope NCInv PCInv (defScope sCInv) := ⟨rfl, rfl, rfl, by decide +kernel, rfl, by decide +kernel, by decide +kernel⟩
structure TxC (K : PySem.W.Frag) (C : Addr) : Prop where
  cl : Cls K C
  nF : NoAttr K C "form"
def CIns (C : Addr) (H : Hp) (v : V) (xs : List V) : Prop := ∃ (a t dx : Addr), v = .ref a ∧ H a = some (.ins C dx [("form", .ref t)]) ∧ H t = some (.tup xs)
def CondAt (C : Addr) (H : Hp) : Fm → V → Prop
  | .any, v => CIns C H v [.str "any"]
  | .nt g, v => ∃ x, CIns C H v [.str "not", x] ∧ CondAt C H g x
  | .bin o g h, v => ∃ x y, CIns C H v [.str (wd o), x, y] ∧ CondAt C H g x ∧ CondAt C H h y
  | .fld w u, v => CIns C H v [.str w, u]
/-- conditions stay -/
def CSame (C : Addr) (H H' : Hp) : Prop := ∀ v xs, CIns C H v xs → CIns C H' v xs
theorem CondAt.same {C : Addr} {H H' : Hp} (s : CSame C H H') : ∀ {f : Fm} {v : V}, CondAt C H f v → CondAt C H' f v
  | .any, _, h => s _ _ h
  | .nt _, _, ⟨x, h1, h2⟩ => ⟨x, s _ _ h1, CondAt.same s h2⟩
  | .bin _ _ _, _, ⟨x, y, h1, h2, h3⟩ => ⟨x, y, s _ _ h1, CondAt.same s h2, CondAt.same s h3⟩
  | .fld _ _, _, h => s _ _ h
theorem CSame.of {C : Addr} {H H' : Hp} (s : Same H H') : CSame C H H' := fun _ _ ⟨a, t, dx, e, h1, h2⟩ => ⟨a, t, dx, e, s _ _ h1, s _ _ h2⟩
theorem CSame.refl {C : Addr} {H : Hp} : CSame C H H := fun _ _ h => h
theorem CSame.trans {C : Addr} {H H1 H2 : Hp} (a : CSame C H H1) (b : CSame C H1 H2) : CSame C H H2 := fun v xs h => b v xs (a v xs h)
theorem CondAt.ref {C : Addr} {H : Hp} {f : Fm} {v : V} (h : CondAt C H f v) : ∃ a, v = .ref a ∧ ∃ dx t, H a = some (.ins C dx [("form", .ref t)]) := by
  cases f with
  | any => obtain ⟨a, t, dx, e, h1, _⟩ := h; exact ⟨a, e, dx, t, h1⟩
  | nt g => obtain ⟨_, ⟨a, t, dx, e, h1, _⟩, _⟩ := h; exact ⟨a, e, dx, t, h1⟩
  | bin o g k => obtain ⟨_, _, ⟨a, t, dx, e, h1, _⟩, _⟩ := h; exact ⟨a, e, dx, t, h1⟩
  | fld w u => obtain ⟨a, t, dx, e, h1, _⟩ := h; exact ⟨a, e, dx, t, h1⟩
theorem mkC {C : Addr} {H : Hp} {t x dx : Addr} {xs : List V} (ht : H t = none) (hx : upd H t (.tup xs) x = none) (hdx : upd H t (.tup xs) dx = none) (hne : dx ≠ x) :
    Same H (upd (upd (upd (upd H t (.tup xs)) dx (.own x)) x (.ins C dx [])) x (.ins C dx [("form", .ref t)])) ∧ CIns C (upd (upd (upd (upd H t (.tup xs)) dx (.own x)) x (.ins C dx [])) x (.ins C dx [("form", .ref t)])) (.ref x) xs := by
  have xt : t ≠ x := fun z => by rw [← z, upd_same] at hx; cases hx
  have dt : t ≠ dx := fun z => by rw [← z, upd_same] at hdx; cases hdx
  refine ⟨fun b o e => ?_, x, t, dx, rfl, upd_same, ?_⟩
  · have e1 := same_new (o := .tup xs) ht _ _ e
    have bx : b ≠ x := fun z => by rw [z, hx] at e1; cases e1
    have bd : b ≠ dx := fun z => by rw [z, hdx] at e1; cases e1
    rw [upd_ne bx, upd_ne bx, upd_ne bd]
    exact e1
  · rw [upd_ne xt, upd_ne xt, upd_ne dt, upd_same]
section
variable {P : Program} {w : World} {K : PySem.W.Frag} {mg : Str → Option Value} {base : Heap} {C fa : Addr}
def spCIni (C : Addr) : Sp := fun vs H Q _ => ∃ (S dx : Addr) (x : V), vs = [.ref S, x] ∧ H S = some (.ins C dx []) ∧ Q .non (upd H S (.ins C dx [("form", x)]))
theorem ok_CIni {f : Addr} {fd : FuncData} (F : Fun K "__init__" "Condition.__init__" sCIni f fd) (T : TxC K C) : FnOk P w K mg base CX0 1 f fd PCIni (spCIni C) := by
  refine F.ok scCIni (fun vs H Q E h => ?_) (fun cdv A outer s H vs Q E hr h => ?_)
  · obtain ⟨S, dx, x, rfl, _⟩ := h
    rfl
  · obtain ⟨S, dx, x, rfl, eS, k⟩ := h
    refine ⟨_, (pss_one (ps_fld (pv 0) (pv 1) rfl)), ?_⟩
    exact ⟨_, rfl, _, rfl, S, C, dx, [], rfl, eS, T.cl, T.nF, (by show 0 < 1000; decide), k⟩
def spBin (C : Addr) (o : Bool) : Sp := fun vs H Q _ => ∃ a b : Addr, vs = [.ref a, .ref b] ∧ ∀ c H', Same H H' → CIns C H' (.ref c) [.str (wd o), .ref a, .ref b] → Q (.ref c) H'
theorem ok_CAnd {f : Addr} {fd : FuncData} (F : Fun K "__and__" "Condition.__and__" sCAnd f fd) (HC : HasC P w K mg base CX0 1 "Condition" C PCIni (spCIni C)) : FnOk P w K mg base CX0 3 f fd PCAnd (spBin C false) := by
  refine F.ok scCAnd (fun vs H Q E h => ?_) (fun cdv A outer s H vs Q E hr h => ?_)
  · obtain ⟨a, b, rfl, _⟩ := h
    rfl
  · obtain ⟨a, b, rfl, k⟩ := h
    refine ⟨_, (pss_one (ps_ret (pe_makeH HC hr rfl pass0 (pa_cons (pe_tup (pa_cons pe_str (pa_cons (pv 0) (pa_cons (pv 1) pa_nil)))) pa_nil)))), ?_⟩
    refine ⟨_, rfl, _, rfl, (by show 3 ≤ sizeLine; decide), fun t ht => fun x dx hx hdx hne => ⟨x, dx, _, rfl, upd_same, rfl, ?_⟩⟩
    exact k x _ (mkC ht hx hdx hne).1 (mkC ht hx hdx hne).2
theorem ok_COr {f : Addr} {fd : FuncData} (F : Fun K "__or__" "Condition.__or__" sCOr f fd) (HC : HasC P w K mg base CX0 1 "Condition" C PCIni (spCIni C)) : FnOk P w K mg base CX0 3 f fd PCOr (spBin C true) := by
  refine F.ok scCOr (fun vs H Q E h => ?_) (fun cdv A outer s H vs Q E hr h => ?_)
  · obtain ⟨a, b, rfl, _⟩ := h
    rfl
  · obtain ⟨a, b, rfl, k⟩ := h
    refine ⟨_, (pss_one (ps_ret (pe_makeH HC hr rfl pass0 (pa_cons (pe_tup (pa_cons pe_str (pa_cons (pv 0) (pa_cons (pv 1) pa_nil)))) pa_nil)))), ?_⟩
    refine ⟨_, rfl, _, rfl, (by show 3 ≤ sizeLine; decide), fun t ht => fun x dx hx hdx hne => ⟨x, dx, _, rfl, upd_same, rfl, ?_⟩⟩
    exact k x _ (mkC ht hx hdx hne).1 (mkC ht hx hdx hne).2
def spInv (C : Addr) : Sp := fun vs H Q _ => ∃ a : Addr, vs = [.ref a] ∧ ∀ c H', Same H H' → CIns C H' (.ref c) [.str "not", .ref a] → Q (.ref c) H'
theorem ok_CInv {f : Addr} {fd : FuncData} (F : Fun K "__invert__" "Condition.__invert__" sCInv f fd) (HC : HasC P w K mg base CX0 1 "Condition" C PCIni (spCIni C)) : FnOk P w K mg base CX0 3 f fd PCInv (spInv C) := by
  refine F.ok scCInv (fun vs H Q E h => ?_) (fun cdv A outer s H vs Q E hr h => ?_)
  · obtain ⟨a, rfl, _⟩ := h
    rfl
  · obtain ⟨a, rfl, k⟩ := h
    refine ⟨_, (pss_one (ps_ret (pe_makeH HC hr rfl pass0 (pa_cons (pe_tup (pa_cons pe_str (pa_cons (pv 0) pa_nil))) pa_nil)))), ?_⟩
    refine ⟨_, rfl, (by show 2 ≤ sizeLine; decide), fun t ht => fun x dx hx hdx hne => ⟨x, dx, _, rfl, upd_same, rfl, ?_⟩⟩
    exact k x _ (mkC ht hx hdx hne).1 (mkC ht hx hdx hne).2
/-- a tuple of texts of the module -/
structure TupC (K : PySem.W.Frag) (mg : Str → Option Value) (x : Str) (fa : Addr) (ws : List Str) : Prop where
  c : ∃ u, mg x = some u ∧ RelV (.ref fa) u
  sq : ∀ H, SqT K H fa (ws.map V.str)
  ty : ∃ o, K.lookup fa = some o ∧ o.cls = .type "tuple" ∧ o.dict = none
def spCCall (C : Addr) : Nat → Sp
  | 0 => fun _ _ _ _ => False
  | n + 1 => fun vs H Q _ => ∃ (a r : Addr) (f : Fm) (R : Row), vs = [.ref a, .ref r] ∧ CondAt C H f (.ref a) ∧ f.ok ∧ f.dep ≤ n ∧ RowAt H r R ∧ ∀ H', Same H H' → Q (.bl (f.holds R)) H'
theorem ok_CCall {f : Addr} {fd : FuncData} (F : Fun K "__call__" "Condition.__call__" sCCall f fd) (T : TxC K C) (TF : TupC K mg "FIELDS" fa FLD) (co : StX.CallO K C f) (b : Binds K fd PCCall []) : ∀ n, FnOk P w K mg base CX0 n f fd PCCall (spCCall C n) := by
  intro n
  induction n with
  | zero => exact ⟨fun _ _ _ _ h => h.elim, fun _ _ _ _ _ _ _ _ _ _ _ _ _ h => h.elim⟩
  | succ n ih =>
    have MO : HasO P w K mg base CX0 n C PCCall (spCCall C n) := ⟨f, fd, co, ih, b⟩
    have T := And.intro T trivial
    refine F.ok scCCall (fun vs H Q E h => ?_) (fun cdv A outer s H vs Q E hr h => ?_)
    · obtain ⟨a, r, f, R, rfl, _⟩ := h
      rfl
    · obtain ⟨a, r, f, R, rfl, ca, fo, fdp, ra, k⟩ := h
      refine ⟨_, (pss_cons (ps_asg (pe_fld (pv 0) rfl) (pg_star1 (by rfl) (pgs_cons (pg_name (i := 2) scCCall.nd rfl (Or.inl rfl)) (pgs_star (pg_name (i := 3) scCCall.nd rfl (Or.inl rfl)) pgs_nil))))
  (pss_cons (ps_if (pt_cmpR op_eq (pv 2) pe_str (nomark _))
  (pss_one (ps_ret pe_bl))
  pss_nil)
  (pss_cons (ps_if (pt_cmpR op_eq (pv 2) pe_str (nomark _))
  (pss_one (ps_ret (pe_not (pe_callOH (pe_ix (r := rIxL K) ix_list (pv 3) pe_int (fun _ _ => rfl)) MO hr pass0 (pa_cons (pv 1) pa_nil)))))
  pss_nil)
  (pss_cons (ps_if (pt_cmpR op_eq (pv 2) pe_str (nomark _))
  (pss_one (ps_ret (pe_and (pe_callOH (pe_ix (r := rIxL K) ix_list (pv 3) pe_int (fun _ _ => rfl)) MO hr pass0 (pa_cons (pv 1) pa_nil)) (pe_one (pe_callOH (pe_ix (r := rIxL K) ix_list (pv 3) pe_int (fun _ _ => rfl)) MO hr pass0 (pa_cons (pv 1) pa_nil))))))
  pss_nil)
  (pss_cons (ps_if (pt_cmpR op_eq (pv 2) pe_str (nomark _))
  (pss_one (ps_ret (pe_or (pe_callOH (pe_ix (r := rIxL K) ix_list (pv 3) pe_int (fun _ _ => rfl)) MO hr pass0 (pa_cons (pv 1) pa_nil)) (pe_one (pe_callOH (pe_ix (r := rIxL K) ix_list (pv 3) pe_int (fun _ _ => rfl)) MO hr pass0 (pa_cons (pv 1) pa_nil))))))
  pss_nil)
  (pss_cons (ps_if (pt_cmpR op_eq (pv 2) pe_str (nomark _))
  (pss_one (ps_ret (pe_cmpR op_in_seq (pe_ix (r := rIxL K) ix_list (pv 3) pe_int (fun _ _ => rfl)) (pe_ix (r := rIxT K) ix_tup (pv 1) pe_int (fun _ _ => rfl)) (by rfl))))
  pss_nil)
  (pss_one (ps_ret (pe_cmpR op_eq (pe_ix (r := rIxT K) ix_tup (pv 1) (pe_bm PySem.F.plainAttrs_tuple PySem.F.slot_tuple_index PySem.F.type_tuple_index mt_tup_index (pe_globE rfl TF.c) (pa_cons (pv 2) pa_nil)) (fun _ _ => rfl)) (pe_ix (r := rIxL K) ix_list (pv 3) pe_int (fun _ _ => rfl)) (nomark _)))))))))), ?_⟩
      -- the first row: word, *rest = self.form
      have start : ∀ {t dx : Addr} {x : V} {xs : List V}, H a = some (.ins C dx [("form", .ref t)]) → H t = some (.tup (x :: xs)) → ∀ D, H D = none → SqL K (upd H D (.lst xs)) D xs ∧ Same H (upd H D (.lst xs)) := fun _ _ D hD => ⟨SqL.of upd_same, same_new hD⟩
      have no : ∀ {z z' : Str}, z ≠ z' → decide (V.str z = V.str z') = false := fun h => decide_eq_false fun e => h (by injection e)
      cases f with
      | any =>
        obtain ⟨a', t, dx, e, e1, e2⟩ := ca
        cases e
        refine ⟨_, rfl, a, C, dx, _, _, rfl, e1, T.1.cl, T.1.nF, rfl, t, _, _, rfl, SqT.of e2, fun D hD => ⟨_, _, rfl, _, _, rfl, rfl, ?_⟩⟩
        exact ⟨_, rfl, rfl, _, rfl, iteS (decide_eq_true rfl) (k _ (same_new hD))⟩
      | nt g =>
        obtain ⟨x, ⟨a', t, dx, e, e1, e2⟩, cg⟩ := ca
        cases e
        obtain ⟨m, rfl⟩ : ∃ m, n = m + 1 := ⟨n - 1, by have : g.dep + 1 ≤ n := fdp; omega⟩
        have gd : g.dep ≤ m := by have : g.dep + 1 ≤ m + 1 := fdp; omega
        obtain ⟨xa, rfl, dy, ty, ey⟩ := cg.ref
        refine ⟨_, rfl, a, C, dx, _, _, rfl, e1, T.1.cl, T.1.nF, rfl, t, _, _, rfl, SqT.of e2, fun D hD => ⟨_, _, rfl, _, _, rfl, rfl, ?_⟩⟩
        have s1 := same_new (o := .lst [.ref xa]) hD
        refine ⟨_, rfl, rfl, _, rfl, iteE (no (by decide +kernel)) ⟨_, rfl, rfl, _, rfl, iteS (decide_eq_true rfl) ?_⟩⟩
        refine ⟨_, rfl, D, _, _, _, rfl, rfl, SqL.of upd_same, rfl, xa, rfl, _, rfl, .inr ⟨dy, _, s1 _ _ ey⟩, xa, r, g, R, rfl, cg.same (.of s1), fo, gd, ra.same (.of s1), fun H2 s2 => ⟨_, rfl, k _ (s1.trans s2)⟩⟩
      | bin o g h =>
        obtain ⟨x, y, ⟨a', t, dx, e, e1, e2⟩, cg, ch⟩ := ca
        cases e
        have fdp : max g.dep h.dep + 1 ≤ n := fdp
        obtain ⟨m, rfl⟩ : ∃ m, n = m + 1 := ⟨n - 1, by omega⟩
        obtain ⟨fo1, fo2⟩ := fo
        obtain ⟨xa, rfl, dy, ty, ey⟩ := cg.ref
        obtain ⟨ya, rfl, dz, tz, ez⟩ := ch.ref
        refine ⟨_, rfl, a, C, dx, _, _, rfl, e1, T.1.cl, T.1.nF, rfl, t, _, _, rfl, SqT.of e2, fun D hD => ⟨_, _, rfl, _, _, rfl, rfl, ?_⟩⟩
        have s1 := same_new (o := .lst [.ref xa, .ref ya]) hD
        obtain ⟨H1, eH1⟩ : ∃ H1, H1 = upd H D (.lst [.ref xa, .ref ya]) := ⟨_, rfl⟩
        have eD : H1 D = some (.lst [.ref xa, .ref ya]) := by rw [eH1, upd_same]
        rw [← eH1] at s1 ⊢
        cases o with
        | false =>
          refine ⟨_, rfl, rfl, _, rfl, iteE (no (by decide +kernel)) ⟨_, rfl, rfl, _, rfl, iteE (no (by decide +kernel)) ⟨_, rfl, rfl, _, rfl, iteS (decide_eq_true rfl) ?_⟩⟩⟩
          refine ⟨_, rfl, D, _, _, _, rfl, rfl, SqL.of eD, rfl, xa, rfl, _, rfl, .inr ⟨dy, _, s1 _ _ ey⟩, xa, r, g, R, rfl, cg.same (.of s1), fo1, by omega, ra.same (.of s1), fun H2 s2 => ⟨_, rfl, ite2 (fun q => ?_) (fun q => ?_)⟩⟩
          · have s12 := s1.trans s2
            refine ⟨_, rfl, D, _, _, _, rfl, rfl, SqL.of (s2 _ _ eD), rfl, ya, rfl, _, rfl, .inr ⟨dz, _, s12 _ _ ez⟩, ya, r, h, R, rfl, ch.same (.of s12), fo2, by omega, ra.same (.of s12), fun H3 s3 => ?_⟩
            have e : (Fm.bin false g h).holds R = h.holds R := by show (g.holds R && h.holds R) = _; rw [q]; rfl
            rw [← e]
            exact k _ (s12.trans s3)
          · have e : (Fm.bin false g h).holds R = false := by show (g.holds R && h.holds R) = _; rw [Bool.eq_false_iff.mpr q]; rfl
            rw [← e]
            exact k _ (s1.trans s2)
        | true =>
          refine ⟨_, rfl, rfl, _, rfl, iteE (no (by decide +kernel)) ⟨_, rfl, rfl, _, rfl, iteE (no (by decide +kernel)) ⟨_, rfl, rfl, _, rfl, iteE (no (by decide +kernel)) ⟨_, rfl, rfl, _, rfl, iteS (decide_eq_true rfl) ?_⟩⟩⟩⟩
          refine ⟨_, rfl, D, _, _, _, rfl, rfl, SqL.of eD, rfl, xa, rfl, _, rfl, .inr ⟨dy, _, s1 _ _ ey⟩, xa, r, g, R, rfl, cg.same (.of s1), fo1, by omega, ra.same (.of s1), fun H2 s2 => ⟨_, rfl, ite2 (fun q => ?_) (fun q => ?_)⟩⟩
          · have e : (Fm.bin true g h).holds R = true := by show (g.holds R || h.holds R) = _; rw [q]; rfl
            rw [← e]
            exact k _ (s1.trans s2)
          · have s12 := s1.trans s2
            refine ⟨_, rfl, D, _, _, _, rfl, rfl, SqL.of (s2 _ _ eD), rfl, ya, rfl, _, rfl, .inr ⟨dz, _, s12 _ _ ez⟩, ya, r, h, R, rfl, ch.same (.of s12), fo2, by omega, ra.same (.of s12), fun H3 s3 => ?_⟩
            have e : (Fm.bin true g h).holds R = h.holds R := by show (g.holds R || h.holds R) = _; rw [Bool.eq_false_iff.mpr q]; rfl
            rw [← e]
            exact k _ (s12.trans s3)
      | fld wo v =>
        obtain ⟨a', t, dx, e, e1, e2⟩ := ca
        cases e
        have fo : FldOk wo v := fo
        have hw := fldOk_w fo
        obtain ⟨n1, n2, n3, n4⟩ := fld_words wo hw
        obtain ⟨cl, er, ec⟩ := ra
        refine ⟨_, rfl, a, C, dx, _, _, rfl, e1, T.1.cl, T.1.nF, rfl, t, _, _, rfl, SqT.of e2, fun D hD => ⟨_, _, rfl, _, _, rfl, rfl, ?_⟩⟩
        have s1 := same_new (o := .lst [v]) hD
        obtain ⟨H1, eH1⟩ : ∃ H1, H1 = upd H D (.lst [v]) := ⟨_, rfl⟩
        have eD : H1 D = some (.lst [v]) := by rw [eH1, upd_same]
        rw [← eH1] at s1 ⊢
        refine ⟨_, rfl, rfl, _, rfl, iteE (no n1) ⟨_, rfl, rfl, _, rfl, iteE (no n2) ⟨_, rfl, rfl, _, rfl, iteE (no n3) ⟨_, rfl, rfl, _, rfl, iteE (no n4) ?_⟩⟩⟩⟩
        have hl : (Fm.fld wo v).holds R = leafB R wo v := rfl
        rw [hl] at k
        unfold leafB at k
        by_cases hc : wo = "changes"
        · rw [if_pos hc] at k
          refine ⟨_, rfl, rfl, _, rfl, iteS (decide_eq_true (by rw [hc])) ?_⟩
          refine ⟨_, rfl, D, _, _, _, rfl, rfl, SqL.of eD, rfl, _, rfl, r, _, _, _, rfl, rfl, SqT.of (s1 _ _ er), rfl, cl, _, rfl, .inr (SqT.of (s1 _ _ ec)), fldOk_flat fo, strs_flat _, ?_⟩
          exact k _ s1
        · rw [if_neg hc] at k
          obtain ⟨j, j1, j2, j3, j4⟩ := field_at (R := R) (cl := cl) hw hc
          refine ⟨_, rfl, rfl, _, rfl, iteE (no hc) ?_⟩
          refine ⟨_, rfl, .inr (.inl ⟨rfl, TF.ty⟩), _, rfl, fa, FLD, wo, j, rfl, rfl, TF.sq _, j1, j2, r, _, _, _, rfl, rfl, SqT.of (s1 _ _ er), atI_nat j3, _, rfl, D, _, _, _, rfl, rfl, SqL.of eD, rfl, ?_⟩
          refine ⟨j4.scal (fldOk_si fo), ?_⟩
          exact k _ s1
end

/-! ### the class QuestionReader -/
abbrev sQIni : Stmt := inClass (topS 22) 0
abbrev NQIni : List Str := ["self", "text"]
abbrev PQIni : List Str := ["self", "text"]
theorem scQIni : FnScope NQIni PQIni (defScope sQIni) := ⟨rfl, rfl, rfl, by decide +kernel, rfl, by decide +kernel, by decide +kernel⟩
abbrev sQAcc : Stmt := inClass (topS 22) 2
abbrev NQAcc : List Str := ["self", "word", "token"]
abbrev PQAcc : List Str := ["self", "word"]
theorem scQAcc : FnScope NQAcc PQAcc (defScope sQAcc) := ⟨rfl, rfl, rfl, by decide +kernel, rfl, by decide +kernel, by decide +kernel⟩
abbrev sQEnd : Stmt := inClass (topS 22) 4
abbrev NQEnd : List Str := ["self"]
abbrev PQEnd : List Str := ["self"]
theorem scQEnd : FnScope NQEnd PQEnd (defScope sQEnd) := ⟨rfl, rfl, rfl, by decide +kernel, rfl, by decide +kernel, by decide +kernel⟩
abbrev sQVal : Stmt := inClass (topS 22) 9
abbrev NQVal : List Str := ["self", "word", "token"]
abbrev PQVal : List Str := ["self", "word"]
theorem scQVal : FnScope NQVal PQVal (defScope sQVal) := ⟨rfl, rfl, rfl, by decide +kernel, rfl, by decide +kernel, by decide +kernel⟩
abbrev sQAtom : Stmt := inClass (topS 22) 8
abbrev NQAtom : List Str := ["self", "word"]
abbrev PQAtom : List Str := ["self"]
theorem scQAtom : FnScope NQAtom PQAtom (defScope sQAtom) := ⟨rfl, rfl, rfl, by decide +kernel, rfl, by decide +kernel, by decide +kernel⟩
abbrev sQOne : Stmt := inClass (topS 22) 7
abbrev NQOne : List Str := ["self", "found"]
abbrev PQOne : List Str := ["self"]
theorem scQOne : FnScope NQOne PQOne (defScope sQOne) := ⟨rfl, rfl, rfl, by decide +kernel, rfl, by decide +kernel, by decide +kernel⟩
abbrev sQBoth : Stmt := inClass (topS 22) 6
abbrev NQBoth : List Str := ["self", "found"]
abbrev PQBoth : List Str := ["self"]
theorem scQBoth : FnScope NQBoth PQBoth (defScope sQBoth) := ⟨rfl, rfl, rfl, by decide +kernel, rfl, by decide +kernel, by decide +kernel⟩
abbrev sQCond : Stmt := inClass (topS 22) 5
abbrev NQCond : List Str := ["self", "found"]
abbrev PQCond : List Str := ["self"]
theorem scQCond : FnScope NQCond PQCond (defScope sQCond) := ⟨rfl, rfl, rfl, by decide +kernel, rfl, by decide +kernel, by decide +kernel⟩
abbrev sRdCond : Stmt := topS 23
abbrev NRdCond : List Str := ["text", "reader", "found"]
abbrev PRdCond : List Str := ["text"]
theorem scRdCond : FnScope NRdCond PRdCond (defScope sRdCond) := ⟨rfl, rfl, rfl, by decide +kernel, rfl, by decide +kernel, by decide +kernel⟩
def qdF (L : Addr) (i d : Nat) : List (Str × V) := [("tokens", .ref L), ("at", .int (i : Nat)), ("depth", .int (d : Nat))]
structure TxQ (K : PySem.W.Frag) (C : Addr) : Prop where
  cl : Cls K C
  nT : NoAttr K C "tokens"
  nI : NoAttr K C "at"
  nD : NoAttr K C "depth"
def QdAt (C : Addr) (H : Hp) (S L : Addr) (i d : Nat) (ts : List TK) : Prop := ∃ (dx : Addr) (xs : List V), H S = some (.ins C dx (qdF L i d)) ∧ H L = some (.lst xs) ∧ Paired (TkAt H) xs ts
def Bt (S : Addr) (H H' : Hp) : Prop := ∀ b o, H b = some o → b ≠ S → H' b = some o
theorem Bt.refl {S : Addr} {H : Hp} : Bt S H H := fun _ _ e _ => e
theorem Bt.trans {S : Addr} {H H1 H2 : Hp} (a : Bt S H H1) (b : Bt S H1 H2) : Bt S H H2 := fun c o e h => b c o (a c o e h) h
theorem Bt.of {S : Addr} {H H' : Hp} (s : Same H H') : Bt S H H' := fun b o e _ => s b o e
theorem bt_upd {H : Hp} {S : Addr} {o : HO} : Bt S H (upd H S o) := fun b x e h => by rw [upd_ne h]; exact e
theorem QdAt.same {C : Addr} {H H' : Hp} {S L : Addr} {i d : Nat} {ts : List TK} (h : QdAt C H S L i d ts) (s : Same H H') : QdAt C H' S L i d ts := let ⟨dx, xs, e1, e2, e3⟩ := h; ⟨dx, xs, s _ _ e1, s _ _ e2, Paired.mapP e3 fun _ _ q => q.same fun _ _ e => s _ _ e⟩
theorem QdAt.step {C : Addr} {H : Hp} {S L dx : Addr} {i j d e : Nat} {ts : List TK} (h : QdAt C H S L i d ts) : QdAt C (upd H S (.ins C dx (qdF L j e))) S L j e ts := by
  obtain ⟨dy, xs, e1, e2, e3⟩ := h
  refine ⟨dx, xs, upd_same, by rw [upd_ne (ne_of e2 e1 fun z => by cases z)]; exact e2, Paired.mapP e3 fun _ _ q => q.same fun b ys e => ?_⟩
  rw [upd_ne (ne_of e e1 fun z => by cases z)]
  exact e
theorem QdAt.csame {CQ CC : Addr} {H H' : Hp} {S L : Addr} {i d : Nat} {ts : List TK} (h : QdAt CQ H S L i d ts) (b : Bt S H H') : CSame CC H H' := by
  obtain ⟨dx, xs, e1, _⟩ := h
  rintro v ys ⟨a, t, dy, rfl, h1, h2⟩
  exact ⟨a, t, dy, rfl, b _ _ h1 (ne_of h1 e1 fun z => by injection z with _ _ z; cases z), b _ _ h2 (ne_of h2 e1 fun z => by cases z)⟩
theorem qta_ne : ¬ (("tokens" : Str) = "at") := by decide +kernel
theorem qtd_ne : ¬ (("tokens" : Str) = "depth") := by decide +kernel
theorem qad_ne : ¬ (("at" : Str) = "depth") := by decide +kernel
theorem putF_at (L : Addr) (i j d : Nat) : putF "at" (.int (j : Nat)) (qdF L i d) = qdF L j d := by
  show (if ("tokens" : Str) = "at" then _ else (("tokens" : Str), V.ref L) :: (if ("at" : Str) = "at" then _ else _)) = _
  rw [if_neg qta_ne, if_pos rfl]
  rfl
theorem putF_dep (L : Addr) (i d e : Nat) : putF "depth" (.int (e : Nat)) (qdF L i d) = qdF L i e := by
  show (if ("tokens" : Str) = "depth" then _ else (("tokens" : Str), V.ref L) :: (if ("at" : Str) = "depth" then _ else (("at" : Str), V.int (i : Nat)) :: (if ("depth" : Str) = "depth" then _ else _))) = _
  rw [if_neg qtd_ne, if_neg qad_ne, if_pos rfl]
  rfl
theorem putF_qd (L : Addr) : putF "depth" (.int 0) (putF "at" (.int 0) (putF "tokens" (.ref L) [])) = qdF L 0 0 := by
  show putF "depth" (.int 0) (if ("tokens" : Str) = "at" then _ else (("tokens" : Str), V.ref L) :: [(("at" : Str), V.int 0)]) = _
  rw [if_neg qta_ne]
  show (if ("tokens" : Str) = "depth" then _ else (("tokens" : Str), V.ref L) :: (if ("at" : Str) = "depth" then _ else (("at" : Str), V.int 0) :: [(("depth" : Str), V.int 0)])) = _
  rw [if_neg qtd_ne, if_neg qad_ne]
  rfl
theorem dec_str (a b : Str) : decide (V.str a = V.str b) = decide (a = b) := decide_eq_decide.mpr ⟨fun h => by injection h, fun h => by rw [h]⟩
def isTok (tk : TK) (z : Str) : Bool := (decide (tk.1 = "name") || decide (tk.1 = "mark")) && decide (tk.2.1 = z)
theorem in_nm (k : Str) : inV (.str k) [V.str "name", V.str "mark"] = (decide (k = "name") || decide (k = "mark")) := by
  unfold inV
  rw [List.any_cons, List.any_cons, List.any_nil, Bool.or_false]
  have e : ∀ a : Str, eqV (.str a) (.str k) = decide (k = a) := fun a => by
    show (a == k) = _
    by_cases h : k = a
    · rw [decide_eq_true h, h]; exact beq_self_eq_true a
    · rw [decide_eq_false h]; exact beq_eq_false_iff_ne.mpr fun z => h z.symm
  rw [e, e]
section
variable {P : Program} {w : World} {K : PySem.W.Frag} {mg : Str → Option Value} {base : Heap} {kw C CQ CC fa va : Addr}
structure TxQm (mg : Str → Option Value) : Prop where
  n_isinstance : mg "isinstance" = none
  n_str : mg "str" = none
  n_len : mg "len" = none
  n_int : mg "int" = none
  c_LONGEST : ∃ u, mg "LONGEST" = some u ∧ RelV (.int 12) u
  c_DEEPEST : ∃ u, mg "DEEPEST" = some u ∧ RelV (.int 30) u
def spQIni (C : Addr) : Sp := fun vs H Q _ => ∃ (S dx : Addr) (z : Str) (ts : List TK), vs = [.ref S, .str z] ∧ H S = some (.ins C dx []) ∧ z.length ≤ 100000 ∧ Tkz z.cps.toList 0 ts ∧ ts.length ≤ 100001 ∧ ∀ (L : Addr) (H' : Hp), Bt S H H' → QdAt C H' S L 0 0 ts → Q .non H'
theorem ok_QIni {f : Addr} {fd : FuncData} (F : Fun K "__init__" "QuestionReader.__init__" sQIni f fd) (T : TxQm mg) (TR : TxQ K C) (GT : Has P w K mg base CX0 2 "tokens_of" PToksOf spToks) : FnOk P w K mg base CX0 3 f fd PQIni (spQIni C) := by
  refine F.ok scQIni (fun vs H Q E h => ?_) (fun cdv A outer s H vs Q E hr h => ?_)
  · obtain ⟨S, dx, z, ts, rfl, _⟩ := h
    rfl
  · obtain ⟨S, dx, z, ts, rfl, eS, hz, ht, lt, k⟩ := h
    refine ⟨_, (pss_cons (ps_if (pt_not (pt_val (pe_callB call_isi (by rfl) T.n_isinstance bb_isinstance (pa_cons (pv 1) (pa_cons (pe_bltn (v := .ty "str") (by rfl) T.n_str bb_str rfl) pa_nil)))))
  (pss_one ps_never)
  pss_nil)
  (pss_cons (ps_fld (pv 0) (pe_callH GT hr rfl pass0 (pa_cons (pv 1) pa_nil)) rfl)
  (pss_cons (ps_fld (pv 0) pe_int rfl)
  (pss_one (ps_fld (pv 0) pe_int rfl))))), ?_⟩
    refine ⟨_, rfl, _, _, _, _, _, rfl, .ty _, .base (.str z), kit_ty (r := true) (by decide +kernel), _, rfl, iteE rfl ?_⟩
    refine ⟨_, rfl, z, ts, rfl, hz, ht, lt, fun L xs H1 s1 fL eL hp => ?_⟩
    have eS1 := s1 _ _ eS
    have LS : L ≠ S := ne_of eL eS1 fun z => by cases z
    refine ⟨_, rfl, S, C, dx, [], rfl, eS1, TR.cl, TR.nT, (by show 0 < 1000; decide), ?_⟩
    refine ⟨_, rfl, S, C, dx, _, rfl, upd_same, TR.cl, TR.nI, (by show 1 < 1000; decide), ?_⟩
    refine ⟨_, rfl, S, C, dx, _, rfl, upd_same, TR.cl, TR.nD, (by show 2 < 1000; decide), ?_⟩
    refine k L _ (fun b o e hb => by rw [upd_ne hb, upd_ne hb, upd_ne hb]; exact s1 _ _ e) ⟨dx, xs, by rw [upd_same, putF_qd], by rw [upd_ne LS, upd_ne LS, upd_ne LS]; exact eL, Paired.mapP hp fun _ _ q => q.same fun b ys e => ?_⟩
    have bS : b ≠ S := ne_of e eS1 fun z => by cases z
    rw [upd_ne bS, upd_ne bS, upd_ne bS]
    exact e
/-- the token that is read next -/
theorem QdAt.tok {C : Addr} {H : Hp} {S L : Addr} {i d : Nat} {ts : List TK} {tk : TK} (h : QdAt C H S L i d ts) (ht : ts[i]? = some tk) : ∃ (dx : Addr) (xs : List V) (p : Addr), H S = some (.ins C dx (qdF L i d)) ∧ H L = some (.lst xs) ∧ atI xs ((i : Nat) : Int) = some (V.ref p) ∧ H p = some (.tup [.str tk.1, .str tk.2.1, .int (tk.2.2 : Nat)]) := by
  obtain ⟨dx, xs, e1, e2, e3⟩ := h
  have hi : i < xs.length := by rw [Paired.length e3]; exact (List.getElem?_eq_some_iff.mp ht).1
  obtain ⟨tk', h1, p, h2, h3⟩ := Paired.at e3 (List.getElem?_eq_getElem hi)
  rw [ht] at h1
  cases h1
  exact ⟨dx, xs, p, e1, e2, atI_nat (by rw [List.getElem?_eq_getElem hi, h2]), h3⟩
def nxt (tk : TK) (z : Str) (i : Nat) : Nat := if isTok tk z = true then i + 1 else i
def spQAcc (C : Addr) : Sp := fun vs H Q _ => ∃ (S L : Addr) (i d : Nat) (ts : List TK) (tk : TK) (z : Str), vs = [.ref S, .str z] ∧ QdAt C H S L i d ts ∧ ts[i]? = some tk ∧ ∀ H', Bt S H H' → QdAt C H' S L (nxt tk z i) d ts → Q (.bl (isTok tk z)) H'
theorem ok_QAcc {f : Addr} {fd : FuncData} (F : Fun K "accept" "QuestionReader.accept" sQAcc f fd) (TR : TxQ K C) : FnOk P w K mg base CX0 1 f fd PQAcc (spQAcc C) := by
  refine F.ok scQAcc (fun vs H Q E h => ?_) (fun cdv A outer s H vs Q E hr h => ?_)
  · obtain ⟨S, L, i, d, ts, tk, z, rfl, _⟩ := h
    rfl
  · obtain ⟨S, L, i, d, ts, tk, z, rfl, ra, ht, k⟩ := h
    obtain ⟨dx, xs, p, e1, e2, e3, e4⟩ := ra.tok ht
    refine ⟨_, (pss_cons (ps_set (i := 2) scQAcc.nd rfl (Or.inl rfl) (pe_ix (r := rIxL K) ix_list (pe_fld (pv 0) rfl) (pe_fld (pv 0) rfl) (fun _ _ => rfl)))
  (pss_cons (ps_if (PW.pt (pw_or (pt_cmpR op_notIn_seq (pe_ix (r := rIxT K) ix_tup (pv 2) pe_int (fun _ _ => rfl)) (pe_tup (pa_cons pe_str (pa_cons pe_str pa_nil))) (by rfl)) (pw_or1 (pt_cmpR op_ne (pe_ix (r := rIxT K) ix_tup (pv 2) pe_int (fun _ _ => rfl)) (pv 1) (nomark _)))))
  (pss_one (ps_ret pe_bl))
  pss_nil)
  (pss_cons (ps_fldaug (pv 0) pe_int in_add)
  (pss_one (ps_ret pe_bl))))), ?_⟩
    refine ⟨_, rfl, S, C, dx, _, _, rfl, e1, TR.cl, TR.nT, rfl, _, rfl, S, C, dx, _, _, rfl, e1, TR.cl, TR.nI, rfl, L, _, _, _, rfl, rfl, SqL.of e2, e3, ?_⟩
    refine ⟨_, rfl, p, _, _, _, rfl, rfl, SqT.of e4, rfl, (by show 2 ≤ sizeLine; decide), fun q hq => ?_⟩
    have s1 := same_new (o := .tup [.str "name", .str "mark"]) hq
    obtain ⟨H1, eH1⟩ : ∃ H1, H1 = upd H q (.tup [.str "name", .str "mark"]) := ⟨_, rfl⟩
    have eq1 : H1 q = some (.tup [.str "name", .str "mark"]) := by rw [eH1, upd_same]
    rw [← eH1] at s1 ⊢
    refine ⟨q, _, rfl, .inr (SqT.of eq1), rfl, rfl, _, rfl, ?_⟩
    unfold isTok at k
    show if (!inV (.str tk.1) [V.str "name", V.str "mark"]) = true then _ else _
    rw [in_nm]
    cases h1 : (decide (tk.1 = "name") || decide (tk.1 = "mark")) with
    | false =>
      refine iteS rfl (iteS rfl ?_)
      rw [h1, Bool.false_and] at k
      refine k _ (.of s1) ?_
      unfold nxt isTok
      rw [h1, Bool.false_and]
      exact ra.same s1
    | true =>
      refine iteE rfl ?_
      rw [h1, Bool.true_and] at k
      refine ⟨_, rfl, p, _, _, _, rfl, rfl, SqT.of (s1 _ _ e4), rfl, _, rfl, rfl, _, rfl, ?_⟩
      rw [dec_str]
      by_cases h2 : tk.2.1 = z
      · rw [decide_eq_true h2] at k ⊢
        refine iteE rfl ?_
        refine ⟨_, rfl, S, C, dx, _, _, rfl, s1 _ _ e1, TR.cl, TR.nI, rfl, _, _, rfl, rfl, dx, _, s1 _ _ e1, (by show 3 < 1000; decide), ?_⟩
        have e : putF "at" (.int (((i : Nat) : Int) + 1)) (qdF L i d) = qdF L (i + 1) d := putF_at L i (i + 1) d
        rw [e]
        refine k _ ((Bt.of s1).trans bt_upd) ?_
        unfold nxt isTok
        rw [h1, decide_eq_true h2]
        exact (ra.same s1).step
      · rw [decide_eq_false h2] at k ⊢
        refine iteS rfl ?_
        refine k _ (.of s1) ?_
        unfold nxt isTok
        rw [h1, decide_eq_false h2]
        exact ra.same s1
def spQEnd (C : Addr) : Sp := fun vs H Q _ => ∃ (S L : Addr) (i d : Nat) (ts : List TK) (tk : TK), vs = [.ref S] ∧ QdAt C H S L i d ts ∧ ts[i]? = some tk ∧ tk.1 = "end" ∧ Q .non H
theorem ok_QEnd {f : Addr} {fd : FuncData} (F : Fun K "read_end" "QuestionReader.read_end" sQEnd f fd) (TR : TxQ K C) : FnOk P w K mg base CX0 1 f fd PQEnd (spQEnd C) := by
  refine F.ok scQEnd (fun vs H Q E h => ?_) (fun cdv A outer s H vs Q E hr h => ?_)
  · obtain ⟨S, L, i, d, ts, tk, rfl, _⟩ := h
    rfl
  · obtain ⟨S, L, i, d, ts, tk, rfl, ra, ht, he, k⟩ := h
    obtain ⟨dx, xs, p, e1, e2, e3, e4⟩ := ra.tok ht
    refine ⟨_, (pss_one (ps_if (pt_cmpR op_ne (pe_ix (r := rIxT K) ix_tup (pe_ix (r := rIxL K) ix_list (pe_fld (pv 0) rfl) (pe_fld (pv 0) rfl) (fun _ _ => rfl)) pe_int (fun _ _ => rfl)) pe_str (nomark _))
  (pss_one ps_never)
  pss_nil)), ?_⟩
    refine ⟨_, rfl, S, C, dx, _, _, rfl, e1, TR.cl, TR.nT, rfl, _, rfl, S, C, dx, _, _, rfl, e1, TR.cl, TR.nI, rfl, L, _, _, _, rfl, rfl, SqL.of e2, e3, p, _, _, _, rfl, rfl, SqT.of e4, rfl, rfl, _, rfl, iteE (by rw [dec_str, decide_eq_true he]; rfl) ?_⟩
    exact k
/-- the token of a value -/
inductive ValTok : Str → TK → V → Prop
  | place (n a : Nat) (h : n < 10 ^ 12) : ValTok "place" ("number", numS n, a) (.int (n : Nat))
  | verdict (z : Str) (a : Nat) (h : z ∈ VDS) : ValTok "verdict" ("name", z, a) (.str z)
  | name (w z : Str) (a : Nat) (h1 : w ≠ "place") (h2 : w ≠ "verdict") : ValTok w ("name", z, a) (.str z)
def spQVal (C : Addr) : Sp := fun vs H Q _ => ∃ (S L : Addr) (i d : Nat) (ts : List TK) (tk : TK) (z : Str) (v : V), vs = [.ref S, .str z] ∧ QdAt C H S L i d ts ∧ ts[i]? = some tk ∧ ValTok z tk v ∧ ∀ H', Bt S H H' → QdAt C H' S L (i + 1) d ts → Q v H'
theorem valTok_len {z : Str} {tk : TK} {v : V} (h : ValTok z tk v) : z = "place" → tk.2.1.length ≤ 12 ∧ ∃ i : Int, PySem.intText? tk.2.1 = some i ∧ v = .int i := fun e => by
  cases h with
  | place n a h => exact ⟨num_len h, _, num_int h, rfl⟩
  | verdict _ _ _ => exact absurd e (by decide +kernel)
  | name _ _ _ h1 _ => exact absurd e h1
theorem vds_in {z : Str} (h : z ∈ VDS) : inV (.str z) (VDS.map V.str) = true := by
  unfold inV
  rw [List.any_eq_true]
  exact ⟨.str z, List.mem_map.mpr ⟨z, h, rfl⟩, by show (z == z) = true; exact beq_self_eq_true z⟩
theorem ok_QVal {f : Addr} {fd : FuncData} (F : Fun K "read_value" "QuestionReader.read_value" sQVal f fd) (T : TxQm mg) (TR : TxQ K C) (TV : TupC K mg "VERDICTS" va VDS) : FnOk P w K mg base CX0 1 f fd PQVal (spQVal C) := by
  refine F.ok scQVal (fun vs H Q E h => ?_) (fun cdv A outer s H vs Q E hr h => ?_)
  · obtain ⟨S, L, i, d, ts, tk, z, v, rfl, _⟩ := h
    rfl
  · obtain ⟨S, L, i, d, ts, tk, z, v, rfl, ra, ht, hv, k⟩ := h
    obtain ⟨dx, xs, p, e1, e2, e3, e4⟩ := ra.tok ht
    refine ⟨_, (pss_cons (ps_set (i := 2) scQVal.nd rfl (Or.inl rfl) (pe_ix (r := rIxL K) ix_list (pe_fld (pv 0) rfl) (pe_fld (pv 0) rfl) (fun _ _ => rfl)))
  (pss_cons (ps_if (pt_cmpR op_ne (pe_ix (r := rIxT K) ix_tup (pv 2) pe_int (fun _ _ => rfl)) (pe_ifExp (pt_cmpR op_eq (pv 1) pe_str (nomark _)) pe_str pe_str) (nomark _))
  (pss_one ps_never)
  pss_nil)
  (pss_cons (ps_if (PW.pt (pw_and (pt_cmpR op_eq (pv 1) pe_str (nomark _)) (pw_and1 (pt_cmpR op_notIn_seq (pe_ix (r := rIxT K) ix_tup (pv 2) pe_int (fun _ _ => rfl)) (pe_globE rfl TV.c) (by rfl)))))
  (pss_one ps_never)
  pss_nil)
  (pss_cons (ps_if (PW.pt (pw_and (pt_cmpR op_eq (pv 1) pe_str (nomark _)) (pw_and1 (pt_cmpR op_gt (pe_callB call_len_str (by rfl) T.n_len bb_len (pa_cons (pe_ix (r := rIxT K) ix_tup (pv 2) pe_int (fun _ _ => rfl)) pa_nil)) (pe_globE rfl T.c_LONGEST) (nomark _)))))
  (pss_one ps_never)
  pss_nil)
  (pss_cons (ps_fldaug (pv 0) pe_int in_add)
  (pss_one (ps_ret (pe_ifExp (pt_cmpR op_eq (pv 1) pe_str (nomark _)) (pe_callTy call_int_str (by rfl) T.n_int bb_int (pa_cons (pe_ix (r := rIxT K) ix_tup (pv 2) pe_int (fun _ _ => rfl)) pa_nil)) (pe_ix (r := rIxT K) ix_tup (pv 2) pe_int (fun _ _ => rfl)))))))))), ?_⟩
    refine ⟨_, rfl, S, C, dx, _, _, rfl, e1, TR.cl, TR.nT, rfl, _, rfl, S, C, dx, _, _, rfl, e1, TR.cl, TR.nI, rfl, L, _, _, _, rfl, rfl, SqL.of e2, e3, ?_⟩
    have e : putF "at" (.int (((i : Nat) : Int) + 1)) (qdF L i d) = qdF L (i + 1) d := putF_at L i (i + 1) d
    have no : ∀ {z z' : Str}, z ≠ z' → decide (V.str z = V.str z') = false := fun h => decide_eq_false fun e => h (by injection e)
    have pS : p ≠ S := ne_of e4 e1 fun z => by cases z
    cases hv with
    | place n a hn =>
      refine ⟨_, rfl, p, _, _, _, rfl, rfl, SqT.of e4, rfl, _, rfl, rfl, _, rfl, iteS (decide_eq_true rfl) ?_⟩
      refine ⟨rfl, _, rfl, iteE (by rw [decide_eq_true rfl]; rfl) ?_⟩
      refine ⟨_, rfl, rfl, _, rfl, iteE (no (by decide +kernel)) ?_⟩
      refine iteE rfl ?_
      refine ⟨_, rfl, rfl, _, rfl, iteS (decide_eq_true rfl) ?_⟩
      refine ⟨_, rfl, p, _, _, _, rfl, rfl, SqT.of e4, rfl, _, rfl, Nat.le_trans (num_len hn) (by decide), _, _, rfl, rfl, _, rfl, iteE (decide_eq_false (by have := num_len hn; simp only; omega)) ?_⟩
      refine ⟨_, rfl, S, C, dx, _, _, rfl, e1, TR.cl, TR.nI, rfl, _, _, rfl, rfl, dx, _, e1, (by show 3 < 1000; decide), ?_⟩
      rw [e]
      refine ⟨_, rfl, rfl, _, rfl, iteS (decide_eq_true rfl) ?_⟩
      exact ⟨_, rfl, p, _, _, _, rfl, rfl, SqT.of (by rw [upd_ne pS]; exact e4), rfl, _, _, rfl, num_int hn, Nat.le_trans (num_len hn) (by decide), k _ bt_upd ra.step⟩
    | verdict z' a hz =>
      refine ⟨_, rfl, p, _, _, _, rfl, rfl, SqT.of e4, rfl, _, rfl, rfl, _, rfl, iteE (no (by decide +kernel)) ?_⟩
      refine ⟨rfl, _, rfl, iteE (by rw [decide_eq_true rfl]; rfl) ?_⟩
      refine ⟨_, rfl, rfl, _, rfl, iteS (decide_eq_true rfl) ?_⟩
      refine ⟨_, rfl, p, _, _, _, rfl, rfl, SqT.of e4, rfl, va, _, rfl, .inr (TV.sq _), rfl, strs_flat _, _, rfl, iteE (by show (!inV (.str z') (VDS.map V.str)) = false; rw [vds_in hz]; rfl) ?_⟩
      refine ⟨_, rfl, rfl, _, rfl, iteE (no (by decide +kernel)) (iteE rfl ?_)⟩
      refine ⟨_, rfl, S, C, dx, _, _, rfl, e1, TR.cl, TR.nI, rfl, _, _, rfl, rfl, dx, _, e1, (by show 3 < 1000; decide), ?_⟩
      rw [e]
      refine ⟨_, rfl, rfl, _, rfl, iteE (no (by decide +kernel)) ?_⟩
      exact ⟨_, rfl, p, _, _, _, rfl, rfl, SqT.of (by rw [upd_ne pS]; exact e4), rfl, k _ bt_upd ra.step⟩
    | name _ _ a h1 h2 =>
      refine ⟨_, rfl, p, _, _, _, rfl, rfl, SqT.of e4, rfl, _, rfl, rfl, _, rfl, iteE (no h1) ?_⟩
      refine ⟨rfl, _, rfl, iteE (by rw [decide_eq_true rfl]; rfl) ?_⟩
      refine ⟨_, rfl, rfl, _, rfl, iteE (no h2) (iteE rfl ?_)⟩
      refine ⟨_, rfl, rfl, _, rfl, iteE (no h1) (iteE rfl ?_)⟩
      refine ⟨_, rfl, S, C, dx, _, _, rfl, e1, TR.cl, TR.nI, rfl, _, _, rfl, rfl, dx, _, e1, (by show 3 < 1000; decide), ?_⟩
      rw [e]
      refine ⟨_, rfl, rfl, _, rfl, iteE (no h1) ?_⟩
      exact ⟨_, rfl, p, _, _, _, rfl, rfl, SqT.of (by rw [upd_ne pS]; exact e4), rfl, k _ bt_upd ra.step⟩
/-! read_atom -/
inductive AtomAt (ts : List TK) : Nat → Fm → Nat → Prop
  | any {i : Nat} {tk : TK} (h : ts[i]? = some tk) (ht : isTok tk "any" = true) : AtomAt ts i .any (i + 1)
  | fld {i a : Nat} {z : Str} {tk : TK} {v : V} (hz : z ∈ FLD) (h : ts[i]? = some (("name", z, a) : TK)) (h1 : ts[i + 1]? = some tk) (hv : ValTok z tk v) : AtomAt ts i (.fld z v) (i + 1 + 1)
theorem tok_name {z z' : Str} {a : Nat} : isTok (("name", z, a) : TK) z' = decide (z = z') := by
  unfold isTok
  rw [decide_eq_true rfl]
  rfl
def spQAtom (CQ CC : Addr) : Sp := fun vs H Q _ => ∃ (S L : Addr) (i j d : Nat) (ts : List TK) (f : Fm), vs = [.ref S] ∧ QdAt CQ H S L i d ts ∧ AtomAt ts i f j ∧ ∀ v H', Bt S H H' → QdAt CQ H' S L j d ts → CondAt CC H' f v → Q v H'
theorem ok_QAtom {f : Addr} {fd : FuncData} (F : Fun K "read_atom" "QuestionReader.read_atom" sQAtom f fd) (TR : TxQ K CQ) (TF : TupC K mg "FIELDS" fa FLD) (MA : HasM P w K mg base CX0 1 CQ "accept" PQAcc (spQAcc CQ)) (MV : HasM P w K mg base CX0 1 CQ "read_value" PQVal (spQVal CQ)) (HC : HasC P w K mg base CX0 1 "Condition" CC PCIni (spCIni CC)) :
    FnOk P w K mg base CX0 3 f fd PQAtom (spQAtom CQ CC) := by
  refine F.ok scQAtom (fun vs H Q E h => ?_) (fun cdv A outer s H vs Q E hr h => ?_)
  · obtain ⟨S, L, i, j, d, ts, f, rfl, _⟩ := h
    rfl
  · obtain ⟨S, L, i, j, d, ts, f, rfl, ra, ha, k⟩ := h
    have hr1 := hr.mono (j := 1) (by decide)
    refine ⟨_, (pss_cons (ps_if (pt_val (pe_methH (pv 0) TR.cl MA hr1 pass0 (pa_cons pe_str pa_nil)))
  (pss_one (ps_ret (pe_makeH HC hr rfl pass0 (pa_cons (pe_tup (pa_cons pe_str pa_nil)) pa_nil))))
  pss_nil)
  (pss_cons (ps_for PassesOwn.never rfl (pi_tup (pe_globE rfl TF.c)) (pg_name (i := 1) scQAtom.nd rfl (Or.inl rfl))
  (pss_one (ps_if (pt_val (pe_methH (pv 0) TR.cl MA hr1 pass0 (pa_cons (pv 1) pa_nil)))
  (pss_one (ps_ret (pe_makeH HC hr rfl pass0 (pa_cons (pe_tup (pa_cons (pv 1) (pa_cons (pe_methH (pv 0) TR.cl MV hr1 pass0 (pa_cons (pv 1) pa_nil)) pa_nil))) pa_nil))))
  pss_nil)))
  (pss_one ps_never))), ?_⟩
    obtain ⟨dx, xs, e1, _⟩ := id ra
    cases ha with
    | @any tk h ht =>
      refine ⟨_, rfl, S, dx, _, rfl, e1, rfl, S, L, i, d, ts, tk, "any", rfl, ra, h, fun H1 b1 ra1 => ⟨_, rfl, iteS ht ?_⟩⟩
      refine ⟨(by show 1 ≤ sizeLine; decide), fun t ht' => fun x dx hx hdx hne => ⟨x, dx, _, rfl, upd_same, rfl, ?_⟩⟩
      obtain ⟨m1, m2⟩ := mkC (C := CC) ht' hx hdx hne
      have en : nxt tk "any" i = i + 1 := if_pos ht
      rw [en] at ra1
      exact k _ _ (b1.trans (.of m1)) (ra1.same m1) m2
    | @fld a z tk v hz h h1 hv =>
      refine ⟨_, rfl, S, dx, _, rfl, e1, rfl, S, L, i, d, ts, _, "any", rfl, ra, h, fun H1 b1 ra1 => ⟨_, rfl, iteE (by rw [tok_name, decide_eq_false (fld_words z hz).1]) ?_⟩⟩
      obtain ⟨q, hq⟩ := List.getElem?_of_mem hz
      have en : nxt (("name", z, a) : TK) "any" i = i := if_neg (by rw [tok_name, decide_eq_false (fld_words z hz).1]; decide)
      rw [en] at ra1
      refine ⟨fa, rfl, ⟨_, TF.sq _⟩, for_tup (xs := FLD.map V.str) (fun m σ H' => Bt S H H' ∧ QdAt CQ H' S L i d ts ∧ m ≤ q ∧ ∃ x, σ = [some (.ref S), x]) ⟨b1, ra1, Nat.zero_le _, _, rfl⟩ (fun _ _ _ _ _ => TF.sq _) ?_ ?_⟩
      · rintro m x σ H2 hx ⟨b2, ra2, hm, y, rfl⟩
        rw [List.getElem?_map] at hx
        obtain ⟨wm, hwm, rfl⟩ : ∃ wm, FLD[m]? = some wm ∧ x = V.str wm := by
          cases e : FLD[m]? with
          | none => rw [e] at hx; cases hx
          | some wm => rw [e] at hx; exact ⟨wm, rfl, (Option.some.inj hx).symm⟩
        obtain ⟨dx2, xs2, e2, _⟩ := id ra2
        refine ⟨_, rfl, S, dx2, _, rfl, e2, rfl, _, rfl, S, L, i, d, ts, _, wm, rfl, ra2, h, fun H3 b3 ra3 => ⟨_, rfl, ite2 (fun c => ?_) (fun c => ?_)⟩⟩
        · have c' := c
          rw [tok_name] at c'
          have ez : z = wm := of_decide_eq_true c'
          subst ez
          have en : nxt (("name", z, a) : TK) z i = i + 1 := if_pos c
          rw [en] at ra3
          obtain ⟨dx3, xs3, e3, _⟩ := id ra3
          refine ⟨_, rfl, _, rfl, S, dx3, _, rfl, e3, rfl, _, rfl, S, L, i + 1, d, ts, tk, z, v, rfl, ra3, h1, hv, fun H4 b4 ra4 => ?_⟩
          refine ⟨(by show 2 ≤ sizeLine; decide), fun t ht' => fun x dx hx hdx hne => ⟨x, dx, _, rfl, upd_same, rfl, ?_⟩⟩
          obtain ⟨m1, m2⟩ := mkC (C := CC) ht' hx hdx hne
          exact k _ _ (((b2.trans b3).trans b4).trans (.of m1)) (ra4.same m1) m2
        · have c' := c
          rw [tok_name] at c'
          have en : nxt (("name", z, a) : TK) wm i = i := if_neg c
          rw [en] at ra3
          refine ⟨b2.trans b3, ra3, ?_, _, rfl⟩
          rcases Nat.lt_or_ge m q with g | g
          · exact g
          · have e : m = q := by omega
            rw [e, hq] at hwm
            cases hwm
            exact absurd (decide_eq_true rfl) c'
      · rintro σ H2 ⟨_, _, hm, _⟩
        have := (List.getElem?_eq_some_iff.mp hq).1
        rw [List.length_map] at hm
        omega
/-! read_one, read_both, read_condition -/
def TokIs (ts : List TK) (i : Nat) (z : Str) : Prop := ∃ tk, ts[i]? = some tk ∧ isTok tk z = true
def TokNo (ts : List TK) (i : Nat) (z : Str) : Prop := ∃ tk, ts[i]? = some tk ∧ isTok tk z = false
inductive BothR (ts : List TK) (one : Nat → Fm → Nat → Prop) : Nat → Fm → Nat → Fm → Nat → Prop
  | stop {f : Fm} {i : Nat} (h : TokNo ts i "and") : BothR ts one 0 f i f i
  | step {m i j k : Nat} {f g h : Fm} (ht : TokIs ts i "and") (ho : one (i + 1) h j) (r : BothR ts one m (.bin false f h) j g k) : BothR ts one (m + 1) f i g k
def BothA (ts : List TK) (one : Nat → Fm → Nat → Prop) (i : Nat) (f : Fm) (j : Nat) : Prop := ∃ m f0 j0, one i f0 j0 ∧ BothR ts one m f0 j0 f j
inductive CondR (ts : List TK) (one : Nat → Fm → Nat → Prop) : Nat → Fm → Nat → Fm → Nat → Prop
  | stop {f : Fm} {i : Nat} (h : TokNo ts i "or") : CondR ts one 0 f i f i
  | step {m i j k : Nat} {f g h : Fm} (ht : TokIs ts i "or") (ho : BothA ts one (i + 1) h j) (r : CondR ts one m (.bin true f h) j g k) : CondR ts one (m + 1) f i g k
def CondA (ts : List TK) (one : Nat → Fm → Nat → Prop) (i : Nat) (f : Fm) (j : Nat) : Prop := ∃ m f0 j0, BothA ts one i f0 j0 ∧ CondR ts one m f0 j0 f j
def OneAt (ts : List TK) : Nat → Nat → Fm → Nat → Prop
  | 0 => fun _ _ _ => False
  | n + 1 => fun i f j => (TokIs ts i "not" ∧ ∃ g, f = .nt g ∧ OneAt ts n (i + 1) g j) ∨ (TokNo ts i "not" ∧ TokIs ts i "(" ∧ ∃ k, CondA ts (OneAt ts n) (i + 1) f k ∧ TokIs ts k ")" ∧ j = k + 1) ∨ (TokNo ts i "not" ∧ TokNo ts i "(" ∧ AtomAt ts i f j)
def spQRd (CQ CC : Addr) (R : List TK → Nat → Fm → Nat → Prop) (n : Nat) : Sp := fun vs H Q _ => ∃ (S L : Addr) (i j d : Nat) (ts : List TK) (f : Fm), vs = [.ref S] ∧ QdAt CQ H S L i d ts ∧ R ts i f j ∧ d + n ≤ 30 ∧ ∀ v H', Bt S H H' → QdAt CQ H' S L j d ts → CondAt CC H' f v → Q v H'
structure TxQs (P : Program) (w : World) (K : PySem.W.Frag) (mg : Str → Option Value) (base : Heap) (CQ CC : Addr) : Prop where
  TR : TxQ K CQ
  T : TxQm mg
  MA : HasM P w K mg base CX0 1 CQ "accept" PQAcc (spQAcc CQ)
  MT : HasM P w K mg base CX0 3 CQ "read_atom" PQAtom (spQAtom CQ CC)
  MAn : HasM P w K mg base CX0 3 CC "__and__" PCAnd (spBin CC false)
  MOr : HasM P w K mg base CX0 3 CC "__or__" PCOr (spBin CC true)
  MIn : HasM P w K mg base CX0 3 CC "__invert__" PCInv (spInv CC)
  sf : PySem.W.selfFirst K CC = true
theorem ok_QBoth {f : Addr} {fd : FuncData} (F : Fun K "read_both" "QuestionReader.read_both" sQBoth f fd) (Y : TxQs P w K mg base CQ CC) {n : Nat} (MO : HasM P w K mg base CX0 (3 * n + 3) CQ "read_one" PQOne (spQRd CQ CC (fun ts => OneAt ts n) n)) :
    FnOk P w K mg base CX0 (3 * n + 4) f fd PQBoth (spQRd CQ CC (fun ts => BothA ts (OneAt ts n)) n) := by
  refine F.ok scQBoth (fun vs H Q E h => ?_) (fun cdv A outer s H vs Q E hr h => ?_)
  · obtain ⟨S, L, i, j, d, ts, f, rfl, _⟩ := h
    rfl
  · obtain ⟨S, L, i, j, d, ts, f, rfl, ra, ⟨m, f0, j0, ho, hb⟩, hd, k⟩ := h
    have hr1 := hr.mono (j := 1) (by omega)
    have hr3 := hr.mono (j := 3) (by omega)
    have TR := Y.TR
    have MA := Y.MA
    have oa : ∀ X : Cx, True := fun _ => trivial
    refine ⟨_, (pss_cons (ps_set (i := 1) scQBoth.nd rfl (Or.inl rfl) (pe_methH0 (pv 0) TR.cl MO hr pass0))
  (pss_cons (ps_while PassesOwn.never (pt_val (pe_methH (pv 0) TR.cl MA hr1 pass0 (pa_cons pe_str pa_nil)))
  (pss_one (ps_set (i := 1) scQBoth.nd rfl (Or.inl rfl) (pe_op (op_andO Y.MAn Y.sf hr3) (pv 1) (pe_methH0 (pv 0) TR.cl MO hr pass0)))))
  (pss_one (ps_ret (pv 1))))), ?_⟩
    obtain ⟨dx, xs, e1, _⟩ := id ra
    refine ⟨_, rfl, S, dx, _, rfl, e1, rfl, S, L, i, j0, d, ts, f0, rfl, ra, ho, hd, fun v0 H1 b1 ra1 c1 => ?_⟩
    refine ⟨fun m σ H' => ∃ (g : Fm) (x : V) (i' : Nat), BothR ts (OneAt ts n) m g i' f j ∧ σ = [some (.ref S), some x] ∧ Bt S H H' ∧ QdAt CQ H' S L i' d ts ∧ CondAt CC H' g x, ⟨m, f0, v0, j0, hb, rfl, b1, ra1, c1⟩, ?_⟩
    rintro m σ H2 ⟨g, x, i', hb, rfl, b2, ra2, c2⟩
    obtain ⟨dx2, xs2, e2, _⟩ := id ra2
    cases hb with
    | stop h =>
      obtain ⟨tk, ht, hn⟩ := h
      refine ⟨_, rfl, S, dx2, _, rfl, e2, rfl, S, L, _, d, ts, tk, "and", rfl, ra2, ht, fun H3 b3 ra3 => ⟨_, rfl, iteE hn ?_⟩⟩
      have en : nxt tk "and" j = j := if_neg (by rw [hn]; decide)
      rw [en] at ra3
      exact ⟨_, rfl, k _ _ (b2.trans b3) ra3 (c2.same (ra2.csame b3))⟩
    | @step m' _ j' _ _ _ h ht ho r =>
      obtain ⟨tk, ht, hy⟩ := ht
      refine ⟨_, rfl, S, dx2, _, rfl, e2, rfl, S, L, _, d, ts, tk, "and", rfl, ra2, ht, fun H3 b3 ra3 => ⟨_, rfl, iteS hy ?_⟩⟩
      have en : nxt tk "and" i' = i' + 1 := if_pos hy
      rw [en] at ra3
      have c3 := c2.same (ra2.csame b3)
      obtain ⟨dx3, xs3, e3, _⟩ := id ra3
      refine ⟨fun σ' H' => ∃ y, σ' = [some (.ref S), some y] ∧ Bt S H H' ∧ QdAt CQ H' S L j' d ts ∧ CondAt CC H' (.bin false g h) y, fun σ' H' ⟨y, u1, u2, u3, u4⟩ => ⟨m', Nat.lt_succ_self _, _, y, j', r, u1, u2, u3, u4⟩, ?_⟩
      refine ⟨_, rfl, _, rfl, S, dx3, _, rfl, e3, rfl, S, L, _, j', d, ts, h, rfl, ra3, ho, hd, fun v4 H4 b4 ra4 c4 => ?_⟩
      have c3' := c3.same (ra3.csame b4)
      obtain ⟨xa, rfl, dy, ty, ey⟩ := c3'.ref
      obtain ⟨va, rfl, dv, tv, ev⟩ := c4.ref
      refine ⟨xa, va, dy, dv, _, _, rfl, rfl, ey, ev, xa, va, rfl, fun c H5 s5 c5 => ⟨⟨c, rfl⟩, _, rfl, ((b2.trans b3).trans b4).trans (.of s5), ra4.same s5, ?_⟩⟩
      exact ⟨_, _, c5, c3'.same (.of s5), c4.same (.of s5)⟩
theorem ok_QCond {f : Addr} {fd : FuncData} (F : Fun K "read_condition" "QuestionReader.read_condition" sQCond f fd) (Y : TxQs P w K mg base CQ CC) {n : Nat} (MO : HasM P w K mg base CX0 (3 * n + 4) CQ "read_both" PQBoth (spQRd CQ CC (fun ts => BothA ts (OneAt ts n)) n)) :
    FnOk P w K mg base CX0 (3 * n + 5) f fd PQCond (spQRd CQ CC (fun ts => CondA ts (OneAt ts n)) n) := by
  refine F.ok scQCond (fun vs H Q E h => ?_) (fun cdv A outer s H vs Q E hr h => ?_)
  · obtain ⟨S, L, i, j, d, ts, f, rfl, _⟩ := h
    rfl
  · obtain ⟨S, L, i, j, d, ts, f, rfl, ra, ⟨m, f0, j0, ho, hb⟩, hd, k⟩ := h
    have hr1 := hr.mono (j := 1) (by omega)
    have hr3 := hr.mono (j := 3) (by omega)
    have TR := Y.TR
    have MA := Y.MA
    have oa : ∀ X : Cx, True := fun _ => trivial
    refine ⟨_, (pss_cons (ps_set (i := 1) scQCond.nd rfl (Or.inl rfl) (pe_methH0 (pv 0) TR.cl MO hr pass0))
  (pss_cons (ps_while PassesOwn.never (pt_val (pe_methH (pv 0) TR.cl MA hr1 pass0 (pa_cons pe_str pa_nil)))
  (pss_one (ps_set (i := 1) scQCond.nd rfl (Or.inl rfl) (pe_op (op_orO Y.MOr Y.sf hr3) (pv 1) (pe_methH0 (pv 0) TR.cl MO hr pass0)))))
  (pss_one (ps_ret (pv 1))))), ?_⟩
    obtain ⟨dx, xs, e1, _⟩ := id ra
    refine ⟨_, rfl, S, dx, _, rfl, e1, rfl, S, L, i, j0, d, ts, f0, rfl, ra, ho, hd, fun v0 H1 b1 ra1 c1 => ?_⟩
    refine ⟨fun m σ H' => ∃ (g : Fm) (x : V) (i' : Nat), CondR ts (OneAt ts n) m g i' f j ∧ σ = [some (.ref S), some x] ∧ Bt S H H' ∧ QdAt CQ H' S L i' d ts ∧ CondAt CC H' g x, ⟨m, f0, v0, j0, hb, rfl, b1, ra1, c1⟩, ?_⟩
    rintro m σ H2 ⟨g, x, i', hb, rfl, b2, ra2, c2⟩
    obtain ⟨dx2, xs2, e2, _⟩ := id ra2
    cases hb with
    | stop h =>
      obtain ⟨tk, ht, hn⟩ := h
      refine ⟨_, rfl, S, dx2, _, rfl, e2, rfl, S, L, _, d, ts, tk, "or", rfl, ra2, ht, fun H3 b3 ra3 => ⟨_, rfl, iteE hn ?_⟩⟩
      have en : nxt tk "or" j = j := if_neg (by rw [hn]; decide)
      rw [en] at ra3
      exact ⟨_, rfl, k _ _ (b2.trans b3) ra3 (c2.same (ra2.csame b3))⟩
    | @step m' _ j' _ _ _ h ht ho r =>
      obtain ⟨tk, ht, hy⟩ := ht
      refine ⟨_, rfl, S, dx2, _, rfl, e2, rfl, S, L, _, d, ts, tk, "or", rfl, ra2, ht, fun H3 b3 ra3 => ⟨_, rfl, iteS hy ?_⟩⟩
      have en : nxt tk "or" i' = i' + 1 := if_pos hy
      rw [en] at ra3
      have c3 := c2.same (ra2.csame b3)
      obtain ⟨dx3, xs3, e3, _⟩ := id ra3
      refine ⟨fun σ' H' => ∃ y, σ' = [some (.ref S), some y] ∧ Bt S H H' ∧ QdAt CQ H' S L j' d ts ∧ CondAt CC H' (.bin true g h) y, fun σ' H' ⟨y, u1, u2, u3, u4⟩ => ⟨m', Nat.lt_succ_self _, _, y, j', r, u1, u2, u3, u4⟩, ?_⟩
      refine ⟨_, rfl, _, rfl, S, dx3, _, rfl, e3, rfl, S, L, _, j', d, ts, h, rfl, ra3, ho, hd, fun v4 H4 b4 ra4 c4 => ?_⟩
      have c3' := c3.same (ra3.csame b4)
      obtain ⟨xa, rfl, dy, ty, ey⟩ := c3'.ref
      obtain ⟨va, rfl, dv, tv, ev⟩ := c4.ref
      refine ⟨xa, va, dy, dv, _, _, rfl, rfl, ey, ev, xa, va, rfl, fun c H5 s5 c5 => ⟨⟨c, rfl⟩, _, rfl, ((b2.trans b3).trans b4).trans (.of s5), ra4.same s5, ?_⟩⟩
      exact ⟨_, _, c5, c3'.same (.of s5), c4.same (.of s5)⟩
theorem ok_QOne {f : Addr} {fd : FuncData} {fb fc : Addr} {fdb fdc : FuncData} (F : Fun K "read_one" "QuestionReader.read_one" sQOne f fd) (FB : Fun K "read_both" "QuestionReader.read_both" sQBoth fb fdb) (FC : Fun K "read_condition" "QuestionReader.read_condition" sQCond fc fdc) (Y : TxQs P w K mg base CQ CC)
    (m1 : Meth K CQ "read_one" f) (m2 : Meth K CQ "read_both" fb) (m3 : Meth K CQ "read_condition" fc) (b1 : Binds K fd PQOne []) (b2 : Binds K fdb PQBoth []) (b3 : Binds K fdc PQCond []) : ∀ n, FnOk P w K mg base CX0 (3 * n + 3) f fd PQOne (spQRd CQ CC (fun ts => OneAt ts n) n) := by
  intro n
  induction n with
  | zero => exact ⟨fun _ _ _ _ h => by obtain ⟨_, _, _, _, _, _, _, _, _, h, _⟩ := h; exact h.elim, fun _ _ _ _ _ _ _ _ _ _ _ _ _ h => by obtain ⟨_, _, _, _, _, _, _, _, _, h, _⟩ := h; exact h.elim⟩
  | succ n ih =>
    have MO : HasM P w K mg base CX0 (3 * n + 3) CQ "read_one" PQOne (spQRd CQ CC (fun ts => OneAt ts n) n) := ⟨_, _, m1, ih, b1⟩
    have MB : HasM P w K mg base CX0 (3 * n + 4) CQ "read_both" PQBoth (spQRd CQ CC (fun ts => BothA ts (OneAt ts n)) n) := ⟨_, _, m2, ok_QBoth FB Y MO, b2⟩
    have MC : HasM P w K mg base CX0 (3 * n + 5) CQ "read_condition" PQCond (spQRd CQ CC (fun ts => CondA ts (OneAt ts n)) n) := ⟨_, _, m3, ok_QCond FC Y MB, b3⟩
    refine F.ok scQOne (fun vs H Q E h => ?_) (fun cdv A outer s H vs Q E hr h => ?_)
    · obtain ⟨S, L, i, j, d, ts, f, rfl, _⟩ := h
      rfl
    · obtain ⟨S, L, i, j, d, ts, f, rfl, ra, ho, hd, k⟩ := h
      have hr1 := hr.mono (j := 1) (by omega)
      have hr3 := hr.mono (j := 3) (by omega)
      have hrO := hr.mono (j := 3 * n + 3) (by omega)
      have hrC := hr.mono (j := 3 * n + 5) (by omega)
      have T := Y.T
      have TR := Y.TR
      have MA := Y.MA
      have MT := Y.MT
      refine ⟨_, (pss_cons (ps_if (pt_cmpR op_gt (pe_fld (pv 0) rfl) (pe_globE rfl T.c_DEEPEST) (nomark _))
  (pss_one ps_never)
  pss_nil)
  (pss_cons (ps_fldaug (pv 0) pe_int in_add)
  (pss_cons (ps_if (pt_val (pe_methH (pv 0) TR.cl MA hr1 pass0 (pa_cons pe_str pa_nil)))
  (pss_one (ps_set (i := 1) scQOne.nd rfl (Or.inl rfl) (pe_un (un_invO Y.MIn hr3) (pe_methH0 (pv 0) TR.cl MO hrO pass0))))
  (pss_one (ps_if (pt_val (pe_methH (pv 0) TR.cl MA hr1 pass0 (pa_cons pe_str pa_nil)))
  (pss_cons (ps_set (i := 1) scQOne.nd rfl (Or.inl rfl) (pe_methH0 (pv 0) TR.cl MC hrC pass0))
  (pss_one (ps_if (pt_not (pt_val (pe_methH (pv 0) TR.cl MA hr1 pass0 (pa_cons pe_str pa_nil))))
  (pss_one ps_never)
  pss_nil)))
  (pss_one (ps_set (i := 1) scQOne.nd rfl (Or.inl rfl) (pe_methH0 (pv 0) TR.cl MT hr3 pass0))))))
  (pss_cons (ps_fldaug (pv 0) pe_int in_sub)
  (pss_one (ps_ret (pv 1))))))), ?_⟩
      obtain ⟨dx, xs, e1, _⟩ := id ra
      refine ⟨_, rfl, S, CQ, dx, _, _, rfl, e1, TR.cl, TR.nD, rfl, _, _, rfl, rfl, _, rfl, iteE (decide_eq_false (by omega)) ?_⟩
      refine ⟨_, rfl, S, CQ, dx, _, _, rfl, e1, TR.cl, TR.nD, rfl, _, _, rfl, rfl, dx, _, e1, (by show 3 < 1000; decide), ?_⟩
      have e : putF "depth" (.int (((d : Nat) : Int) + 1)) (qdF L i d) = qdF L i (d + 1) := putF_dep L i d (d + 1)
      rw [e]
      have e' : ∀ j, putF "depth" (.int (((d + 1 : Nat) : Int) - 1)) (qdF L j (d + 1)) = qdF L j d := fun j => by
        rw [show (((d + 1 : Nat) : Int) - 1) = ((d : Nat) : Int) by omega]
        exact putF_dep L j (d + 1) d
      have ra1 : QdAt CQ (upd H S (.ins CQ dx (qdF L i (d + 1)))) S L i (d + 1) ts := ra.step
      have b1 : Bt S H (upd H S (.ins CQ dx (qdF L i (d + 1)))) := bt_upd
      obtain ⟨H1, eH1⟩ : ∃ H1, H1 = upd H S (.ins CQ dx (qdF L i (d + 1))) := ⟨_, rfl⟩
      rw [← eH1] at ra1 b1 ⊢
      obtain ⟨dx1, xs1, e11, _⟩ := id ra1
      rcases ho with ⟨⟨tk, ht, hy⟩, g, rfl, ho⟩ | ⟨⟨tk, ht, hn⟩, ⟨tk', ht', hp⟩, kk, hc, ⟨tk2, ht2, hp2⟩, rfl⟩ | ⟨⟨tk, ht, hn⟩, ⟨tk', ht', hp⟩, ha⟩
      · refine ⟨_, rfl, S, dx1, _, rfl, e11, rfl, S, L, i, d + 1, ts, tk, "not", rfl, ra1, ht, fun H2 b2 ra2 => ⟨_, rfl, iteS hy ?_⟩⟩
        have en : nxt tk "not" i = i + 1 := if_pos hy
        rw [en] at ra2
        obtain ⟨dx2, xs2, e2, _⟩ := id ra2
        refine ⟨_, rfl, S, dx2, _, rfl, e2, rfl, S, L, _, j, d + 1, ts, g, rfl, ra2, ho, by omega, fun v3 H3 b3 ra3 c3 => ?_⟩
        obtain ⟨va, rfl, dv, tv, ev⟩ := c3.ref
        refine ⟨va, dv, _, rfl, ev, va, rfl, fun c H4 s4 c4 => ?_⟩
        have ra4 := ra3.same s4
        obtain ⟨dx4, xs4, e4, _⟩ := id ra4
        refine ⟨_, rfl, S, CQ, dx4, _, _, rfl, e4, TR.cl, TR.nD, rfl, _, _, rfl, rfl, dx4, _, e4, (by show 3 < 1000; decide), ?_⟩
        rw [e']
        have cc : CondAt CC H4 (.nt g) (.ref c) := ⟨_, c4, c3.same (.of s4)⟩
        exact ⟨_, rfl, k _ _ ((((b1.trans b2).trans b3).trans (.of s4)).trans bt_upd) ra4.step (cc.same (ra4.csame bt_upd))⟩
      · refine ⟨_, rfl, S, dx1, _, rfl, e11, rfl, S, L, i, d + 1, ts, tk, "not", rfl, ra1, ht, fun H2 b2 ra2 => ⟨_, rfl, iteE hn ?_⟩⟩
        have en : nxt tk "not" i = i := if_neg (by rw [hn]; decide)
        rw [en] at ra2
        obtain ⟨dx2, xs2, e2, _⟩ := id ra2
        refine ⟨_, rfl, S, dx2, _, rfl, e2, rfl, S, L, i, d + 1, ts, tk', "(", rfl, ra2, ht', fun H3 b3 ra3 => ⟨_, rfl, iteS hp ?_⟩⟩
        have en : nxt tk' "(" i = i + 1 := if_pos hp
        rw [en] at ra3
        obtain ⟨dx3, xs3, e3, _⟩ := id ra3
        refine ⟨_, rfl, S, dx3, _, rfl, e3, rfl, S, L, _, kk, d + 1, ts, f, rfl, ra3, hc, by omega, fun v4 H4 b4 ra4 c4 => ?_⟩
        obtain ⟨dx4, xs4, e4, _⟩ := id ra4
        refine ⟨_, rfl, S, dx4, _, rfl, e4, rfl, S, L, kk, d + 1, ts, tk2, ")", rfl, ra4, ht2, fun H5 b5 ra5 => ⟨_, rfl, iteE (by rw [hp2]; rfl) ?_⟩⟩
        have en : nxt tk2 ")" kk = kk + 1 := if_pos hp2
        rw [en] at ra5
        obtain ⟨dx5, xs5, e5, _⟩ := id ra5
        refine ⟨_, rfl, S, CQ, dx5, _, _, rfl, e5, TR.cl, TR.nD, rfl, _, _, rfl, rfl, dx5, _, e5, (by show 3 < 1000; decide), ?_⟩
        rw [e']
        exact ⟨_, rfl, k _ _ (((((b1.trans b2).trans b3).trans b4).trans b5).trans bt_upd) ra5.step ((c4.same (ra4.csame b5)).same (ra5.csame bt_upd))⟩
      · refine ⟨_, rfl, S, dx1, _, rfl, e11, rfl, S, L, i, d + 1, ts, tk, "not", rfl, ra1, ht, fun H2 b2 ra2 => ⟨_, rfl, iteE hn ?_⟩⟩
        have en : nxt tk "not" i = i := if_neg (by rw [hn]; decide)
        rw [en] at ra2
        obtain ⟨dx2, xs2, e2, _⟩ := id ra2
        refine ⟨_, rfl, S, dx2, _, rfl, e2, rfl, S, L, i, d + 1, ts, tk', "(", rfl, ra2, ht', fun H3 b3 ra3 => ⟨_, rfl, iteE hp ?_⟩⟩
        have en : nxt tk' "(" i = i := if_neg (by rw [hp]; decide)
        rw [en] at ra3
        obtain ⟨dx3, xs3, e3, _⟩ := id ra3
        refine ⟨_, rfl, S, dx3, _, rfl, e3, rfl, S, L, i, j, d + 1, ts, f, rfl, ra3, ha, fun v4 H4 b4 ra4 c4 => ?_⟩
        obtain ⟨dx4, xs4, e4, _⟩ := id ra4
        refine ⟨_, rfl, S, CQ, dx4, _, _, rfl, e4, TR.cl, TR.nD, rfl, _, _, rfl, rfl, dx4, _, e4, (by show 3 < 1000; decide), ?_⟩
        rw [e']
        exact ⟨_, rfl, k _ _ ((((b1.trans b2).trans b3).trans b4).trans bt_upd) ra4.step (c4.same (ra4.csame bt_upd))⟩
/-! read_condition of a text -/
def spRdCond (CC : Addr) (n : Nat) : Sp := fun vs H Q _ => ∃ (z : Str) (ts : List TK) (f : Fm) (j a : Nat), vs = [.str z] ∧ z.length ≤ 100000 ∧ Tkz z.cps.toList 0 ts ∧ ts.length ≤ 100001 ∧ CondA ts (OneAt ts n) 0 f j ∧ ts[j]? = some (("end", "", a) : TK) ∧ ∀ v H', Same H H' → CondAt CC H' f v → Q v H'
theorem ok_RdCond {f : Addr} {fd : FuncData} {n : Nat} (F : Fun K "read_condition" "read_condition" sRdCond f fd) (TR : TxQ K CQ) (hn : n ≤ 30) (HC : HasC P w K mg base CX0 3 "QuestionReader" CQ PQIni (spQIni CQ)) (MC : HasM P w K mg base CX0 (3 * n + 5) CQ "read_condition" PQCond (spQRd CQ CC (fun ts => CondA ts (OneAt ts n)) n)) (ME : HasM P w K mg base CX0 1 CQ "read_end" PQEnd (spQEnd CQ)) :
    FnOk P w K mg base CX0 (3 * n + 6) f fd PRdCond (spRdCond CC n) := by
  refine F.ok scRdCond (fun vs H Q E h => ?_) (fun cdv A outer s H vs Q E hr h => ?_)
  · obtain ⟨z, ts, f, j, a, rfl, _⟩ := h
    rfl
  · obtain ⟨z, ts, f, j, a, rfl, hz, ht, lts, hc, he, k⟩ := h
    have hr1 := hr.mono (j := 1) (by omega)
    have hr4 := hr.mono (j := 4) (by omega)
    refine ⟨_, (pss_cons (ps_set (i := 1) scRdCond.nd rfl (Or.inl rfl) (pe_makeH HC hr4 rfl pass0 (pa_cons (pv 0) pa_nil)))
  (pss_cons (ps_set (i := 2) scRdCond.nd rfl (Or.inl rfl) (pe_methH0 (pv 1) TR.cl MC hr pass0))
  (pss_cons (ps_expr (pe_methH0 (pv 1) TR.cl ME hr1 pass0))
  (pss_one (ps_ret (pv 2)))))), ?_⟩
    refine ⟨_, rfl, fun x dx hx hdx hne => ⟨x, dx, z, ts, rfl, upd_same, hz, ht, lts, fun L H1 b1 ra1 => ⟨rfl, ?_⟩⟩⟩
    obtain ⟨dy, _, e1, _⟩ := id ra1
    refine ⟨_, rfl, x, dy, _, rfl, e1, rfl, x, L, 0, j, 0, ts, f, rfl, ra1, hc, by omega, fun v H2 b2 ra2 c2 => ?_⟩
    obtain ⟨dy2, _, e2, _⟩ := id ra2
    refine ⟨_, rfl, x, dy2, _, rfl, e2, rfl, x, L, j, 0, ts, _, rfl, ra2, he, rfl, ?_⟩
    refine ⟨_, rfl, k v H2 (fun b o e => ?_) c2⟩
    have bx : b ≠ x := fun q => by rw [q, hx] at e; cases e
    have bd : b ≠ dx := fun q => by rw [q, hdx] at e; cases e
    exact b2 _ _ (b1 _ _ (by rw [upd_ne bx, upd_ne bd]; exact e) bx) bx
end

/-! ### the words of a form, and how they are read -/
def Fm.rank : Fm → Nat
  | .bin true _ _ => 0
  | .bin false _ _ => 1
  | _ => 2
def textV : V → Str
  | .int i => Str.ofString (toString i)
  | .str z => z
  | _ => ""
def brk (b : Bool) (ws : List Str) : List Str := if b = true then [("(" : Str)] ++ ws ++ [(")" : Str)] else ws
def Fm.core (x : Bool) : Fm → List Str
  | .any => ["any"]
  | .nt g => [("not" : Str)] ++ brk (decide (g.rank < 2) || x) (g.core x)
  | .bin o g h => brk (decide (g.rank < (Fm.bin o g h).rank) || x) (g.core x) ++ [wd o] ++ brk (decide (h.rank < (Fm.bin o g h).rank + 1) || x) (h.core x)
  | .fld w v => [w, textV v]
def Fm.words (x : Bool) (r : Nat) (f : Fm) : List Str := brk (decide (f.rank < r) || x) (f.core x)
abbrev pr (a b : Str) : Str × Str := (a, b)
def shW (z : Str) : Str × Str := if z = "(" ∨ z = ")" then pr "mark" z else pr (kindOf z) z
theorem shW_any : shW "any" = (pr "name" "any") := by decide +kernel
theorem shW_not : shW "not" = (pr "name" "not") := by decide +kernel
theorem shW_wd (o : Bool) : shW (wd o) = (pr "name" (wd o)) := by cases o <;> decide +kernel
theorem shW_op : shW "(" = (pr "mark" "(") := by decide +kernel
theorem shW_cl : shW ")" = (pr "mark" ")") := by decide +kernel
theorem shW_fld : ∀ w ∈ FLD, shW w = (pr "name" w) := by decide +kernel
theorem br_al : ¬ (∀ c ∈ TL.tl ("(" : Str), al c = true) ∧ ¬ (∀ c ∈ TL.tl (")" : Str), al c = true) := by decide +kernel
theorem shW_name {z : Str} (h : isName z = true) : shW z = (pr "name" z) := by
  obtain ⟨_, h2, h3⟩ := name_al h
  unfold shW
  rw [if_neg, h3]
  rintro (e | e)
  · rw [e] at h2; exact br_al.1 h2
  · rw [e] at h2; exact br_al.2 h2
theorem shW_num (n : Nat) : shW (numS n) = (pr "number" (numS n)) := by
  obtain ⟨_, h2, h3⟩ := num_kind n
  unfold shW
  rw [if_neg, h3]
  rintro (e | e)
  · rw [e] at h2; exact br_al.1 h2
  · rw [e] at h2; exact br_al.2 h2
theorem vds_name : ∀ z ∈ VDS, isName z = true := by decide +kernel
def shTok (y : Str × Str) (z : Str) : Bool := (decide (y.1 = "name") || decide (y.1 = "mark")) && decide (y.2 = z)
theorem tokIs {ts : List TK} {i : Nat} {y : Str × Str} {rest : SH} {z : Str} (h : (shOf ts).drop i = y :: rest) (hy : shTok y z = true) : TokIs ts i z := by
  obtain ⟨⟨a, h1⟩, _⟩ := sh_at h
  exact ⟨_, h1, hy⟩
theorem tokNo {ts : List TK} {i : Nat} {y : Str × Str} {rest : SH} {z : Str} (h : (shOf ts).drop i = y :: rest) (hy : shTok y z = false) : TokNo ts i z := by
  obtain ⟨⟨a, h1⟩, _⟩ := sh_at h
  exact ⟨_, h1, hy⟩
theorem shTok_name (z z' : Str) : shTok (pr "name" z) z' = decide (z = z') := by
  unfold shTok
  rw [decide_eq_true rfl]
  rfl
theorem shTok_mark (z z' : Str) : shTok (pr "mark" z) z' = decide (z = z') := by
  unfold shTok
  rw [decide_eq_true rfl, Bool.or_true]
  rfl
theorem fld_par : ∀ w ∈ FLD, w ≠ "(" := by decide +kernel
theorem val_at {w : Str} {v : V} (h : FldOk w v) (a : Nat) : ValTok w ((shW (textV v)).1, (shW (textV v)).2, a) v := by
  cases h with
  | place n hn =>
    rw [show textV (.int (n : Nat)) = numS n from rfl, shW_num]
    exact .place n a hn
  | verdict z hz =>
    rw [show textV (.str z) = z from rfl, shW_name (vds_name z hz)]
    exact .verdict z a hz
  | name w z hw hz hl =>
    rw [show textV (.str z) = z from rfl, shW_name hz]
    refine .name w z a ?_ ?_
    · rcases hw with rfl | rfl | rfl <;> decide +kernel
    · rcases hw with rfl | rfl | rfl <;> decide +kernel
section
variable {ts : List TK} {x : Bool}
def RdA (ts : List TK) (n i : Nat) (f : Fm) (R : SH) : Prop := ∃ j, OneAt ts n i f j ∧ (shOf ts).drop j = R
def RdB (ts : List TK) (n i : Nat) (f : Fm) (R : SH) : Prop := ∃ f0 j0 j, OneAt ts n i f0 j0 ∧ (shOf ts).drop j = R ∧ ∀ m g k, BothR ts (OneAt ts n) m f j g k → ∃ m', BothR ts (OneAt ts n) m' f0 j0 g k
def RdC (ts : List TK) (n i : Nat) (f : Fm) (R : SH) : Prop := ∃ f0 j0 j, BothA ts (OneAt ts n) i f0 j0 ∧ (shOf ts).drop j = R ∧ ∀ m g k, CondR ts (OneAt ts n) m f j g k → ∃ m', CondR ts (OneAt ts n) m' f0 j0 g k
theorem RdA.b {n i : Nat} {f : Fm} {R : SH} (h : RdA ts n i f R) : RdB ts n i f R := let ⟨j, h1, h2⟩ := h; ⟨f, j, j, h1, h2, fun m g k r => ⟨m, r⟩⟩
theorem RdB.c {n i : Nat} {f : Fm} {y : Str × Str} {R : SH} (h : RdB ts n i f (y :: R)) (hy : shTok y "and" = false) : RdC ts n i f (y :: R) := by
  obtain ⟨f0, j0, j, h1, h2, h3⟩ := h
  obtain ⟨m', h4⟩ := h3 0 f j (.stop (tokNo h2 hy))
  exact ⟨f, j, j, ⟨m', f0, j0, h1, h4⟩, h2, fun m g k r => ⟨m, r⟩⟩
/-- what is read of the words of f, without and with brackets -/
def RdCore (ts : List TK) (x : Bool) (f : Fm) : Prop := ∀ n i y R, 2 * f.dep + 1 ≤ n → (shOf ts).drop i = (f.core x).map shW ++ y :: R → (f.rank = 2 → RdA ts n i f (y :: R)) ∧ (1 ≤ f.rank → RdB ts n i f (y :: R)) ∧ (shTok y "and" = false → RdC ts n i f (y :: R))
theorem RdCore.par {f : Fm} (h : RdCore ts x f) {n i : Nat} {R : SH} (hn : 2 * f.dep + 2 ≤ n) (hd : (shOf ts).drop i = ([("(" : Str)] ++ f.core x ++ [(")" : Str)]).map shW ++ R) : RdA ts n i f R := by
  obtain ⟨n', rfl⟩ : ∃ n', n = n' + 1 := ⟨n - 1, by omega⟩
  have hd : (shOf ts).drop i = (pr "mark" "(") :: ((f.core x).map shW ++ (pr "mark" ")" :: R)) := by
    rw [hd, List.map_append, List.map_append, List.map_cons, List.map_cons, List.map_nil, shW_op, shW_cl]
    simp
  obtain ⟨_, h1⟩ := sh_at hd
  obtain ⟨f0, j0, j, h2, h3, h4⟩ := (h n' (i + 1) _ _ (by omega) h1).2.2 (by rw [shTok_mark]; decide +kernel)
  obtain ⟨m', h5⟩ := h4 0 f j (.stop (tokNo h3 (by rw [shTok_mark]; decide +kernel)))
  refine ⟨j + 1, .inr (.inl ⟨tokNo hd (by rw [shTok_mark]; decide +kernel), tokIs hd (by rw [shTok_mark]; exact decide_eq_true rfl), j, ⟨m', f0, j0, h2, h5⟩, tokIs h3 (by rw [shTok_mark]; exact decide_eq_true rfl), rfl⟩), (sh_at h3).2⟩
theorem RdCore.a {f : Fm} (h : RdCore ts x f) {n i : Nat} {y : Str × Str} {R : SH} (hn : 2 * f.dep + 2 ≤ n) (hd : (shOf ts).drop i = (brk (decide (f.rank < 2) || x) (f.core x)).map shW ++ y :: R) : RdA ts n i f (y :: R) := by
  unfold brk at hd
  split at hd
  · exact h.par hn hd
  · next q =>
    refine (h n i y R (by omega) hd).1 ?_
    have q : decide (f.rank < 2) = false := by
      cases e : decide (f.rank < 2) with
      | false => rfl
      | true => rw [e] at q; exact absurd rfl q
    have := of_decide_eq_false q
    have : f.rank ≤ 2 := by
      unfold Fm.rank
      split <;> omega
    omega
theorem RdCore.b {f : Fm} (h : RdCore ts x f) {n i : Nat} {y : Str × Str} {R : SH} (hn : 2 * f.dep + 2 ≤ n) (hd : (shOf ts).drop i = (brk (decide (f.rank < 1) || x) (f.core x)).map shW ++ y :: R) : RdB ts n i f (y :: R) := by
  unfold brk at hd
  split at hd
  · exact (h.par hn hd).b
  · next q =>
    refine (h n i y R (by omega) hd).2.1 ?_
    have q : decide (f.rank < 1) = false := by
      cases e : decide (f.rank < 1) with
      | false => rfl
      | true => rw [e] at q; exact absurd rfl q
    have := of_decide_eq_false q
    omega
theorem RdCore.c {f : Fm} (h : RdCore ts x f) {n i : Nat} {y : Str × Str} {R : SH} (hn : 2 * f.dep + 2 ≤ n) (hy : shTok y "and" = false) (hd : (shOf ts).drop i = (brk (decide (f.rank < 0) || x) (f.core x)).map shW ++ y :: R) : RdC ts n i f (y :: R) := by
  unfold brk at hd
  split at hd
  · exact (h.par hn hd).b.c hy
  · exact (h n i y R (by omega) hd).2.2 hy
theorem rd_core : ∀ f : Fm, f.ok → RdCore ts x f
  | .any, _ => fun n i y R hn hd => by
    have hd : (shOf ts).drop i = (pr "name" "any") :: y :: R := by rw [hd]; show shW "any" :: _ = _; rw [shW_any]; rfl
    obtain ⟨⟨a, h0⟩, h1⟩ := sh_at hd
    obtain ⟨n', rfl⟩ : ∃ n', n = n' + 1 := ⟨n - 1, by omega⟩
    have A : RdA ts (n' + 1) i .any (y :: R) := ⟨i + 1, .inr (.inr ⟨tokNo hd (by rw [shTok_name]; decide +kernel), tokNo hd (by rw [shTok_name]; decide +kernel), .any h0 (by rw [tok_name]; exact decide_eq_true rfl)⟩), h1⟩
    exact ⟨fun _ => A, fun _ => A.b, fun hy => A.b.c hy⟩
  | .fld w v, ok => fun n i y R hn hd => by
    have ok : FldOk w v := ok
    have hw := fldOk_w ok
    have hd : (shOf ts).drop i = (pr "name" w) :: shW (textV v) :: y :: R := by rw [hd]; show shW w :: _ = _; rw [shW_fld w hw]; rfl
    obtain ⟨⟨a, h0⟩, h1⟩ := sh_at hd
    obtain ⟨⟨b, h2⟩, h3⟩ := sh_at h1
    obtain ⟨n', rfl⟩ : ∃ n', n = n' + 1 := ⟨n - 1, by omega⟩
    have A : RdA ts (n' + 1) i (.fld w v) (y :: R) := ⟨i + 1 + 1, .inr (.inr ⟨tokNo hd (by rw [shTok_name]; exact decide_eq_false (fld_words w hw).2.1), tokNo hd (by rw [shTok_name]; exact decide_eq_false (fld_par w hw)), .fld hw h0 h2 (val_at ok b)⟩), h3⟩
    exact ⟨fun _ => A, fun _ => A.b, fun hy => A.b.c hy⟩
  | .nt g, ok => fun n i y R hn hd => by
    have ih : RdCore ts x g := rd_core g ok
    have hn : 2 * (g.dep + 1) + 1 ≤ n := hn
    have hd : (shOf ts).drop i = (pr "name" "not") :: ((brk (decide (g.rank < 2) || x) (g.core x)).map shW ++ y :: R) := by rw [hd]; show shW "not" :: _ = _; rw [shW_not]; rfl
    obtain ⟨_, h1⟩ := sh_at hd
    obtain ⟨n', rfl⟩ : ∃ n', n = n' + 1 := ⟨n - 1, by omega⟩
    obtain ⟨j, h2, h3⟩ := ih.a (n := n') (by omega) h1
    have A : RdA ts (n' + 1) i (.nt g) (y :: R) := ⟨j, .inl ⟨tokIs hd (by rw [shTok_name]; exact decide_eq_true rfl), g, rfl, h2⟩, h3⟩
    exact ⟨fun _ => A, fun _ => A.b, fun hy => A.b.c hy⟩
  | .bin false g h, ok => fun n i y R hn hd => by
    have ig : RdCore ts x g := rd_core g ok.1
    have ih : RdCore ts x h := rd_core h ok.2
    have hn : 2 * (max g.dep h.dep + 1) + 1 ≤ n := hn
    have hd : (shOf ts).drop i = (brk (decide (g.rank < 1) || x) (g.core x)).map shW ++ ((pr "name" "and") :: ((brk (decide (h.rank < 2) || x) (h.core x)).map shW ++ y :: R)) := by
      rw [hd]
      show (brk (decide (g.rank < 1) || x) (g.core x) ++ [wd false] ++ brk (decide (h.rank < 2) || x) (h.core x)).map shW ++ _ = _
      rw [List.map_append, List.map_append, List.map_cons, List.map_nil, shW_wd, List.append_assoc, List.append_assoc]
      rfl
    obtain ⟨f0, j0, j, h1, h2, h3⟩ := ig.b (n := n) (by omega) hd
    obtain ⟨_, h4⟩ := sh_at h2
    obtain ⟨j2, h5, h6⟩ := ih.a (n := n) (by omega) h4
    have B : RdB ts n i (.bin false g h) (y :: R) := ⟨f0, j0, j2, h1, h6, fun m g' k r => h3 (m + 1) g' k (.step (tokIs h2 (by rw [shTok_name]; exact decide_eq_true rfl)) h5 r)⟩
    exact ⟨fun q => absurd q (by show ¬ (1 = 2); decide), fun _ => B, fun hy => B.c hy⟩
  | .bin true g h, ok => fun n i y R hn hd => by
    have ig : RdCore ts x g := rd_core g ok.1
    have ih : RdCore ts x h := rd_core h ok.2
    have hn : 2 * (max g.dep h.dep + 1) + 1 ≤ n := hn
    have hd : (shOf ts).drop i = (brk (decide (g.rank < 0) || x) (g.core x)).map shW ++ ((pr "name" "or") :: ((brk (decide (h.rank < 1) || x) (h.core x)).map shW ++ y :: R)) := by
      rw [hd]
      show (brk (decide (g.rank < 0) || x) (g.core x) ++ [wd true] ++ brk (decide (h.rank < 1) || x) (h.core x)).map shW ++ _ = _
      rw [List.map_append, List.map_append, List.map_cons, List.map_nil, shW_wd, List.append_assoc, List.append_assoc]
      rfl
    refine ⟨fun q => absurd q (by show ¬ (0 = 2); decide), fun q => absurd q (by show ¬ (1 ≤ 0); decide), fun hy => ?_⟩
    obtain ⟨f0, j0, j, h1, h2, h3⟩ := ig.c (n := n) (by omega) (by rw [shTok_name]; decide +kernel) hd
    obtain ⟨_, h4⟩ := sh_at h2
    obtain ⟨f1, j1, j2, h5, h6, h7⟩ := ih.b (n := n) (by omega) h4
    obtain ⟨m1, h8⟩ := h7 0 h j2 (.stop (tokNo h6 hy))
    exact ⟨f0, j0, j2, h1, h6, fun m g' k r => h3 (m + 1) g' k (.step (tokIs h2 (by rw [shTok_name]; exact decide_eq_true rfl)) ⟨m1, f1, j1, h5, h8⟩ r)⟩
/-- the whole text -/
theorem rd_whole {f : Fm} (ok : f.ok) {n : Nat} (hn : 2 * f.dep + 2 ≤ n) (h : shOf ts = (f.words x 0).map shW ++ [pr "end" ""]) : ∃ j a, CondA ts (OneAt ts n) 0 f j ∧ ts[j]? = some (("end", "", a) : TK) := by
  obtain ⟨f0, j0, j, h1, h2, h3⟩ := (rd_core (ts := ts) (x := x) f ok).c (n := n) (i := 0) (y := (pr "end" "")) (R := []) hn (by decide +kernel) (by rw [List.drop_zero]; exact h)
  obtain ⟨m, h4⟩ := h3 0 f j (.stop (tokNo h2 (by decide +kernel)))
  obtain ⟨⟨a, h5⟩, _⟩ := sh_at h2
  exact ⟨j, a, ⟨m, f0, j0, h1, h4⟩, h5⟩
end
/-! a text of words -/
inductive WordOk : Str → Prop
  | op : WordOk "("
  | cl : WordOk ")"
  | nm (z : Str) (h : isName z = true) : WordOk z
  | num (n : Nat) : WordOk (numS n)
theorem op_list : TL.tl ("(" : Str) = [40] := by decide +kernel
theorem cl_list : TL.tl (")" : Str) = [41] := by decide +kernel
theorem tks_w {z : Str} (h : WordOk z) {t : List Nat} {sh : SH} (hn : NoAl t) (k : Tks t sh) : Tks (TL.tl z ++ t) (shW z :: sh) := by
  cases h with
  | op =>
    rw [shW_op, op_list]
    have := Tks.sign (c := 40) (by decide +kernel) k
    exact this
  | cl =>
    rw [shW_cl, cl_list]
    have := Tks.sign (c := 41) (by decide +kernel) k
    exact this
  | nm z h =>
    rw [shW_name h]
    exact tks_name h hn k
  | num n =>
    rw [shW_num]
    exact tks_num hn k
theorem tks_join : ∀ {ws : List Str}, (∀ z ∈ ws, WordOk z) → Tks (TL.tl (Str.join " " ws)) (ws.map shW ++ [pr "end" ""])
  | [], _ => Tks.nil
  | [z], h => by
    have := tks_w (h z List.mem_cons_self) noAl_nil Tks.nil
    rw [List.append_nil] at this
    exact this
  | z :: y :: r, h => by
    have ih := tks_join (ws := y :: r) fun x hx => h x (List.mem_cons_of_mem _ hx)
    show Tks (TL.tl (z ++ " " ++ Str.join " " (y :: r))) (shW z :: ((y :: r).map shW ++ _))
    rw [TL.tl_append, TL.tl_append, List.append_assoc]
    exact tks_w (h z List.mem_cons_self) noAl_gap ih.gap
theorem fld_name : ∀ w ∈ FLD, isName w = true := by decide +kernel
theorem brk_ok {b : Bool} {ws : List Str} (h : ∀ z ∈ ws, WordOk z) : ∀ z ∈ brk b ws, WordOk z := by
  unfold brk
  split
  · intro z hz
    rcases List.mem_append.mp hz with h1 | h1
    · rcases List.mem_append.mp h1 with h1 | h1
      · rw [List.mem_singleton.mp h1]
        exact .op
      · exact h z h1
    · rw [List.mem_singleton.mp h1]
      exact .cl
  · exact h
theorem fm_core_ok {x : Bool} : ∀ f : Fm, f.ok → ∀ z ∈ f.core x, WordOk z
  | .any, _, z, hz => by
    have hz : z ∈ [("any" : Str)] := hz
    rw [List.mem_singleton.mp hz]
    exact .nm _ (by decide +kernel)
  | .nt g, ok, z, hz => by
    have ih := fm_core_ok (x := x) g ok
    have hz : z ∈ [("not" : Str)] ++ brk (decide (g.rank < 2) || x) (g.core x) := hz
    rcases List.mem_append.mp hz with h | h
    · rw [List.mem_singleton.mp h]
      exact .nm _ (by decide +kernel)
    · exact brk_ok ih z h
  | .bin o g k, ok, z, hz => by
    have ig := fm_core_ok (x := x) g ok.1
    have ik := fm_core_ok (x := x) k ok.2
    have hz : z ∈ brk (decide (g.rank < (Fm.bin o g k).rank) || x) (g.core x) ++ [wd o] ++ brk (decide (k.rank < (Fm.bin o g k).rank + 1) || x) (k.core x) := hz
    rcases List.mem_append.mp hz with h | h
    · rcases List.mem_append.mp h with h | h
      · exact brk_ok ig z h
      · rw [List.mem_singleton.mp h]
        cases o
        · exact .nm _ (by decide +kernel)
        · exact .nm _ (by decide +kernel)
    · exact brk_ok ik z h
  | .fld w v, ok, z, hz => by
    have ok : FldOk w v := ok
    have hz : z ∈ [w, textV v] := hz
    rcases List.mem_cons.mp hz with h | h
    · rw [h]
      exact .nm _ (fld_name w (fldOk_w ok))
    · rw [List.mem_singleton.mp h]
      cases ok with
      | place n hn => exact .num n
      | verdict z hz' => exact .nm _ (vds_name z hz')
      | name w z hw hz' hl => exact .nm _ hz'
theorem words_ok {x : Bool} {r : Nat} {f : Fm} (ok : f.ok) : ∀ z ∈ f.words x r, WordOk z := brk_ok (fm_core_ok f ok)
theorem rd_text {x : Bool} {f : Fm} (ok : f.ok) {n : Nat} (hn : 2 * f.dep + 2 ≤ n) : ∃ ts j a, Tkz (Str.join " " (f.words x 0)).cps.toList 0 ts ∧ CondA ts (OneAt ts n) 0 f j ∧ ts[j]? = some (("end", "", a) : TK) ∧ ts.length = (f.words x 0).length + 1 := by
  obtain ⟨ts, h1, h2⟩ := tks_join (ws := f.words x 0) (words_ok ok) []
  obtain ⟨j, a, h3, h4⟩ := rd_whole ok hn h1
  refine ⟨ts, j, a, h2, h3, h4, ?_⟩
  have := congrArg List.length h1
  unfold shOf at this
  rw [List.length_map, List.length_append, List.length_map] at this
  exact this

/-! ### the law's forms -/
abbrev sLForm : Stmt := topS 30
abbrev NLForm : List Str := ["_law_pool_here", "_law_words_here", "_law_depth", "_law_choice", "_law_first", "_law_field"]
abbrev PLForm : List Str := ["_law_pool_here", "_law_words_here", "_law_depth"]
theorem scLForm : FnScope NLForm PLForm (defScope sLForm) := ⟨rfl, rfl, rfl, by decide +kernel, rfl, by decide +kernel, by decide +kernel⟩
abbrev sLRank : Stmt := topS 31
abbrev NLRank : List Str := ["_law_form_here"]
abbrev PLRank : List Str := ["_law_form_here"]
theorem scLRank : FnScope NLRank PLRank (defScope sLRank) := ⟨rfl, rfl, rfl, by decide +kernel, rfl, by decide +kernel, by decide +kernel⟩
abbrev sLWords : Stmt := topS 32
abbrev NLWords : List Str := ["_law_form_here", "_law_rank_here", "_law_extra", "_law_words_here", "_law_own"]
abbrev PLWords : List Str := ["_law_form_here", "_law_rank_here", "_law_extra"]
theorem scLWords : FnScope NLWords PLWords (defScope sLWords) := ⟨rfl, rfl, rfl, by decide +kernel, rfl, by decide +kernel, by decide +kernel⟩
def TIns (H : Hp) (v : V) (xs : List V) : Prop := ∃ p, v = .ref p ∧ H p = some (.tup xs)
def LawF (H : Hp) : Fm → V → Prop
  | .any, v => TIns H v [.str "any"]
  | .nt g, v => ∃ x, TIns H v [.str "not", x] ∧ LawF H g x
  | .bin o g h, v => ∃ x y, TIns H v [.str (wd o), x, y] ∧ LawF H g x ∧ LawF H h y
  | .fld w u, v => TIns H v [.str w, u]
theorem TIns.same {H H' : Hp} {v : V} {xs : List V} (h : TIns H v xs) (s : TSame H H') : TIns H' v xs := let ⟨p, e, q⟩ := h; ⟨p, e, s _ _ q⟩
theorem LawF.same {H H' : Hp} (s : TSame H H') : ∀ {f : Fm} {v : V}, LawF H f v → LawF H' f v
  | .any, _, h => TIns.same h s
  | .nt _, _, ⟨x, h1, h2⟩ => ⟨x, h1.same s, LawF.same s h2⟩
  | .bin _ _ _, _, ⟨x, y, h1, h2, h3⟩ => ⟨x, y, h1.same s, LawF.same s h2, LawF.same s h3⟩
  | .fld _ _, _, h => TIns.same h s
theorem But.of {p c : Addr} {H H' : Hp} (s : Same H H') : But p c H H' := fun b o e _ _ => s b o e
theorem PoolAt.tsame {H H' : Hp} {p c : Addr} {lim : V} {n : Nat} (h : PoolAt H p c lim n) (b : But p c H H') : TSame H H' := fun a xs e => by
  obtain ⟨i, cs, cn, sd, md, e1, e2, _⟩ := h
  exact b _ _ e (ne_of e e1 fun z => by cases z) (ne_of e e2 fun z => by cases z)
structure WsAt (H : Hp) (p c wl : Addr) (ws : List Str) : Prop where
  e : H wl = some (.lst (ws.map V.str))
  ok : ∀ z ∈ ws, isName z = true ∧ z.length ≤ 10
  n0 : 0 < ws.length
  n1 : ws.length ≤ 100
  np : wl ≠ p
  nc : wl ≠ c
theorem WsAt.but {H H' : Hp} {p c wl : Addr} {ws : List Str} (h : WsAt H p c wl ws) (b : But p c H H') : WsAt H' p c wl ws := ⟨b _ _ h.e h.np h.nc, h.ok, h.n0, h.n1, h.np, h.nc⟩
structure TxF (mg : Str → Option Value) : Prop where
  n_int : mg "int" = none
  n_len : mg "len" = none
  n_str : mg "str" = none
def spForm : Nat → Sp
  | 0 => fun _ _ _ _ => False
  | n + 1 => fun vs H Q _ => ∃ (p c wl : Addr) (lim : Int) (ws : List Str) (N D : Nat), vs = [.ref p, .ref wl, .int (D : Nat)] ∧ D ≤ n ∧ PoolAt H p c (.int lim) N ∧ WsAt H p c wl ws ∧ N + 7 * 2 ^ D < 100000000000 ∧
    ∀ (v : V) (f : Fm) (lim' : Int) (H' : Hp), PoolAt H' p c (.int lim') (N + (7 * 2 ^ D - 1)) → But p c H H' → LawF H' f v → f.ok → f.dep ≤ D → Q v H'
theorem fld_at {r : Int} (r0 : 0 ≤ r) (r1 : r < 5) : ∃ w, atI (FLD.map V.str) r = some (V.str w) ∧ w ∈ FLD := by
  obtain ⟨v, h1, h2⟩ := atI_in (xs := FLD.map V.str) r0 (by rw [List.length_map]; exact r1)
  obtain ⟨w, hw, rfl⟩ := List.mem_map.mp h2
  exact ⟨w, h1, hw⟩
theorem vds_at {r : Int} (r0 : 0 ≤ r) (r1 : r < 3) : ∃ w, atI (VDS.map V.str) r = some (V.str w) ∧ w ∈ VDS := by
  obtain ⟨v, h1, h2⟩ := atI_in (xs := VDS.map V.str) r0 (by rw [List.length_map]; exact r1)
  obtain ⟨w, hw, rfl⟩ := List.mem_map.mp h2
  exact ⟨w, h1, hw⟩
theorem fld_other : ∀ {w : Str}, w ∈ FLD → w ≠ "place" → w ≠ "verdict" → w = "function" ∨ w = "kind" ∨ w = "changes" := fun {w} h h1 h2 => by
  unfold FLD at h
  simp only [List.mem_cons, List.not_mem_nil, or_false] at h
  rcases h with h | h | h | h | h
  · exact .inl h
  · exact absurd h h1
  · exact .inr (.inl h)
  · exact absurd h h2
  · exact .inr (.inr h)
section
variable {P : Program} {w : World} {K : PySem.W.Frag} {mg : Str → Option Value} {base : Heap}
theorem ok_LForm {f : Addr} {fd : FuncData} (F : Fun K "_law_form" "_law_form" sLForm f fd) (T : TxF mg) (GD : Has P w K mg base CX0 2 "_law_draw" PDraw spDraw) (m : mg "_law_form" = some (.ref f)) (kp : PySem.W.keepIn K (.ref f) = true) (b : Binds K fd PLForm []) : ∀ n, FnOk P w K mg base CX0 (n + 2) f fd PLForm (spForm n) := by
  intro n
  induction n with
  | zero => exact ⟨fun _ _ _ _ h => h.elim, fun _ _ _ _ _ _ _ _ _ _ _ _ _ h => h.elim⟩
  | succ n ih =>
    have GF : Has P w K mg base CX0 (n + 2) "_law_form" PLForm (spForm n) := ⟨f, fd, ih, m, kp, b⟩
    refine F.ok scLForm (fun vs H Q E h => ?_) (fun cdv A outer s H vs Q E hr h => ?_)
    · obtain ⟨p, c, wl, lim, ws, N, D, rfl, _⟩ := h
      rfl
    · obtain ⟨p, c, wl, lim, ws, N, D, rfl, hD, P0, W0, hN, k⟩ := h
      have hr2 := hr.mono (j := 2) (by omega)
      have pw : 1 ≤ 2 ^ D := Nat.one_le_two_pow
      refine ⟨_, (pss_cons (ps_set (i := 3) scLForm.nd rfl (Or.inl rfl) (pe_callH GD hr2 rfl pass0 (pa_cons (pv 0) (pa_cons pe_int pa_nil))))
  (pss_cons (ps_if (PW.pt (pw_and (pt_cmpR op_gt (pv 2) pe_int (nomark _)) (pw_and (pt_cmpR op_gt (pe_ix (r := rIxL K) ix_list (pv 0) pe_int (fun _ _ => rfl)) pe_int (nomark _)) (pw_and1 (pt_cmpR op_gt (pv 3) pe_int (nomark _))))))
  (pss_cons (ps_asg (pe_op op_sub (pe_ix (r := rIxL K) ix_list (pv 0) pe_int (fun _ _ => rfl)) pe_int) (pg_sub (pv 0) pe_int set_list))
  (pss_cons (ps_set (i := 4) scLForm.nd rfl (Or.inl rfl) (pe_callH GF hr rfl pass0 (pa_cons (pv 0) (pa_cons (pv 1) (pa_cons (pe_op op_sub (pv 2) pe_int) pa_nil)))))
  (pss_cons (ps_if (pt_cmpR op_eq (pv 3) pe_int (nomark _))
  (pss_one (ps_ret (pe_tup (pa_cons pe_str (pa_cons (pv 4) pa_nil)))))
  pss_nil)
  (pss_one (ps_ret (pe_tup (pa_cons (pe_ix (r := rIxL K) ix_list (pe_lst (pa_cons pe_str (pa_cons pe_str pa_nil))) (pe_op op_mod (pv 3) pe_int) (fun _ _ => rfl)) (pa_cons (pv 4) (pa_cons (pe_callH GF hr rfl pass0 (pa_cons (pv 0) (pa_cons (pv 1) (pa_cons (pe_op op_sub (pv 2) pe_int) pa_nil)))) pa_nil)))))))))
  pss_nil)
  (pss_cons (ps_set (i := 5) scLForm.nd rfl (Or.inl rfl) (pe_ix (r := rIxL K) ix_list (pe_lst (pa_cons pe_str (pa_cons pe_str (pa_cons pe_str (pa_cons pe_str (pa_cons pe_str pa_nil)))))) (pe_callH GD hr2 rfl pass0 (pa_cons (pv 0) (pa_cons pe_int pa_nil))) (fun _ _ => rfl)))
  (pss_cons (ps_if (pt_cmpR op_eq (pv 3) pe_int (nomark _))
  (pss_one (ps_ret (pe_tup (pa_cons pe_str pa_nil))))
  pss_nil)
  (pss_cons (ps_if (pt_cmpR op_eq (pv 5) pe_str (nomark _))
  (pss_one (ps_ret (pe_tup (pa_cons pe_str (pa_cons (pe_ix (r := rIxL K) ix_list (pe_lst (pa_cons (pe_callH GD hr2 rfl pass0 (pa_cons (pv 0) (pa_cons pe_int pa_nil))) (pa_cons (pe_callH GD hr2 rfl pass0 (pa_cons (pv 0) (pa_cons (pe_op op_pow pe_int pe_int) pa_nil))) pa_nil))) (pe_callTy call_int1 (by rfl) T.n_int bb_int (pa_cons (pe_cmpR op_eq (pe_callH GD hr2 rfl pass0 (pa_cons (pv 0) (pa_cons pe_int pa_nil))) pe_int (nomark _)) pa_nil)) (fun _ _ => rfl)) pa_nil)))))
  pss_nil)
  (pss_cons (ps_if (pt_cmpR op_eq (pv 5) pe_str (nomark _))
  (pss_one (ps_ret (pe_tup (pa_cons (pv 5) (pa_cons (pe_ix (r := rIxL K) ix_list (pe_lst (pa_cons pe_str (pa_cons pe_str (pa_cons pe_str pa_nil)))) (pe_callH GD hr2 rfl pass0 (pa_cons (pv 0) (pa_cons pe_int pa_nil))) (fun _ _ => rfl)) pa_nil)))))
  pss_nil)
  (pss_one (ps_ret (pe_tup (pa_cons (pv 5) (pa_cons (pe_ix (r := rIxL K) ix_list (pv 1) (pe_callH GD hr2 rfl pass0 (pa_cons (pv 0) (pa_cons (pe_callB call_len_seq (by rfl) T.n_len bb_len (pa_cons (pv 1) pa_nil)) pa_nil))) (fun _ _ => rfl)) pa_nil))))))))))), ?_⟩
      refine ⟨_, rfl, p, c, _, N, 9, rfl, P0, by omega, by decide, by decide, fun r H1 r0 r1 P1 b1 => ?_⟩
      have W1 := W0.but b1
      obtain ⟨i, cs, cn, sd, md, e1, e2, e3⟩ := id P1
      have no : ∀ {z z' : Str}, z ≠ z' → decide (V.str z = V.str z') = false := fun h => decide_eq_false fun e => h (by injection e)
      refine ⟨_, rfl, _, _, rfl, rfl, _, rfl, ite2 (fun q1 => ?gA) (fun q1 => iteF ?gB)⟩
      case' gA => refine ⟨_, rfl, p, _, _, _, rfl, rfl, SqL.of e1, rfl, _, _, rfl, rfl, _, rfl, ite2 (fun q2 => ?gC) (fun q2 => iteF ?gE)⟩
      case' gC => refine ⟨_, rfl, _, _, rfl, rfl, _, rfl, ite2 (fun q3 => ?gD) (fun q3 => ?gF)⟩
      case gD =>
        have q1 : 0 < ((D : Nat) : Int) := of_decide_eq_true q1
        obtain ⟨D', rfl⟩ : ∃ D', D = D' + 1 := ⟨D - 1, by omega⟩
        have e2D : 2 ^ (D' + 1) = 2 * 2 ^ D' := by rw [Nat.pow_succ]; omega
        have pw' : 1 ≤ 2 ^ D' := Nat.one_le_two_pow
        have eD : ((D' + 1 : Nat) : Int) - 1 = ((D' : Nat) : Int) := by omega
        have eV : ([V.ref p, V.ref wl, V.int (((D' + 1 : Nat) : Int) - 1)] : List V) = [V.ref p, V.ref wl, V.int ((D' : Nat) : Int)] := by rw [eD]
        obtain ⟨n', rfl⟩ : ∃ n', n = n' + 1 := ⟨n - 1, by omega⟩
        refine ⟨_, rfl, p, _, _, _, rfl, rfl, SqL.of e1, rfl, _, _, rfl, rfl, _, rfl, p, _, _, _, rfl, rfl, e1, rfl, ?_⟩
        have pc : p ≠ c := pool_ne e1 e2
        obtain ⟨H2, eH2⟩ : ∃ H2, H2 = upd H1 p (.lst [.ref c, .int (i : Int), .int cn, .int sd, .int md, .int (lim - 1)]) := ⟨_, rfl⟩
        have P2 : PoolAt H2 p c (.int (lim - 1)) (N + 1) := ⟨i, cs, cn, sd, md, by rw [eH2, upd_same], by rw [eH2, upd_ne pc.symm]; exact e2, e3⟩
        have b2 : But p c H1 H2 := fun a o e h1 h2 => by rw [eH2, upd_ne h1]; exact e
        have W2 := W1.but b2
        show tSeq _ _ _ _ (upd H1 p (.lst [.ref c, .int (i : Int), .int cn, .int sd, .int md, .int (lim - 1)]))
        rw [← eH2]
        refine ⟨_, rfl, _, rfl, _, rfl, _, _, rfl, rfl, p, c, wl, _, ws, N + 1, D', eV, by omega, P2, W2, by omega, fun v3 f3 lim3 H3 P3 b3 l3 ok3 d3 => ?_⟩
        have W3 := W2.but b3
        refine ⟨_, rfl, rfl, _, rfl, ite2 (fun q4 => ?_) (fun q4 => ?_)⟩
        · refine ⟨_, rfl, (by show 2 ≤ sizeLine; decide), fun t ht => ?_⟩
          have s4 := same_new (o := .tup [.str "not", v3]) ht
          exact k _ (.nt f3) lim3 _ ((P3.same s4).mono (by omega)) (((b1.trans b2).trans b3).trans (.of s4)) ⟨v3, ⟨t, rfl, upd_same⟩, l3.same (.of s4)⟩ ok3 (by show f3.dep + 1 ≤ D' + 1; omega)
        · refine ⟨(by show 2 ≤ sizeLine; decide), fun l hl => ⟨_, rfl, _, _, rfl, rfl, (show (0 : Int) < 2 by decide), l, [.str "and", .str "or"], _, .str (wd (decide (r % 2 = 1))), rfl, rfl, SqL.of upd_same, ?_, ?_⟩⟩
          · rcases (show r % 2 = 0 ∨ r % 2 = 1 by omega) with e | e
            · rw [e]; rfl
            · rw [e]; rfl
          have s4 := same_new (o := .lst [.str "and", .str "or"]) hl
          refine ⟨_, rfl, _, rfl, _, rfl, _, rfl, _, _, rfl, rfl, p, c, wl, _, ws, N + 1 + (7 * 2 ^ D' - 1), D', eV, by omega, P3.same s4, W3.but (.of s4), by omega, fun v5 f5 lim5 H5 P5 b5 l5 ok5 d5 => ⟨(by show 3 ≤ sizeLine; decide), fun t ht => ?_⟩⟩
          have s6 := same_new (o := .tup [.str (wd (decide (r % 2 = 1))), v3, v5]) ht
          refine k _ (.bin (decide (r % 2 = 1)) f3 f5) lim5 _ ((P5.same s6).mono (by omega)) (((((b1.trans b2).trans b3).trans (.of s4)).trans b5).trans (.of s6)) ⟨v3, v5, ⟨t, rfl, upd_same⟩, ?_, l5.same (.of s6)⟩ ⟨ok3, ok5⟩ (by show max f3.dep f5.dep + 1 ≤ D' + 1; omega)
          exact ((l3.same (.of s4)).same ((P3.same s4).tsame b5)).same (.of s6)
      all_goals
        refine ⟨(by show 5 ≤ sizeLine; decide), fun l hl => ?_⟩
        have s2 := same_new (o := .lst (FLD.map V.str)) hl
        refine ⟨_, rfl, p, c, _, N + 1, 5, rfl, P1.same s2, by omega, by decide, by decide, fun r2 H3 r20 r21 P3 b3 => ?_⟩
        obtain ⟨wf, hat, hwf⟩ := fld_at r20 r21
        have eL3 := b3 _ _ (upd_same (H := H1) (o := .lst (FLD.map V.str))) (P1.ne1 hl) (P1.ne2 hl)
        have b13 : But p c H H3 := (b1.trans (.of s2)).trans b3
        have W3 := (W1.but (.of s2)).but b3
        refine ⟨l, _, _, _, rfl, rfl, SqL.of eL3, hat, ?_⟩
        refine ⟨_, rfl, rfl, _, rfl, ite2 (fun q4 => ?_) (fun q4 => ?_)⟩
        · refine ⟨(by show 1 ≤ sizeLine; decide), fun t ht => ?_⟩
          have s4 := same_new (o := .tup [.str "any"]) ht
          exact k _ .any lim _ ((P3.same s4).mono (by omega)) (b13.trans (.of s4)) ⟨t, rfl, upd_same⟩ trivial (Nat.zero_le _)
        refine ⟨_, rfl, rfl, _, rfl, ite2 (fun q5 => ?_) (fun q5 => ?_)⟩
        · refine ⟨_, rfl, p, c, _, N + 1 + 1, 6, rfl, P3, by omega, by decide, by decide, fun ra H4 a0 a1 P4 b4 => ?_⟩
          refine ⟨_, rfl, _, _, rfl, rfl, ⟨by decide, by decide, by decide⟩, p, c, _, N + 1 + 1 + 1, _, rfl, P4, by omega, by decide, by decide, fun rb H5 c0 c1 P5 b5 => ⟨(by show 2 ≤ sizeLine; decide), fun l2 hl2 => ?_⟩⟩
          have s5 := same_new (o := .lst [.int ra, .int rb]) hl2
          refine ⟨_, rfl, p, c, _, N + 1 + 1 + 1 + 1, 5, rfl, P5.same s5, by omega, by decide, by decide, fun rc H6 d0 d1 P6 b6 => ⟨rfl, .inr ⟨_, rfl, ?_⟩⟩⟩
          have eL6 := b6 _ _ (upd_same (H := H5) (o := .lst [.int ra, .int rb])) (P5.ne1 hl2) (P5.ne2 hl2)
          have pick : ∀ q : Bool, ∃ n : Nat, n < 10 ^ 12 ∧ atI [V.int ra, V.int rb] (if q = true then 1 else 0) = some (V.int (n : Nat)) := fun q => by
            cases q with
            | true =>
              refine ⟨rb.toNat, ?_, ?_⟩
              · have : rb < 1000000000000 := c1
                have e : 10 ^ 12 = 1000000000000 := by decide
                omega
              · rw [show ((rb.toNat : Nat) : Int) = rb by omega]; rfl
            | false =>
              refine ⟨ra.toNat, ?_, ?_⟩
              · have e : 10 ^ 12 = 1000000000000 := by decide
                omega
              · rw [show ((ra.toNat : Nat) : Int) = ra by omega]; rfl
          obtain ⟨nn, hnn, hpk⟩ := pick (decide (V.int rc = V.int 0))
          refine ⟨l2, _, _, _, rfl, rfl, SqL.of eL6, hpk, (by show 2 ≤ sizeLine; decide), fun t ht => ?_⟩
          have s7 := same_new (o := .tup [.str "place", .int (nn : Nat)]) ht
          exact k _ (.fld "place" (.int (nn : Nat))) lim _ ((P6.same s7).mono (by omega)) (((((b13.trans b4).trans b5).trans (.of s5)).trans b6).trans (.of s7)) ⟨t, rfl, upd_same⟩ (.place nn hnn) (Nat.zero_le _)
        refine ⟨_, rfl, rfl, _, rfl, ite2 (fun q6 => ?_) (fun q6 => ?_)⟩
        · have ew : wf = "verdict" := by
            have := of_decide_eq_true q6
            injection this
          refine ⟨_, rfl, (by show 3 ≤ sizeLine; decide), fun l2 hl2 => ?_⟩
          have s5 := same_new (o := .lst (VDS.map V.str)) hl2
          refine ⟨_, rfl, p, c, _, N + 1 + 1, 3, rfl, P3.same s5, by omega, by decide, by decide, fun rc H6 d0 d1 P6 b6 => ?_⟩
          obtain ⟨zf, hzt, hzf⟩ := vds_at d0 d1
          have eL6 := b6 _ _ (upd_same (H := H3) (o := .lst (VDS.map V.str))) (P3.ne1 hl2) (P3.ne2 hl2)
          refine ⟨l2, _, _, _, rfl, rfl, SqL.of eL6, hzt, (by show 2 ≤ sizeLine; decide), fun t ht => ?_⟩
          have s7 := same_new (o := .tup [.str wf, .str zf]) ht
          exact k _ (.fld wf (.str zf)) lim _ ((P6.same s7).mono (by omega)) (((b13.trans (.of s5)).trans b6).trans (.of s7)) ⟨t, rfl, upd_same⟩ (by rw [ew]; exact .verdict zf hzf) (Nat.zero_le _)
        · have n5 : wf ≠ "place" := fun z => q5 (decide_eq_true (by rw [z]))
          have n6 : wf ≠ "verdict" := fun z => q6 (decide_eq_true (by rw [z]))
          have n0 := W3.n0
          have n1 := W3.n1
          refine ⟨_, rfl, _, rfl, _, rfl, _, rfl, wl, _, rfl, .inl (SqL.of W3.e), p, c, _, N + 1 + 1, _, rfl, P3, by omega, ?_, ?_, fun rc H6 d0 d1 P6 b6 => ?_⟩
          · rw [List.length_map]; omega
          · rw [List.length_map]; omega
          have W6 := W3.but b6
          obtain ⟨v, hv, hm⟩ := atI_in (xs := ws.map V.str) d0 d1
          obtain ⟨zf, hzf, rfl⟩ := List.mem_map.mp hm
          refine ⟨wl, _, _, _, rfl, rfl, SqL.of W6.e, hv, (by show 2 ≤ sizeLine; decide), fun t ht => ?_⟩
          have s7 := same_new (o := .tup [.str wf, .str zf]) ht
          exact k _ (.fld wf (.str zf)) lim _ ((P6.same s7).mono (by omega)) ((b13.trans b6).trans (.of s7)) ⟨t, rfl, upd_same⟩ (.name wf zf (fld_other hwf n5 n6) (W3.ok zf hzf).1 (W3.ok zf hzf).2) (Nat.zero_le _)
end

/-! ### _law_rank, _law_words -/
def rkD : List (Key × V) := [(.inr "or", .int 0), (.inr "and", .int 1)]
def Fm.word : Fm → Str
  | .any => "any"
  | .nt _ => "not"
  | .bin o _ _ => wd o
  | .fld w _ => w
theorem LawF.head {H : Hp} {f : Fm} {v : V} (h : LawF H f v) : ∃ p xs, v = .ref p ∧ H p = some (.tup (.str f.word :: xs)) := by
  cases f with
  | any => obtain ⟨p, e, q⟩ := h; exact ⟨p, _, e, q⟩
  | nt g => obtain ⟨_, ⟨p, e, q⟩, _⟩ := h; exact ⟨p, _, e, q⟩
  | bin o g k => obtain ⟨_, _, ⟨p, e, q⟩, _⟩ := h; exact ⟨p, _, e, q⟩
  | fld w u => obtain ⟨p, e, q⟩ := h; exact ⟨p, _, e, q⟩
theorem rk_val {f : Fm} (ok : f.ok) : (valV rkD (Sum.inr f.word)).getD (V.int 2) = V.int (f.rank : Nat) := by
  have no : ∀ z : Str, z ≠ "or" → z ≠ "and" → (valV rkD (Sum.inr z)).getD (V.int 2) = V.int 2 := fun z h1 h2 => by
    unfold rkD
    rw [valV_neg (fun e => h1 (by injection e with e; exact e.symm)), valV_neg (fun e => h2 (by injection e with e; exact e.symm)), valV_nil]
    rfl
  cases f with
  | any => exact no _ (by show ("any" : Str) ≠ "or"; decide +kernel) (by show ("any" : Str) ≠ "and"; decide +kernel)
  | nt g => exact no _ (by show ("not" : Str) ≠ "or"; decide +kernel) (by show ("not" : Str) ≠ "and"; decide +kernel)
  | bin o g k =>
    cases o with
    | true =>
      show (valV rkD (Sum.inr "or")).getD (V.int 2) = V.int (0 : Nat)
      unfold rkD
      rw [valV_pos rfl]
      rfl
    | false =>
      show (valV rkD (Sum.inr "and")).getD (V.int 2) = V.int (1 : Nat)
      unfold rkD
      rw [valV_neg (fun e => by injection e with e; exact absurd e (by decide +kernel)), valV_pos rfl]
      rfl
  | fld w u =>
    have hw := fldOk_w (show FldOk w u from ok)
    exact no _ (fld_words w hw).2.2.2 (fld_words w hw).2.2.1
theorem merge_rk : mergeK [] [((Sum.inr "or" : Key), V.int 0), (Sum.inr "and", V.int 1)] = rkD := by
  unfold mergeK rkD
  show putK (putK ([] : List (Key × V)) (Sum.inr ("or" : Str)) (V.int 0)) (Sum.inr ("and" : Str)) (V.int 1) = _
  have e : putK ([] : List (Key × V)) (Sum.inr ("or" : Str)) (V.int 0) = [(Sum.inr ("or" : Str), V.int 0)] := rfl
  rw [e]
  unfold putK
  rw [if_neg]
  · rfl
  · rw [List.any_cons, List.any_nil, Bool.or_false]
    simp only [decide_eq_true_eq]
    intro e
    injection e with e
    exact absurd e (by decide +kernel)
def spRank : Sp := fun vs H Q _ => ∃ (v : V) (f : Fm), vs = [v] ∧ LawF H f v ∧ f.ok ∧ ∀ H', Same H H' → Q (.int (f.rank : Nat)) H'
section
variable {P : Program} {w : World} {K : PySem.W.Frag} {mg : Str → Option Value} {base : Heap}
theorem ok_LRank {f : Addr} {fd : FuncData} (F : Fun K "_law_rank" "_law_rank" sLRank f fd) : FnOk P w K mg base CX0 1 f fd PLRank spRank := by
  refine F.ok scLRank (fun vs H Q E h => ?_) (fun cdv A outer s H vs Q E hr h => ?_)
  · obtain ⟨v, f, rfl, _⟩ := h
    rfl
  · obtain ⟨v, f, rfl, lf, ok, k⟩ := h
    have hu := hu_of hr
    refine ⟨_, (pss_one (ps_ret (pe_dget2 hu (pe_disp (pps_cons pe_str pe_int (pps_cons pe_str pe_int pps_nil)) (by rfl) (by rfl) (by decide) (by decide)) (pe_ix (r := rIxT K) ix_tup (pv 0) pe_int (fun _ _ => rfl)) pe_int ⟨rfl, rfl, rfl, rfl⟩))), ?_⟩
    obtain ⟨p, xs, rfl, e⟩ := lf.head
    refine fun d hd => ⟨upd_same, [(Sum.inr "or", V.int 0), (Sum.inr "and", V.int 1)], rfl, (by show 2 ≤ 15; decide), ?_⟩
    rw [merge_rk]
    have s1 : Same H (upd (upd H d (.dK [])) d (.dK rkD)) := fun b o z => by
      rw [upd_ne (ne_of_none z hd), upd_ne (ne_of_none z hd)]
      exact z
    refine ⟨d, rfl, .inl ⟨_, .inl upd_same⟩, _, rfl, p, _, _, .str f.word, rfl, rfl, SqT.of (s1 _ _ e), atI_nat (j := 0) rfl, _, DGet.k (k := Sum.inr f.word) upd_same, ?_⟩
    rw [rk_val ok]
    exact k _ s1
end

theorem brk_len (b : Bool) (ws : List Str) : (brk b ws).length ≤ ws.length + 2 := by
  unfold brk
  split
  · simp only [List.length_append, List.length_cons, List.length_nil]; omega
  · omega
theorem core_len {x : Bool} : ∀ f : Fm, (f.core x).length + 5 ≤ 7 * 2 ^ f.dep
  | .any => by show 1 + 5 ≤ 7 * 2 ^ 0; decide
  | .fld _ _ => by show 2 + 5 ≤ 7 * 2 ^ 0; decide
  | .nt g => by
    have ih := core_len (x := x) g
    have q := brk_len (decide (g.rank < 2) || x) (g.core x)
    show ([("not" : Str)] ++ brk (decide (g.rank < 2) || x) (g.core x)).length + 5 ≤ 7 * 2 ^ (g.dep + 1)
    rw [List.length_append, Nat.pow_succ]
    show 1 + _ + 5 ≤ _
    omega
  | .bin o g h => by
    have ig := core_len (x := x) g
    have ih := core_len (x := x) h
    have q := brk_len (decide (g.rank < (Fm.bin o g h).rank) || x) (g.core x)
    have q' := brk_len (decide (h.rank < (Fm.bin o g h).rank + 1) || x) (h.core x)
    have m1 : 2 ^ g.dep ≤ 2 ^ (max g.dep h.dep) := Nat.pow_le_pow_right (by decide) (by omega)
    have m2 : 2 ^ h.dep ≤ 2 ^ (max g.dep h.dep) := Nat.pow_le_pow_right (by decide) (by omega)
    show (brk (decide (g.rank < (Fm.bin o g h).rank) || x) (g.core x) ++ [wd o] ++ brk (decide (h.rank < (Fm.bin o g h).rank + 1) || x) (h.core x)).length + 5 ≤ 7 * 2 ^ (max g.dep h.dep + 1)
    rw [List.length_append, List.length_append, Nat.pow_succ]
    show _ + 1 + _ + 5 ≤ _
    omega
theorem words_len {x : Bool} {r : Nat} {f : Fm} (h : f.dep ≤ 10) : (f.words x r).length ≤ 7200 ∧ (f.core x).length ≤ 7200 := by
  have q := brk_len (decide (f.rank < r) || x) (f.core x)
  have c := core_len (x := x) f
  have m : 2 ^ f.dep ≤ 2 ^ 10 := Nat.pow_le_pow_right (by decide) h
  have e : 2 ^ 10 = 1024 := by decide
  unfold Fm.words
  omega
theorem small8 {n : Nat} (h : n ≤ 20000) : n ≤ sizeLine := Nat.le_trans h (by decide)
theorem fld_inV : ∀ w ∈ FLD, inV (.str w) [V.str "and", V.str "or"] = false := by decide +kernel
def spWords : Nat → Sp
  | 0 => fun _ _ _ _ => False
  | n + 1 => fun vs H Q _ => ∃ (v : V) (r : Nat) (x : Bool) (f : Fm), vs = [v, .int (r : Nat), .bl x] ∧ LawF H f v ∧ f.ok ∧ f.dep ≤ n ∧ f.dep ≤ 10 ∧ ∀ l H', Same H H' → H' l = some (.lst ((f.words x r).map V.str)) → Q (.ref l) H'
section
variable {X : Cx}
theorem call_strV : CallR X (.type "str") (fun xs H Q => (∃ i, xs = [.int i] ∧ i.natAbs.log2 < 1920 ∧ Q (.str (toString i)) H) ∨ ∃ a, xs = [.str a] ∧ Q (.str a) H) := by
  intro pins s σ H xs us Q I r h
  rcases h with h | h
  · exact call_str_int pins s σ H xs us Q I r h
  · exact SkE.call_str_str pins s σ H xs us Q I r h
end
theorem fld_log {w : Str} {n : Nat} (h : n < 10 ^ 12) : ((n : Nat) : Int).natAbs.log2 < 1920 := by
  rw [Int.natAbs_natCast]
  rcases Nat.eq_zero_or_pos n with e | e
  · rw [e]; decide
  · rw [Nat.log2_lt (by omega)]
    exact Nat.lt_of_lt_of_le h (by decide)
section
variable {P : Program} {w : World} {K : PySem.W.Frag} {mg : Str → Option Value} {base : Heap}
theorem ok_LWords {f : Addr} {fd : FuncData} (F : Fun K "_law_words" "_law_words" sLWords f fd) (T : TxF mg) (GR : Has P w K mg base CX0 1 "_law_rank" PLRank spRank) (m : mg "_law_words" = some (.ref f)) (kp : PySem.W.keepIn K (.ref f) = true) (b : Binds K fd PLWords []) : ∀ n, FnOk P w K mg base CX0 (n + 1) f fd PLWords (spWords n) := by
  intro n
  induction n with
  | zero => exact ⟨fun _ _ _ _ h => h.elim, fun _ _ _ _ _ _ _ _ _ _ _ _ _ h => h.elim⟩
  | succ n ih =>
    have GW : Has P w K mg base CX0 (n + 1) "_law_words" PLWords (spWords n) := ⟨f, fd, ih, m, kp, b⟩
    refine F.ok scLWords (fun vs H Q E h => ?_) (fun cdv A outer s H vs Q E hr h => ?_)
    · obtain ⟨v, r, x, f, rfl, _⟩ := h
      rfl
    · obtain ⟨v, r, x, f, rfl, lf, ok, hd, hd10, k⟩ := h
      have hr1 := hr.mono (j := 1) (by omega)
      refine ⟨_, (C8.pss_cut (ps_if (pt_cmpR op_eq (pe_ix (r := rIxT K) ix_tup (pv 0) pe_int (fun _ _ => rfl)) pe_str (nomark _))
  (pss_one (ps_set (i := 3) scLWords.nd rfl (Or.inl rfl) (pe_lst (pa_cons pe_str pa_nil))))
  (pss_one (ps_if (pt_cmpR op_eq (pe_ix (r := rIxT K) ix_tup (pv 0) pe_int (fun _ _ => rfl)) pe_str (nomark _))
  (pss_one (ps_set (i := 3) scLWords.nd rfl (Or.inl rfl) (pe_op op_cat (pe_lst (pa_cons pe_str pa_nil)) (pe_callH GW hr rfl pass0 (pa_cons (pe_ix (r := rIxT K) ix_tup (pv 0) pe_int (fun _ _ => rfl)) (pa_cons pe_int (pa_cons (pv 2) pa_nil)))))))
  (pss_one (ps_if (pt_cmpR op_in_seq (pe_ix (r := rIxT K) ix_tup (pv 0) pe_int (fun _ _ => rfl)) (pe_lst (pa_cons pe_str (pa_cons pe_str pa_nil))) (by rfl))
  (pss_cons (ps_set (i := 4) scLWords.nd rfl (Or.inl rfl) (pe_callH GR hr1 rfl pass0 (pa_cons (pv 0) pa_nil)))
  (pss_one (ps_set (i := 3) scLWords.nd rfl (Or.inl rfl) (pe_op op_cat (pe_op op_cat (pe_callH GW hr rfl pass0 (pa_cons (pe_ix (r := rIxT K) ix_tup (pv 0) pe_int (fun _ _ => rfl)) (pa_cons (pv 4) (pa_cons (pv 2) pa_nil)))) (pe_lst (pa_cons (pe_ix (r := rIxT K) ix_tup (pv 0) pe_int (fun _ _ => rfl)) pa_nil))) (pe_callH GW hr rfl pass0 (pa_cons (pe_ix (r := rIxT K) ix_tup (pv 0) pe_int (fun _ _ => rfl)) (pa_cons (pe_op op_add (pv 4) pe_int) (pa_cons (pv 2) pa_nil))))))))
  (pss_one (ps_set (i := 3) scLWords.nd rfl (Or.inl rfl) (pe_lst (pa_cons (pe_ix (r := rIxT K) ix_tup (pv 0) pe_int (fun _ _ => rfl)) (pa_cons (pe_callTy call_strV (by rfl) T.n_str bb_str (pa_cons (pe_ix (r := rIxT K) ix_tup (pv 0) pe_int (fun _ _ => rfl)) pa_nil)) pa_nil))))))))))
  (pss_cons (ps_if (PW.pt (pw_or (pt_cmpR op_lt (pe_callH GR hr1 rfl pass0 (pa_cons (pv 0) pa_nil)) (pv 1) (nomark _)) (pw_or1 (pt_val (pv 2)))))
  (pss_one (ps_ret (pe_op op_cat (pe_op op_cat (pe_lst (pa_cons pe_str pa_nil)) (pv 3)) (pe_lst (pa_cons pe_str pa_nil)))))
  pss_nil)
  (pss_one (ps_ret (pv 3))))), ?_⟩
      have no : ∀ {z z' : Str}, z ≠ z' → decide (V.str z = V.str z') = false := fun h => decide_eq_false fun e => h (by injection e)
      have hwl := words_len (x := x) (r := r) hd10
      refine ⟨fun σ' H' => ∃ l ow, σ' = [some v, some (.int (r : Nat)), some (.bl x), some (.ref l), ow] ∧ Same H H' ∧ H' l = some (.lst ((f.core x).map V.str)), ?_, ?_⟩
      · cases f with
        | any =>
          obtain ⟨t, rfl, et⟩ := lf
          refine ⟨_, rfl, t, _, _, _, rfl, rfl, SqT.of et, rfl, rfl, _, rfl, iteS (decide_eq_true rfl) ?_⟩
          exact ⟨(by show 1 ≤ sizeLine; decide), fun l hl => ⟨l, _, rfl, same_new hl, upd_same⟩⟩
        | nt g =>
          obtain ⟨y, ⟨t, rfl, et⟩, lg⟩ := lf
          have hd : g.dep + 1 ≤ n := hd
          have hd10 : g.dep + 1 ≤ 10 := hd10
          obtain ⟨n', rfl⟩ : ∃ n', n = n' + 1 := ⟨n - 1, by omega⟩
          have hgl := words_len (x := x) (r := 2) (show g.dep ≤ 10 by omega)
          refine ⟨_, rfl, t, _, _, _, rfl, rfl, SqT.of et, rfl, rfl, _, rfl, iteE (no (by decide +kernel)) ?_⟩
          refine ⟨_, rfl, t, _, _, _, rfl, rfl, SqT.of et, rfl, rfl, _, rfl, iteS (decide_eq_true rfl) ?_⟩
          refine ⟨(by show 1 ≤ sizeLine; decide), fun l hl => ?_⟩
          have s1 := same_new (o := .lst [.str "not"]) hl
          refine ⟨_, rfl, t, _, _, _, rfl, rfl, SqT.of (s1 _ _ et), rfl, _, rfl, y, 2, x, g, rfl, lg.same (.of s1), ok, by omega, by omega, fun l2 H2 s2 e2 => ?_⟩
          refine ⟨l, l2, _, _, rfl, rfl, s2 _ _ upd_same, e2, small8 (by rw [List.length_map]; show 1 + _ ≤ _; omega), fun l3 hl3 => ⟨l3, _, rfl, (s1.trans s2).trans (same_new hl3), ?_⟩⟩
          rw [upd_same]
          show some (HO.lst ([V.str "not"] ++ (g.words x 2).map V.str)) = some (HO.lst (([("not" : Str)] ++ g.words x 2).map V.str))
          rw [List.map_append]
          rfl
        | bin o g h =>
          obtain ⟨y, z, ⟨t, rfl, et⟩, lg, lh⟩ := lf
          have hd : max g.dep h.dep + 1 ≤ n := hd
          have hd10 : max g.dep h.dep + 1 ≤ 10 := hd10
          obtain ⟨n', rfl⟩ : ∃ n', n = n' + 1 := ⟨n - 1, by omega⟩
          have hgl := words_len (x := x) (r := (Fm.bin o g h).rank) (show g.dep ≤ 10 by omega)
          have hhl := words_len (x := x) (r := (Fm.bin o g h).rank + 1) (show h.dep ≤ 10 by omega)
          have w1 : wd o ≠ "any" := by cases o <;> decide +kernel
          have w2 : wd o ≠ "not" := by cases o <;> decide +kernel
          refine ⟨_, rfl, t, _, _, _, rfl, rfl, SqT.of et, rfl, rfl, _, rfl, iteE (no w1) ?_⟩
          refine ⟨_, rfl, t, _, _, _, rfl, rfl, SqT.of et, rfl, rfl, _, rfl, iteE (no w2) ?_⟩
          refine ⟨_, rfl, t, _, _, _, rfl, rfl, SqT.of et, rfl, (by show 2 ≤ sizeLine; decide), fun l hl => ?_⟩
          have s1 := same_new (o := .lst [.str "and", .str "or"]) hl
          refine ⟨l, _, rfl, .inl (SqL.of upd_same), rfl, rfl, _, rfl, iteS (by cases o <;> decide +kernel) ?_⟩
          refine ⟨_, rfl, _, .bin o g h, rfl, ⟨y, z, ⟨t, rfl, s1 _ _ et⟩, lg.same (.of s1), lh.same (.of s1)⟩, ok, fun H2 s2 => ?_⟩
          have s12 := s1.trans s2
          refine ⟨_, rfl, t, _, _, _, rfl, rfl, SqT.of (s12 _ _ et), rfl, _, rfl, _, rfl, y, _, x, g, rfl, lg.same (.of s12), ok.1, by omega, by omega, fun l3 H3 s3 e3 => ?_⟩
          have s13 := s12.trans s3
          refine ⟨_, rfl, t, _, _, _, rfl, rfl, SqT.of (s13 _ _ et), rfl, (by show 1 ≤ sizeLine; decide), fun l4 hl4 => ?_⟩
          have s4 := same_new (o := .lst [.str (wd o)]) hl4
          have s14 := s13.trans s4
          refine ⟨l3, l4, _, _, rfl, rfl, s4 _ _ e3, upd_same, small8 (by rw [List.length_map]; show _ + 1 ≤ _; omega), fun l5 hl5 => ?_⟩
          have s5 := same_new (o := .lst ((g.words x (Fm.bin o g h).rank).map V.str ++ [.str (wd o)])) hl5
          have s15 := s14.trans s5
          refine ⟨_, rfl, t, _, _, _, rfl, rfl, SqT.of (s15 _ _ et), rfl, _, rfl, _, _, rfl, rfl, _, rfl, z, (Fm.bin o g h).rank + 1, x, h, rfl, lh.same (.of s15), ok.2, by omega, by omega, fun l6 H6 s6 e6 => ?_⟩
          refine ⟨l5, l6, _, _, rfl, rfl, s6 _ _ upd_same, e6, small8 (by rw [List.length_append, List.length_map, List.length_map]; show _ + 1 + _ ≤ _; omega), fun l7 hl7 => ⟨l7, _, rfl, (s15.trans s6).trans (same_new hl7), ?_⟩⟩
          rw [upd_same]
          show _ = some (HO.lst ((g.words x (Fm.bin o g h).rank ++ [wd o] ++ h.words x ((Fm.bin o g h).rank + 1)).map V.str))
          rw [List.map_append, List.map_append]
          rfl
        | fld wo u =>
          obtain ⟨t, rfl, et⟩ := lf
          have fo : FldOk wo u := ok
          have hw := fldOk_w fo
          obtain ⟨n1, n2, n3, n4⟩ := fld_words wo hw
          refine ⟨_, rfl, t, _, _, _, rfl, rfl, SqT.of et, rfl, rfl, _, rfl, iteE (no n1) ?_⟩
          refine ⟨_, rfl, t, _, _, _, rfl, rfl, SqT.of et, rfl, rfl, _, rfl, iteE (no n2) ?_⟩
          refine ⟨_, rfl, t, _, _, _, rfl, rfl, SqT.of et, rfl, (by show 2 ≤ sizeLine; decide), fun l hl => ?_⟩
          have s1 := same_new (o := .lst [.str "and", .str "or"]) hl
          refine ⟨l, _, rfl, .inl (SqL.of upd_same), rfl, rfl, _, rfl, iteE (fld_inV wo hw) ?_⟩
          refine ⟨_, rfl, t, _, _, _, rfl, rfl, SqT.of (s1 _ _ et), rfl, _, rfl, t, _, _, _, rfl, rfl, SqT.of (s1 _ _ et), rfl, ?_⟩
          have fin : ∀ q : Addr, upd H l (.lst [.str "and", .str "or"]) q = none → ∃ l' ow, [some (V.ref t), some (.int (r : Nat)), some (.bl x), some (.ref q), none] = [some (V.ref t), some (.int (r : Nat)), some (.bl x), some (.ref l'), ow] ∧ Same H (upd (upd H l (.lst [.str "and", .str "or"])) q (.lst [.str wo, .str (textV u)])) ∧ upd (upd H l (.lst [.str "and", .str "or"])) q (.lst [.str wo, .str (textV u)]) l' = some (.lst (([wo, textV u] : List Str).map V.str)) := fun q hq => ⟨q, none, rfl, s1.trans (same_new hq), upd_same⟩
          cases fo with
          | place nn hnn => exact .inl ⟨_, rfl, fld_log (w := "") hnn, (by show 2 ≤ sizeLine; decide), fun q hq => fin q hq⟩
          | verdict z hz => exact .inr ⟨_, rfl, (by show 2 ≤ sizeLine; decide), fun q hq => fin q hq⟩
          | name _ z hw' hz hl => exact .inr ⟨_, rfl, (by show 2 ≤ sizeLine; decide), fun q hq => fin q hq⟩
      · rintro σ' H1 ⟨l, ow, rfl, s1, e1⟩
        have hcl := hwl.2
        refine ⟨_, rfl, v, f, rfl, lf.same (.of s1), ok, fun H2 s2 => ?_⟩
        have e2 := s2 _ _ e1
        have bra : brk true (f.core x) = f.words x r → ∀ l2, H2 l2 = none → ∀ l3, upd H2 l2 (.lst [.str "("]) l3 = none → ∀ l4, upd (upd H2 l2 (.lst [.str "("])) l3 (.lst ([.str "("] ++ (f.core x).map V.str)) l4 = none → ∀ l5, upd (upd (upd H2 l2 (.lst [.str "("])) l3 (.lst ([.str "("] ++ (f.core x).map V.str))) l4 (.lst [.str ")"]) l5 = none →
            Q (.ref l5) (upd (upd (upd (upd H2 l2 (.lst [.str "("])) l3 (.lst ([.str "("] ++ (f.core x).map V.str))) l4 (.lst [.str ")"])) l5 (.lst ([.str "("] ++ (f.core x).map V.str ++ [.str ")"]))) := fun eb l2 h2 l3 h3 l4 h4 l5 h5 => by
          refine k l5 _ (((((s1.trans s2).trans (same_new h2)).trans (same_new h3)).trans (same_new h4)).trans (same_new h5)) ?_
          rw [upd_same, ← eb]
          unfold brk
          rw [if_pos rfl, List.map_append, List.map_append]
          rfl
        refine ⟨_, rfl, _, _, rfl, rfl, _, rfl, ite2 (fun q => iteT ?_) (fun q => ⟨_, rfl, _, rfl, ite2 (fun q' => ?_) (fun q' => ?_)⟩)⟩
        · have eb : brk true (f.core x) = f.words x r := by
            have q : f.rank < r := by have := of_decide_eq_true q; omega
            unfold Fm.words
            rw [decide_eq_true q]
            rfl
          refine ⟨(by show 1 ≤ sizeLine; decide), fun l2 h2 => ⟨_, rfl, l2, l, _, _, rfl, rfl, upd_same, same_new h2 _ _ e2, small8 (by rw [List.length_map]; show 1 + _ ≤ _; omega), fun l3 h3 => ⟨(by show 1 ≤ sizeLine; decide), fun l4 h4 => ⟨l3, l4, _, _, rfl, rfl, same_new h4 _ _ upd_same, upd_same, small8 (by rw [List.length_append, List.length_map]; show 1 + _ + 1 ≤ _; omega), fun l5 h5 => bra eb l2 h2 l3 h3 l4 h4 l5 h5⟩⟩⟩⟩
        · have eb : brk true (f.core x) = f.words x r := by
            have q' : x = true := q'
            unfold Fm.words
            rw [q', Bool.or_true]
          refine ⟨(by show 1 ≤ sizeLine; decide), fun l2 h2 => ⟨_, rfl, l2, l, _, _, rfl, rfl, upd_same, same_new h2 _ _ e2, small8 (by rw [List.length_map]; show 1 + _ ≤ _; omega), fun l3 h3 => ⟨(by show 1 ≤ sizeLine; decide), fun l4 h4 => ⟨l3, l4, _, _, rfl, rfl, same_new h4 _ _ upd_same, upd_same, small8 (by rw [List.length_append, List.length_map]; show 1 + _ + 1 ≤ _; omega), fun l5 h5 => bra eb l2 h2 l3 h3 l4 h4 l5 h5⟩⟩⟩⟩
        · refine ⟨_, rfl, k l _ (s1.trans s2) ?_⟩
          have q : ¬ f.rank < r := fun z => q (decide_eq_true (by omega))
          have q' : x = false := by
            cases x with
            | false => rfl
            | true => exact absurd rfl q'
          rw [e2]
          unfold Fm.words
          rw [decide_eq_false q, q']
          rfl
end

section
variable {X : Cx}
/-- what is asked of an own class beside Cls -/
structure ClsT (K : PySem.W.Frag) (C : Addr) : Prop where
  cl : Cls K C
  ca : PySem.W.findIn K (.ref C) "__class__" = some (some (.builtin "object.__class__"))
  cg : PySem.W.specialIn K (.builtin "object.__class__") "__get__" = some (some (.builtin "getset_descriptor.__get__"))
  ct : PySem.W.takesIn K (.builtin "object.__class__") = some true
  mo : PySem.W.mroIn K C (.type "object") = some true
  mc : PySem.W.kitOne K (.ref C) (.ref C) = some true
theorem ClsT.ty {K : PySem.W.Frag} {C a dx : Addr} {H : Hp} {fs : List (Str × V)} (c : ClsT K C) (e : H a = some (.ins C dx fs)) : TyX K H (.ref a) (.ref C) := .base (.ins e c.cl c.ca c.cg c.ct c.mo)
theorem kit_self (K : PySem.W.Frag) (C : Addr) : PySem.W.kitOne K (.ref C) (.ref C) = some true := by
  unfold PySem.W.kitOne
  rw [if_pos (by simp)]
theorem kit_no {K : PySem.W.Frag} {C : Addr} {T : String} (hd : PySem.W.hasDictIn K C = true) (ty : PySem.W.typeIn K (.ref C) = some (.type "type")) (nf : PySem.W.notFirst K C (.type T) = true) : PySem.W.kitOne K (.type T) (.ref C) = some false := by
  obtain ⟨cd, hc, _⟩ := PySem.W.any_some hd
  unfold PySem.W.kitOne PySem.W.kitCls
  rw [if_neg (by simp)]
  simp only [hc, ty]
  rw [if_pos (by simp)]
  rcases Bool.or_eq_true_iff.mp nf with e | e
  · exact absurd (beq_iff_eq.mp e) (by simp)
  · exact beq_iff_eq.mp e
/-- o == y, whatever y is -/
def rEqX (K : PySem.W.Frag) (C : Addr) (sp : Sp) : R2 := fun x y H Q => ∃ a dx fs t, x = .ref a ∧ H a = some (.ins C dx fs) ∧ TyX K H y t ∧ PySem.W.notFirst K C t = true ∧ sp [.ref a, y] H (fun v H' => ∃ c, v = .bl c ∧ Q (.bl c) H') E0
theorem op_eqX {k : Nat} {C : Addr} {ps : List Str} {sp : Sp} (M : HasM X.prog X.w X.K X.mg X.base CX0 k C "__eq__" ps sp) (hr : Room k X.A) : OpR X (compareOp .Eq) (rEqX X.K C sp) := by
  intro pins s σ H x y v u Q I rx ry h
  obtain ⟨f, fd, hm, F, hb⟩ := M.ex
  obtain ⟨a, dx, fs, t, rfl, ha, ty, nf, hq⟩ := h
  obtain rfl : v = Value.ref a := rx
  obtain ⟨mA, J, _⟩ := ins_get I.hok ha
  obtain ⟨od, J, _⟩ := J.look
  obtain ⟨m, hF⟩ := I.fr
  obtain ⟨P, Z, p, _⟩ := kit_of I ry ty
  show wpAny (model X.prog X.w) X.A (richCompare .Eq (.ref a) u) _ _ _
  refine PySem.W.cmp_K (op := .Eq) (tb := t) hr.units0 hF I.ok.mod.kin J (Z.ty _ _ I.kIn p) nf hm.at_ hm.fn (wpAny_mono (run_own (A' := X.A) (vs := [.ref a, y]) F hr rfl hb I (.cons rfl (.cons ry .nil)) hq) (fun w s' hv => ?_) fun _ _ z => z)
  obtain ⟨w, H', I', rw', c, rfl, q⟩ := hv
  cases rw'
  exact ⟨.bl c, H', I', rfl, q⟩
end

theorem eqV_str (a b : Str) : eqV (.str a) (.str b) = decide (a = b) := by
  show (a == b) = _
  by_cases h : a = b
  · rw [decide_eq_true h, h]; exact beq_self_eq_true b
  · rw [decide_eq_false h]; exact beq_eq_false_iff_ne.mpr h

/-! ### == of conditions -/
abbrev sCEq : Stmt := inClass (topS 20) 6
abbrev NCEq : List Str := ["self", "other"]
abbrev PCEq : List Str := ["self", "other"]
theorem scCEq : FnScope NCEq PCEq (defScope sCEq) := ⟨rfl, rfl, rfl, by decide +kernel, rfl, by decide +kernel, by decide +kernel⟩
abbrev sCPts : Stmt := inClass (topS 20) 1
abbrev NCPts : List Str := ["self"]
abbrev PCPts : List Str := ["self"]
theorem scCPts : FnScope NCPts PCPts (defScope sCPts) := ⟨rfl, rfl, rfl, by decide +kernel, rfl, by decide +kernel, by decide +kernel⟩
def eqF : Fm → Fm → Bool
  | .any, .any => true
  | .nt a, .nt b => eqF a b
  | .bin o a b, .bin p c d => decide (o = p) && (eqF a c && eqF b d)
  | .fld x u, .fld z v => decide (x = z) && decide (u = v)
  | _, _ => false
theorem eqF_iff : ∀ {f g : Fm}, eqF f g = true ↔ f = g
  | .any, .any => ⟨fun _ => rfl, fun _ => rfl⟩
  | .nt a, .nt b => ⟨fun h => by rw [eqF_iff.mp (show eqF a b = true from h)], fun h => by injection h with h; show eqF a b = true; exact eqF_iff.mpr h⟩
  | .bin o a b, .bin p c d => ⟨fun h => by
      have h : (decide (o = p) && (eqF a c && eqF b d)) = true := h
      rw [Bool.and_eq_true, Bool.and_eq_true] at h
      rw [of_decide_eq_true h.1, eqF_iff.mp h.2.1, eqF_iff.mp h.2.2], fun h => by
      injection h with h1 h2 h3
      show (decide (o = p) && (eqF a c && eqF b d)) = true
      rw [decide_eq_true h1, eqF_iff.mpr h2, eqF_iff.mpr h3]
      rfl⟩
  | .fld x u, .fld z v => ⟨fun h => by
      have h : (decide (x = z) && decide (u = v)) = true := h
      rw [Bool.and_eq_true] at h
      rw [of_decide_eq_true h.1, of_decide_eq_true h.2], fun h => by
      injection h with h1 h2
      show (decide (x = z) && decide (u = v)) = true
      rw [decide_eq_true h1, decide_eq_true h2]
      rfl⟩
  | .any, .nt _ => ⟨fun h => (by cases h), fun h => (by cases h)⟩
  | .any, .bin _ _ _ => ⟨fun h => (by cases h), fun h => (by cases h)⟩
  | .any, .fld _ _ => ⟨fun h => (by cases h), fun h => (by cases h)⟩
  | .nt _, .any => ⟨fun h => (by cases h), fun h => (by cases h)⟩
  | .nt _, .bin _ _ _ => ⟨fun h => (by cases h), fun h => (by cases h)⟩
  | .nt _, .fld _ _ => ⟨fun h => (by cases h), fun h => (by cases h)⟩
  | .bin _ _ _, .any => ⟨fun h => (by cases h), fun h => (by cases h)⟩
  | .bin _ _ _, .nt _ => ⟨fun h => (by cases h), fun h => (by cases h)⟩
  | .bin _ _ _, .fld _ _ => ⟨fun h => (by cases h), fun h => (by cases h)⟩
  | .fld _ _, .any => ⟨fun h => (by cases h), fun h => (by cases h)⟩
  | .fld _ _, .nt _ => ⟨fun h => (by cases h), fun h => (by cases h)⟩
  | .fld _ _, .bin _ _ _ => ⟨fun h => (by cases h), fun h => (by cases h)⟩
/-- the items of a condition's tuple -/
def PartsF (C : Addr) (H : Hp) : Fm → List V → Prop
  | .any, xs => xs = [.str "any"]
  | .nt g, xs => ∃ x, xs = [.str "not", x] ∧ CondAt C H g x
  | .bin o g h, xs => ∃ x y, xs = [.str (wd o), x, y] ∧ CondAt C H g x ∧ CondAt C H h y
  | .fld w u, xs => xs = [.str w, u]
theorem CondAt.parts {C : Addr} {H : Hp} {f : Fm} {v : V} (h : CondAt C H f v) : ∃ xs, CIns C H v xs ∧ PartsF C H f xs := by
  cases f with
  | any => exact ⟨_, h, rfl⟩
  | nt g => obtain ⟨x, h1, h2⟩ := h; exact ⟨_, h1, x, rfl, h2⟩
  | bin o g k => obtain ⟨x, y, h1, h2, h3⟩ := h; exact ⟨_, h1, x, y, rfl, h2, h3⟩
  | fld w u => exact ⟨_, h, rfl⟩
theorem CIns.inj {C : Addr} {H : Hp} {v : V} {xs ys : List V} (h : CIns C H v xs) (g : CIns C H v ys) : xs = ys := by
  obtain ⟨a, t, dx, rfl, e1, e2⟩ := h
  obtain ⟨a', t', dx', e, e1', e2'⟩ := g
  cases e
  rw [e1] at e1'
  injection e1' with e1'
  injection e1' with _ _ e3
  injection e3 with e3 _
  injection e3 with _ e3
  injection e3 with e3
  rw [← e3, e2] at e2'
  injection e2' with e2'
  injection e2'
theorem wd_inj {o p : Bool} (h : wd o = wd p) : o = p := by
  cases o <;> cases p <;> first | rfl | exact absurd h (by decide +kernel)
theorem wd_words (o : Bool) : wd o ≠ "any" ∧ wd o ≠ "not" := by cases o <;> decide +kernel
theorem cond_inj {C : Addr} {H : Hp} : ∀ {f g : Fm} {v : V}, f.ok → g.ok → CondAt C H f v → CondAt C H g v → f = g
  | .any, g, v, _, ok, h, k => by
    cases g with
    | any => rfl
    | nt b => obtain ⟨_, k, _⟩ := k; exact absurd (CIns.inj h k) (by intro z; injection z with _ z; cases z)
    | bin o a b => obtain ⟨_, _, k, _⟩ := k; exact absurd (CIns.inj h k) (by intro z; injection z with _ z; cases z)
    | fld w u => exact absurd (CIns.inj h k) (by intro z; injection z with _ z; cases z)
  | .nt a, g, v, ok1, ok2, ⟨x, h, hx⟩, k => by
    cases g with
    | any => exact absurd (CIns.inj h k) (by intro z; injection z with _ z; cases z)
    | nt b =>
      obtain ⟨y, k, ky⟩ := k
      have e := CIns.inj h k
      injection e with _ e
      injection e with e _
      subst e
      have ok1 : a.ok := ok1
      have ok2 : b.ok := ok2
      rw [cond_inj ok1 ok2 hx ky]
    | bin o a b => obtain ⟨_, _, k, _⟩ := k; exact absurd (CIns.inj h k) (by intro z; injection z with _ z; injection z with _ z; cases z)
    | fld w u =>
      have e := CIns.inj h k
      injection e with e _
      injection e with e
      exact absurd e.symm (fld_words w (fldOk_w (show FldOk w u from ok2))).2.1
  | .bin o a b, g, v, ok1, ok2, ⟨x, y, h, hx, hy⟩, k => by
    cases g with
    | any => exact absurd (CIns.inj h k) (by intro z; injection z with _ z; cases z)
    | nt b => obtain ⟨_, k, _⟩ := k; exact absurd (CIns.inj h k) (by intro z; injection z with _ z; injection z with _ z; cases z)
    | bin p c d =>
      obtain ⟨x', y', k, kx, ky⟩ := k
      have e := CIns.inj h k
      injection e with e1 e
      injection e with e2 e
      injection e with e3 _
      injection e1 with e1
      subst e2 e3
      rw [wd_inj e1, cond_inj ok1.1 ok2.1 hx kx, cond_inj ok1.2 ok2.2 hy ky]
    | fld w u => exact absurd (CIns.inj h k) (by intro z; injection z with _ z; injection z with _ z; cases z)
  | .fld w u, g, v, ok1, ok2, h, k => by
    have hw := fldOk_w (show FldOk w u from ok1)
    cases g with
    | any => exact absurd (CIns.inj h k) (by intro z; injection z with _ z; cases z)
    | nt b =>
      obtain ⟨y, k, ky⟩ := k
      have e := CIns.inj h k
      injection e with e _
      injection e with e
      exact absurd e (fld_words w hw).2.1
    | bin o a b => obtain ⟨_, _, k, _⟩ := k; exact absurd (CIns.inj h k) (by intro z; injection z with _ z; injection z with _ z; cases z)
    | fld w' u' =>
      have e := CIns.inj h k
      injection e with e1 e
      injection e with e2 _
      injection e1 with e1
      rw [e1, e2]
/-- items compared from the left -/
inductive TEq (IE : V → V → Bool → Prop) : List V → List V → Bool → Prop
  | nil : TEq IE [] [] true
  | lt {y : V} {ys : List V} : TEq IE [] (y :: ys) false
  | gt {x : V} {xs : List V} : TEq IE (x :: xs) [] false
  | no {x y : V} {xs ys : List V} (h : IE x y false) : TEq IE (x :: xs) (y :: ys) false
  | yes {x y : V} {xs ys : List V} {b : Bool} (h : IE x y true) (r : TEq IE xs ys b) : TEq IE (x :: xs) (y :: ys) b
def IEq (C : Addr) (n : Nat) (H : Hp) (x y : V) (r : Bool) : Prop := (SI x ∧ SI y ∧ r = decide (x = y)) ∨ ∃ f g, CondAt C H f x ∧ CondAt C H g y ∧ f.ok ∧ g.ok ∧ f.dep < n ∧ r = eqF f g
theorem parts_eq {C : Addr} {n : Nat} {H : Hp} {f g : Fm} {xs ys : List V} (ok1 : f.ok) (ok2 : g.ok) (hd : f.dep ≤ n) (h : PartsF C H f xs) (k : PartsF C H g ys) : TEq (IEq C n H) xs ys (eqF f g) := by
  have wds : ∀ {a b : Str} {xs ys : List V}, a ≠ b → TEq (IEq C n H) (.str a :: xs) (.str b :: ys) false := fun hne => .no (.inl ⟨.inl ⟨_, rfl⟩, .inl ⟨_, rfl⟩, (decide_eq_false fun e => hne (by injection e)).symm⟩)
  have wd1 : ∀ {a : Str}, IEq C n H (.str a) (.str a) true := fun {a} => .inl ⟨.inl ⟨_, rfl⟩, .inl ⟨_, rfl⟩, (decide_eq_true rfl).symm⟩
  have last : ∀ {x y : V} {r : Bool}, IEq C n H x y r → TEq (IEq C n H) [x] [y] r := fun {x y r} h => by
    cases r with
    | true => exact .yes h .nil
    | false => exact .no h
  cases f with
  | any =>
    have h : xs = [.str "any"] := h
    subst h
    cases g with
    | any => have k : ys = [.str "any"] := k; subst k; exact .yes wd1 .nil
    | nt b => obtain ⟨y, rfl, _⟩ := k; exact wds (by decide +kernel)
    | bin o a b => obtain ⟨y, z, rfl, _⟩ := k; exact wds (Ne.symm (wd_words o).1)
    | fld w u => have k : ys = [.str w, u] := k; subst k; exact wds (Ne.symm (fld_words w (fldOk_w (show FldOk w u from ok2))).1)
  | nt a =>
    obtain ⟨x, rfl, hx⟩ := h
    have hd : a.dep + 1 ≤ n := hd
    cases g with
    | any => have k : ys = [.str "any"] := k; subst k; exact wds (by decide +kernel)
    | nt b => obtain ⟨y, rfl, ky⟩ := k; exact .yes wd1 (last (.inr ⟨a, b, hx, ky, ok1, ok2, by omega, rfl⟩))
    | bin o a b => obtain ⟨y, z, rfl, _⟩ := k; exact wds (Ne.symm (wd_words o).2)
    | fld w u => have k : ys = [.str w, u] := k; subst k; exact wds (Ne.symm (fld_words w (fldOk_w (show FldOk w u from ok2))).2.1)
  | bin o a b =>
    obtain ⟨x, y, rfl, hx, hy⟩ := h
    have hd : max a.dep b.dep + 1 ≤ n := hd
    cases g with
    | any => have k : ys = [.str "any"] := k; subst k; exact wds (wd_words o).1
    | nt b => obtain ⟨y, rfl, ky⟩ := k; exact wds (wd_words o).2
    | bin p c d =>
      obtain ⟨x', y', rfl, kx, ky⟩ := k
      by_cases hop : o = p
      · subst hop
        have e : eqF (.bin o a b) (.bin o c d) = (eqF a c && eqF b d) := by show (decide (o = o) && (eqF a c && eqF b d)) = _; rw [decide_eq_true rfl]; rfl
        rw [e]
        refine .yes wd1 ?_
        have i1 : IEq C n H x x' (eqF a c) := .inr ⟨a, c, hx, kx, ok1.1, ok2.1, by omega, rfl⟩
        have i2 : IEq C n H y y' (eqF b d) := .inr ⟨b, d, hy, ky, ok1.2, ok2.2, by omega, rfl⟩
        cases ec : eqF a c with
        | true => rw [ec] at i1; exact .yes i1 (last i2)
        | false => rw [ec] at i1; exact .no i1
      · have e : eqF (.bin o a b) (.bin p c d) = false := by show (decide (o = p) && (eqF a c && eqF b d)) = _; rw [decide_eq_false hop]; rfl
        rw [e]
        exact wds fun z => hop (wd_inj z)
    | fld w u =>
      have k : ys = [.str w, u] := k
      subst k
      have fw := fld_words w (fldOk_w (show FldOk w u from ok2))
      exact wds (by cases o; exact Ne.symm fw.2.2.1; exact Ne.symm fw.2.2.2)
  | fld w u =>
    have h : xs = [.str w, u] := h
    subst h
    have fw := fld_words w (fldOk_w (show FldOk w u from ok1))
    cases g with
    | any => have k : ys = [.str "any"] := k; subst k; exact wds fw.1
    | nt b => obtain ⟨y, rfl, _⟩ := k; exact wds fw.2.1
    | bin o a b => obtain ⟨y, z, rfl, _⟩ := k; exact wds (by cases o; exact fw.2.2.1; exact fw.2.2.2)
    | fld w' u' =>
      have k : ys = [.str w', u'] := k
      subst k
      by_cases hw : w = w'
      · subst hw
        have e : eqF (.fld w u) (.fld w u') = decide (u = u') := by show (decide (w = w) && decide (u = u')) = _; rw [decide_eq_true rfl]; rfl
        rw [e]
        exact .yes wd1 (last (.inl ⟨fldOk_si (show FldOk w u from ok1), fldOk_si (show FldOk w u' from ok2), rfl⟩))
      · have e : eqF (.fld w u) (.fld w' u') = false := by show (decide (w = w') && decide (u = u')) = _; rw [decide_eq_false hw]; rfl
        rw [e]
        exact wds hw
theorem IEq.same {C : Addr} {n : Nat} {H H' : Hp} {x y : V} {r : Bool} (h : IEq C n H x y r) (s : Same H H') : IEq C n H' x y r := by
  rcases h with h | ⟨f, g, h1, h2, h3⟩
  · exact .inl h
  · exact .inr ⟨f, g, h1.same (.of s), h2.same (.of s), h3⟩
theorem si_eqV {x y : V} (h : SI x) (g : SI y) : flatV x = true ∧ flatV y = true ∧ eqV x y = decide (x = y) := by
  rcases h with ⟨a, rfl⟩ | ⟨i, rfl⟩ <;> rcases g with ⟨b, rfl⟩ | ⟨j, rfl⟩
  · exact ⟨rfl, rfl, by rw [eqV_str]; exact decide_eq_decide.mpr ⟨fun e => by rw [e], fun e => by injection e⟩⟩
  · exact ⟨rfl, rfl, (decide_eq_false fun e => by cases e).symm⟩
  · exact ⟨rfl, rfl, (decide_eq_false fun e => by cases e).symm⟩
  · refine ⟨rfl, rfl, ?_⟩
    show (i == j) = _
    by_cases e : i = j
    · rw [e, decide_eq_true rfl]; exact beq_self_eq_true j
    · rw [decide_eq_false fun z => e (by injection z)]; exact beq_eq_false_iff_ne.mpr e
def spCEq (K : PySem.W.Frag) (C : Addr) : Nat → Sp
  | 0 => fun _ _ _ _ => False
  | n + 1 => fun vs H Q _ => ∃ (a : Addr) (y : V) (f : Fm), vs = [.ref a, y] ∧ CondAt C H f (.ref a) ∧ f.ok ∧ f.dep ≤ n ∧ ((∃ g, CondAt C H g y ∧ g.ok ∧ ∀ H', Same H H' → Q (.bl (eqF f g)) H') ∨ ∃ t, TyX K H y t ∧ PySem.W.kitOne K t (.ref C) = some false ∧ Q (.bl false) H)
def rCTup (C : Addr) (n : Nat) : R2 := fun x y H Q => ∃ ta tb xs ys r, x = .ref ta ∧ y = .ref tb ∧ H ta = some (.tup xs) ∧ H tb = some (.tup ys) ∧ TEq (IEq C n H) xs ys r ∧ ∀ H', Same H H' → Q (.bl r) H'
section
variable {X : Cx}
theorem item_eq {k n : Nat} {C : Addr} {ps : List Str} (M : HasM X.prog X.w X.K X.mg X.base CX0 k C "__eq__" ps (spCEq X.K C n)) (hr : Room (k + 1) X.A) {pins : List (Addr × Obj)} {s : Shared} {σ : L2.St} {H : Hp} {x y : V} {u v : Value} {r : Bool} (I : Inv X pins σ H s) (rx : RelV x u) (ry : RelV y v) (h : IEq C n H x y r) :
    wpAny (model X.prog X.w) X.A.in1 (eqBool u v) (fun b s' => b = r ∧ ∃ H', Inv X pins σ H' s' ∧ Same H H') X.xe s := by
  rcases h with ⟨h1, h2, rfl⟩ | ⟨f, g, cf, cg, okf, okg, hd, rfl⟩
  · obtain ⟨f1, f2, e⟩ := si_eqV h1 h2
    have q := eqAt_V (A := X.A.in1) (s := s) rx ry f1 f2
    rw [e] at q
    exact q X.prog X.w X.xe _ ⟨rfl, H, I, Same.refl _⟩
  · obtain ⟨a, rfl, dx, t, ea⟩ := cf.ref
    obtain ⟨b, rfl, dy, t', eb⟩ := cg.ref
    obtain rfl : u = Value.ref a := rx
    obtain rfl : v = Value.ref b := ry
    by_cases hab : a = b
    · subst hab
      have e : eqF f g = true := eqF_iff.mpr (cond_inj okf okg cf cg)
      rw [e]
      unfold eqBool
      refine wpAny_holding ?_
      rw [if_pos (by simp)]
      exact wpAny_bind (wpAny_rule (wpAny_pure ⟨rfl, H, I, Same.refl _⟩))
    · obtain ⟨fn, fd, hm, F, hb⟩ := M.ex
      obtain ⟨n', rfl⟩ : ∃ n', n = n' + 1 := ⟨n - 1, by omega⟩
      obtain ⟨mA, J, _⟩ := ins_get I.hok ea
      obtain ⟨od, J, _⟩ := J.look
      obtain ⟨mB, J', _⟩ := ins_get I.hok eb
      obtain ⟨od', J', _⟩ := J'.look
      obtain ⟨m, hF⟩ := I.fr
      refine GQ.eqBool_refG hab (PySem.W.cmp_K (op := .Eq) (tb := .ref C) hr.in1.units0 hF I.ok.mod.kin J J'.type (by simp [PySem.W.notFirst]) hm.at_ hm.fn (wpAny_mono (run_own (A' := X.A.in1) (vs := [.ref a, .ref b]) (Q := fun w H' => w = .bl (eqF f g) ∧ Same H H') F hr.in1 rfl hb I (.cons rfl (.cons rfl .nil)) ⟨a, .ref b, f, rfl, cf, okf, by omega, .inl ⟨g, cg, okg, fun H' s' => ⟨rfl, s'⟩⟩⟩) (fun w s' hv => ?_) fun _ _ z => z))
      obtain ⟨w, H', I', rw', rfl, s2⟩ := hv
      cases rw'
      exact ⟨_, rfl, rfl, H', I', s2⟩
theorem vals_drop : ∀ {i : Nat} {xs : List V} {us : List Value}, Vals xs us → Vals (xs.drop i) (us.drop i)
  | 0, _, _, h => h
  | _ + 1, _, _, .nil => .nil
  | i + 1, _, _, .cons _ h => vals_drop (i := i) h
theorem op_ctup {k n : Nat} {C : Addr} {ps : List Str} (M : HasM X.prog X.w X.K X.mg X.base CX0 k C "__eq__" ps (spCEq X.K C n)) (hr : Room (k + 1) X.A) : OpR X (compareOp .Eq) (rCTup C n) := by
  intro pins s σ H x y v u Q I rx ry h
  obtain ⟨ta, tb, xs, ys, r, rfl, rfl, e1, e2, te, q⟩ := h
  obtain rfl : v = Value.ref ta := rx
  obtain rfl : u = Value.ref tb := ry
  obtain ⟨its, r1, t1, _⟩ := I.tuple (SqT.of e1)
  obtain ⟨its2, r2, t2, _⟩ := I.tuple (SqT.of e2)
  show wpAny (model X.prog X.w) X.A (richCompare .Eq (.ref ta) (.ref tb)) _ _ _
  have l1 : its.length = xs.length := r1.length.symm
  have l2 : its2.length = ys.length := r2.length.symm
  refine rc_tupB hr.units0 (fun i s' => ∃ H', Inv X pins σ H' s' ∧ Same H H' ∧ TEq (IEq C n H) (xs.drop i) (ys.drop i) r) t1 t2 (fun i h1 h2 s' hI => ?_) (fun s' hI => ?_) ⟨H, I, Same.refl _, by simpa using te⟩
  · obtain ⟨H1, I1, s1, te1⟩ := hI
    have h1' : i < its.length := by simpa using h1
    have h2' : i < its2.length := by simpa using h2
    have k1 : i < xs.length := by omega
    have k2 : i < ys.length := by omega
    obtain ⟨u1, hu1, ru1⟩ := r1.get (List.getElem?_eq_getElem k1)
    obtain ⟨u2, hu2, ru2⟩ := r2.get (List.getElem?_eq_getElem k2)
    have g1 : its.toArray[i] = u1 := by
      have : its[i]? = some its.toArray[i] := by rw [List.getElem?_eq_getElem h1'] <;> simp
      rw [this] at hu1
      exact Option.some.inj hu1
    have g2 : its2.toArray[i] = u2 := by
      have : its2[i]? = some its2.toArray[i] := by rw [List.getElem?_eq_getElem h2'] <;> simp
      rw [this] at hu2
      exact Option.some.inj hu2
    rw [g1, g2]
    rw [List.drop_eq_getElem_cons k1, List.drop_eq_getElem_cons k2] at te1
    cases te1 with
    | no hI =>
      refine wpAny_mono (item_eq M hr I1 ru1 ru2 (hI.same s1)) (fun b s2 hb => ?_) fun _ _ z => z
      obtain ⟨rfl, H2, I2, s2'⟩ := hb
      exact .inr ⟨rfl, .bl false, H2, I2, rfl, q H2 (s1.trans s2')⟩
    | yes hI rest =>
      refine wpAny_mono (item_eq M hr I1 ru1 ru2 (hI.same s1)) (fun b s2 hb => ?_) fun _ _ z => z
      obtain ⟨rfl, H2, I2, s2'⟩ := hb
      exact .inl ⟨rfl, H2, I2, s1.trans s2', rest⟩
  · obtain ⟨H1, I1, s1, te1⟩ := hI
    have z1 : its.toArray.size = xs.length := by simpa using l1
    have z2 : its2.toArray.size = ys.length := by simpa using l2
    rw [z1, z2] at te1 ⊢
    have e : (xs.length == ys.length) = r := by
      rcases Nat.lt_trichotomy xs.length ys.length with hlt | heq | hgt
      · have m : min xs.length ys.length = xs.length := by omega
        rw [m, List.drop_length] at te1
        obtain ⟨y, ys', ey⟩ : ∃ y ys', ys.drop xs.length = y :: ys' := ⟨_, _, List.drop_eq_getElem_cons hlt⟩
        rw [ey] at te1
        cases te1
        exact beq_eq_false_iff_ne.mpr (by omega)
      · rw [heq, Nat.min_self, List.drop_length, ← heq, List.drop_length] at te1
        cases te1
        rw [heq]
        exact beq_self_eq_true _
      · have m : min xs.length ys.length = ys.length := by omega
        rw [m, List.drop_length] at te1
        obtain ⟨y, ys', ey⟩ : ∃ y ys', xs.drop ys.length = y :: ys' := ⟨_, _, List.drop_eq_getElem_cons hgt⟩
        rw [ey] at te1
        cases te1
        exact beq_eq_false_iff_ne.mpr (by omega)
    rw [e]
    exact ⟨.bl r, H1, I1, rfl, q H1 s1⟩
end
section
variable {P : Program} {w : World} {K : PySem.W.Frag} {mg : Str → Option Value} {base : Heap} {C : Addr}
theorem ok_CEq {f : Addr} {fd : FuncData} (F : Fun K "__eq__" "Condition.__eq__" sCEq f fd) (T : TxC K C) (TC : ClsT K C) (ni : mg "isinstance" = none) (gC : mg "Condition" = some (.ref C)) (me : Meth K C "__eq__" f) (b : Binds K fd PCEq []) : ∀ n, FnOk P w K mg base CX0 (2 * n + 1) f fd PCEq (spCEq K C n) := by
  intro n
  induction n with
  | zero => exact ⟨fun _ _ _ _ h => h.elim, fun _ _ _ _ _ _ _ _ _ _ _ _ _ h => h.elim⟩
  | succ n ih =>
    have MQ : HasM P w K mg base CX0 (2 * n + 1) C "__eq__" PCEq (spCEq K C n) := ⟨_, _, me, ih, b⟩
    have T' : mg "isinstance" = none ∧ True := ⟨ni, trivial⟩
    refine F.ok scCEq (fun vs H Q E h => ?_) (fun cdv A outer s H vs Q E hr h => ?_)
    · obtain ⟨a, y, f, rfl, _⟩ := h
      rfl
    · obtain ⟨a, y, f, rfl, cf, okf, hd, h⟩ := h
      refine ⟨_, (pss_one (ps_ret (pe_and (pe_callB call_isi (by rfl) T'.1 bb_isinstance (pa_cons (pv 1) (pa_cons (pe_glob (v := .ref C) rfl gC rfl) pa_nil))) (pe_one (pe_cmpR (op_ctup MQ hr) (pe_fld (pv 0) rfl) (pe_fld (pv 1) rfl) (nomark _)))))), ?_⟩
      rcases h with ⟨g, cg, okg, k⟩ | ⟨t, ty, kt, k⟩
      · obtain ⟨bb, rfl, dy, t', eb⟩ := cg.ref
        obtain ⟨xs, ⟨a1, ta, dx, e, e1, e2⟩, p1⟩ := cf.parts
        obtain ⟨ys, ⟨b1, tb, dz, e', e1', e2'⟩, p2⟩ := cg.parts
        cases e
        cases e'
        refine ⟨_, rfl, _, _, _, _, _, rfl, .own C, TC.ty e1', TC.mc, true, rfl, iteT ?_⟩
        refine ⟨_, rfl, a, C, dx, _, _, rfl, e1, T.cl, T.nF, rfl, _, rfl, bb, C, dz, _, _, rfl, e1', T.cl, T.nF, rfl, ta, tb, xs, ys, _, rfl, rfl, e2, e2', parts_eq okf okg hd p1 p2, k⟩
      · exact ⟨_, rfl, _, _, _, _, _, rfl, .own C, ty, kt, false, rfl, k⟩
def spCPts (C : Addr) : Sp := fun vs H Q _ => ∃ (a t dx : Addr), vs = [.ref a] ∧ H a = some (.ins C dx [("form", .ref t)]) ∧ Q (.ref t) H
theorem ok_CPts {f : Addr} {fd : FuncData} (F : Fun K "parts" "Condition.parts" sCPts f fd) (T : TxC K C) : FnOk P w K mg base CX0 1 f fd PCPts (spCPts C) := by
  refine F.ok scCPts (fun vs H Q E h => ?_) (fun cdv A outer s H vs Q E hr h => ?_)
  · obtain ⟨a, t, dx, rfl, _⟩ := h
    rfl
  · obtain ⟨a, t, dx, rfl, e, k⟩ := h
    refine ⟨_, (pss_one (ps_ret (pe_fld (pv 0) rfl))), ?_⟩
    exact ⟨_, rfl, a, C, dx, _, _, rfl, e, T.cl, T.nF, rfl, k⟩
end

/-! ### for sign in '..': text = text.replace(' ' + sign, sign).replace(sign + ' ', sign): the texts' tokens are told -/
section
variable {X : Cx}
/-- the slot's own value -/
def SlotIs (X : Cx) (s : Shared) (x : Str) (u : Value) : Prop := ∃ m, s.heap.Ns X.env.locals m ∧ m x = some u
theorem store_is {M : Model} {A : Around} {E : Value → Shared → Prop} {pins : List (Addr × Obj)} {σ : L2.St} {H : Hp} {s : Shared} {i : Nat} {x : Str} {v : V} {u : Value} {Q : Unit → Shared → Prop} (I : Inv X pins σ H s) (hN : X.N.Nodup) (hi : X.N[i]? = some x) (hk : X.env.kindOf x = some .local) (r : RelV v u)
    (h : ∀ s', Inv X pins (σ.set i (some v)) H s' → SlotIs X s' x u → Heap.SameBut X.env.locals s.heap s'.heap → s'.toks = s.toks + 1 → Q () s') : wpAny M A (storeName X.env x u) Q E s := by
  obtain ⟨m, hn, hl⟩ := id I.loc
  have hiσ : i < σ.length := by
    rw [I.len]
    exact (List.getElem?_eq_some_iff.mp hi).1
  have cne := I.cne
  obtain ⟨oL, _, _, hoL, _⟩ := id hn
  have low : ∀ {b : Addr} {o : Obj}, X.s_0.heap.get? b = some o → b ≠ X.env.locals := fun e => Nat.ne_of_lt (Nat.lt_of_lt_of_le (Heap.lt_size e) I.ok.above)
  refine wpAny_storeName_local hk hn (fun h' hn' hs => h _ ?_ ⟨_, hn', by simp⟩ hs rfl) (by rw [I.ok.kind]; rfl)
  exact {
    ok := I.ok
    os := I.os
    bare := I.bare
    base := {
      keep := fun b o e n hb hx => (hs.2 b (low e)).trans (I.base.keep b o e n hb hx)
      slot := fun b o e n hb hx => let ⟨sl, q⟩ := I.base.slot b o e n hb hx; ⟨sl, (hs.2 b (low e)).trans q⟩
      free := I.base.free
      there := fun b o e hx => let ⟨o', q⟩ := I.base.there b o e hx; ⟨o', (hs.2 b (low e)).trans q⟩
      tups := I.base.tups
      frzs := I.base.frzs
      tbls := I.base.tbls }
    loc := by
      refine ⟨_, hn', fun j y v' e1 e2 e3 => ?_⟩
      by_cases hj : j = i
      · subst hj
        rw [hi] at e1
        cases e1
        rw [List.getElem?_set_self hiσ] at e2
        cases e2
        exact ⟨u, r, .inl ⟨hk, if_pos rfl⟩⟩
      · rw [List.getElem?_set_ne (Ne.symm hj)] at e2
        obtain ⟨u', r', q⟩ := hl j y v' e1 e2 e3
        have yx : y ≠ x := fun e => hj (nodup_ix hN e1 (e ▸ hi))
        refine ⟨u', r', ?_⟩
        rcases q with ⟨k, e⟩ | ⟨k, c, e, z⟩
        · exact .inl ⟨k, (if_neg yx).trans e⟩
        · exact .inr ⟨k, c, e, z.sameBut hs (cne y c e)⟩
    cell := fun y c e => let ⟨w', z⟩ := I.cell y c e; ⟨w', z.sameBut hs (cne y c e)⟩
    free := I.free
    freeC := I.freeC
    pin := fun p hp => let ⟨e, n, ne, nf, d⟩ := I.pin p hp; ⟨(hs.2 p.1 ne).trans e, n, ne, nf, d⟩
    hok := fun b ob e => by
      have nl : ∀ {c : Addr} {w' : HO}, H c = some w' → c ≠ X.env.locals := fun q z => by rw [z, I.free] at q; cases q
      refine (I.hok b ob e).stay (fun c w' hc q => (hs.2 c ?_).trans q) (fun _ q => q) fun _ _ q => q
      rcases hc with z | z
      · rw [z]; exact nl e
      · exact nl z
    len := by rw [List.length_set]; exact I.len }
def rp (c z : Str) : Str := Txt.replace (Txt.replace z (" " ++ c) c) (c ++ " ") c
theorem sp_ne {c : Nat} : ((" " ++ (⟨#[c]⟩ : Str) : Str) == (⟨#[c]⟩ : Str)) = false ∧ (((⟨#[c]⟩ : Str) ++ " " : Str) == (⟨#[c]⟩ : Str)) = false := by
  have l1 : ∀ a b : Str, a.cps.size ≠ b.cps.size → (a == b) = false := fun a b h => beq_eq_false_iff_ne.mpr fun e => h (by rw [e])
  exact ⟨l1 _ _ (by show (#[32] ++ #[c] : Array Nat).size ≠ 1; simp), l1 _ _ (by show (#[c] ++ #[32] : Array Nat).size ≠ 1; simp)⟩
/-- one turn's text -/
theorem tight_body {sg tg : Str} {p4 p5 p6 p7 p8 p9 p10 p11 p12 p13 p14 p15 p16 : Pos} {k2 k3 : Nat} {pins : List (Addr × Obj)} {σ : L2.St} {H : Hp} {s : Shared} {c : Nat} {t : Tok} {z : Str} {Q : Value → Shared → Prop} {E : Value → Shared → Prop} (I : Inv X pins σ H s)
    (hks : X.env.kindOf sg = some .local) (hkt : X.env.kindOf tg = some .local) (hd1 : (sg == ("__debug__" : Str)) = false) (hd2 : (tg == ("__debug__" : Str)) = false) (sl : SlotIs X s sg (.str ⟨#[c]⟩ t)) (ht0 : t ≠ 0) (ht1 : t < s.toks) (tz : ∃ tk, SlotIs X s tg (.str z tk)) (hz : z.length ≤ 100000)
    (b1 : attributeBase (.Call (.Attribute (.Name tg p4) "replace" p5) [.BinOp (.Constant (.str " ") k2 p6) .Add (.Name sg p7) p8, .Name sg p9] [] p10) "replace" X.env (eval (.Call (.Attribute (.Name tg p4) "replace" p5) [.BinOp (.Constant (.str " ") k2 p6) .Add (.Name sg p7) p8, .Name sg p9] [] p10) X.env) = eval (.Call (.Attribute (.Name tg p4) "replace" p5) [.BinOp (.Constant (.str " ") k2 p6) .Add (.Name sg p7) p8, .Name sg p9] [] p10) X.env)
    (b2 : attributeBase (.Name tg p4) "replace" X.env (eval (.Name tg p4) X.env) = eval (.Name tg p4) X.env) (l1 : (p11.endLine == p16.line) = true) (l2 : (p5.endLine == p10.line) = true)
    (h : ∀ tk n, Q (.str (rp ⟨#[c]⟩ z) tk) { s with toks := n }) :
    wpAny (model X.prog X.w) X.A (eval (.Call (.Attribute (.Call (.Attribute (.Name tg p4) "replace" p5) [.BinOp (.Constant (.str " ") k2 p6) .Add (.Name sg p7) p8, .Name sg p9] [] p10) "replace" p11) [.BinOp (.Name sg p12) .Add (.Constant (.str " ") k3 p13) p14, .Name sg p15] [] p16) X.env) Q E s := by
  obtain ⟨m, hn, hv⟩ := sl
  obtain ⟨tk, m2, hn2, hv2⟩ := tz
  have one : (⟨#[c]⟩ : Str).length = 1 := rfl
  have sp1 : (" " : Str).length = 1 := by decide +kernel
  have zl : ∀ {y : Str}, y.length ≤ 300000 → y.length + (y.length + 1) * (⟨#[c]⟩ : Str).length ≤ 16777216 := fun h => by rw [one]; omega
  have rl := TK.replace_len z (" " ++ (⟨#[c]⟩ : Str)) ⟨#[c]⟩
  rw [one] at rl
  refine Call_method2 b1 rfl l1 ?_
  refine Call_method2 b2 rfl l2 (wpAny_Name (wpAny_loadName_local I.ok.kind hkt hn2 hv2 ?_) hd2)
  refine ⟨"str", _, PySem.F.plainAttrs_str, PySem.F.slot_str_replace, PySem.F.type_str_replace, typeIs_str _ _ _, (fun _ e => nomatch e), Calls.callWith_builtin rfl (Calls.evalArgs_plain (Calls.spliced_cons ?_))⟩
  refine wpAny_BinOp (Calls.Constant_str (wpAny_Name (wpAny_loadName_local I.ok.kind hks hn hv ?_) hd1))
  refine PySem.P.add_str ?_
  rw [if_neg (by rw [sp1]; decide), if_neg (by rw [one]; decide)]
  refine ⟨by rw [str_app_len, sp1, one]; decide, ?_⟩
  refine Calls.spliced_cons (wpAny_Name (wpAny_loadName_local I.ok.kind hks hn hv (Calls.spliced_nil ?_)) hd1)
  refine wpAny_with_toks (n := s.toks) (by show s.toks ≤ s.toks + 1 + 1; omega) (PySem.SC.replace ?_ ht0 ?_ sp_ne.1 (zl (by omega)) fun t1 n1 hn1 => ?_)
  · show s.toks + 1 ≠ 0
    omega
  · exact Nat.ne_of_gt (Nat.lt_succ_of_lt ht1)
  have hn1 : s.toks ≤ n1 := hn1
  refine ⟨"str", _, PySem.F.plainAttrs_str, PySem.F.slot_str_replace, PySem.F.type_str_replace, typeIs_str _ _ _, (fun _ e => nomatch e), Calls.callWith_builtin rfl (Calls.evalArgs_plain (Calls.spliced_cons ?_))⟩
  refine wpAny_BinOp (wpAny_Name (wpAny_loadName_local (s := { s with toks := n1 }) I.ok.kind hks hn hv (Calls.Constant_str ?_)) hd1)
  refine PySem.P.add_str ?_
  rw [if_neg (by rw [one]; decide), if_neg (by rw [sp1]; decide)]
  refine ⟨by rw [str_app_len, sp1, one]; decide, ?_⟩
  refine Calls.spliced_cons (wpAny_Name (wpAny_loadName_local (s := { s with toks := n1 + 1 + 1 }) I.ok.kind hks hn hv (Calls.spliced_nil ?_)) hd1)
  refine PySem.SC.replace ?_ ht0 ?_ sp_ne.2 (zl (by omega)) fun t2 n2 => h t2 n2
  · show n1 + 1 ≠ 0
    omega
  · exact Nat.ne_of_gt (Nat.lt_succ_of_lt (Nat.lt_of_lt_of_le ht1 hn1))
def par (k : Nat) : Str := if k = 0 then "(" else ")"
def stT (i j : Nat) (σ : L2.St) (z : Str) : Nat → L2.St × Str
  | 0 => (σ, z)
  | k + 1 => (((stT i j σ z k).1.set i (some (.str (par k)))).set j (some (.str (rp (par k) (stT i j σ z k).2))), rp (par k) (stT i j σ z k).2)
def tTight (i j : Nat) : TS := fun D σ H => ∃ z, σ[j]? = some (some (.str z)) ∧ z.length ≤ 20000 ∧ D.nx (stT i j σ z 2).1 H
theorem rp_len (c : Nat) (z : Str) : (rp ⟨#[c]⟩ z).length ≤ 4 * z.length + 3 := by
  have h1 := TK.replace_len z (" " ++ (⟨#[c]⟩ : Str)) ⟨#[c]⟩
  have h2 := TK.replace_len (Txt.replace z (" " ++ (⟨#[c]⟩ : Str)) ⟨#[c]⟩) ((⟨#[c]⟩ : Str) ++ " ") ⟨#[c]⟩
  have one : (⟨#[c]⟩ : Str).length = 1 := rfl
  rw [one] at h1 h2
  unfold rp
  omega
theorem par_sign (k : Nat) (hk : k < 2) : ∃ c, par k = ⟨#[c]⟩ ∧ ("()" : Str).cps[k]? = some c := by
  rcases (show k = 0 ∨ k = 1 by omega) with rfl | rfl
  · exact ⟨40, by decide +kernel, by decide +kernel⟩
  · exact ⟨41, by decide +kernel, by decide +kernel⟩
theorem slot_at {pins : List (Addr × Obj)} {σ : L2.St} {H : Hp} {s : Shared} {j : Nat} {x z : Str} (I : Inv X pins σ H s) (hj : X.N[j]? = some x) (hk : X.env.kindOf x = some .local) (hv : Vis X.env.scope x) (e : σ[j]? = some (some (.str z))) : ∃ tk, SlotIs X s x (.str z tk) := by
  obtain ⟨m, hn, hl⟩ := I.loc
  obtain ⟨u, r, q⟩ := hl j x _ hj e hv
  obtain ⟨tk, rfl⟩ := r
  rcases q with ⟨_, e⟩ | ⟨k | k, _⟩
  · exact ⟨tk, m, hn, e⟩
  · rw [hk] at k; cases k
  · rw [hk] at k; cases k
theorem ps_tight {i j : Nat} {sg tg : Str} {p1 p2 p3 p4 p5 p6 p7 p8 p9 p10 p11 p12 p13 p14 p15 p16 p17 p18 : Pos} {k1 k2 k3 : Nat} (hN : X.N.Nodup) (hi : X.N[i]? = some sg) (hj : X.N[j]? = some tg) (hij : i ≠ j) (hks : X.env.kindOf sg = some .local) (hkt : X.env.kindOf tg = some .local) (hvt : Vis X.env.scope tg) (hc : X.calm = true) (hp : PassesOwn (model X.prog X.w) X.A X.env X.xe)
    (hd1 : (sg == ("__debug__" : Str)) = false := by decide) (hd2 : (tg == ("__debug__" : Str)) = false := by decide)
    (b1 : attributeBase (.Call (.Attribute (.Name tg p4) "replace" p5) [.BinOp (.Constant (.str " ") k2 p6) .Add (.Name sg p7) p8, .Name sg p9] [] p10) "replace" X.env (eval (.Call (.Attribute (.Name tg p4) "replace" p5) [.BinOp (.Constant (.str " ") k2 p6) .Add (.Name sg p7) p8, .Name sg p9] [] p10) X.env) = eval (.Call (.Attribute (.Name tg p4) "replace" p5) [.BinOp (.Constant (.str " ") k2 p6) .Add (.Name sg p7) p8, .Name sg p9] [] p10) X.env := by rfl)
    (b2 : attributeBase (.Name tg p4) "replace" X.env (eval (.Name tg p4) X.env) = eval (.Name tg p4) X.env := by rfl) (l1 : (p11.endLine == p16.line) = true := by rfl) (l2 : (p5.endLine == p10.line) = true := by rfl)
    (hsw : swapsWith (.Call (.Attribute (.Call (.Attribute (.Name tg p4) "replace" p5) [.BinOp (.Constant (.str " ") k2 p6) .Add (.Name sg p7) p8, .Name sg p9] [] p10) "replace" p11) [.BinOp (.Name sg p12) .Add (.Constant (.str " ") k3 p13) p14, .Name sg p15] [] p16) (some (.Name tg p3)) p17.line X.env = pure false := by rfl) :
    PS X (.For (.Name sg p1) (.Constant (.str "()") k1 p2) [.Assign [.Name tg p3] (.Call (.Attribute (.Call (.Attribute (.Name tg p4) "replace" p5) [.BinOp (.Constant (.str " ") k2 p6) .Add (.Name sg p7) p8, .Name sg p9] [] p10) "replace" p11) [.BinOp (.Name sg p12) .Add (.Constant (.str " ") k3 p13) p14, .Name sg p15] [] p16) p17] [] p18) (tTight i j) := by
  refine ⟨fun pins s σ H D I h => ?_⟩
  obtain ⟨z, ez, hz, q⟩ := h
  have jl : j < σ.length := (List.getElem?_eq_some_iff.mp ez).1
  have jk : ∀ k, (stT i j σ z k).1[j]? = some (some (.str (stT i j σ z k).2)) ∧ j < (stT i j σ z k).1.length := fun k => by
    induction k with
    | zero => exact ⟨ez, jl⟩
    | succ k ih =>
      have l : j < ((stT i j σ z k).1.set i (some (.str (par k)))).length := by rw [List.length_set]; exact ih.2
      exact ⟨List.getElem?_set_self l, by show j < (List.set _ _ _).length; rw [List.length_set]; exact l⟩
  have zk : ∀ k, k < 2 → (stT i j σ z k).2.length ≤ 100000 := fun k hk => by
    rcases (show k = 0 ∨ k = 1 by omega) with rfl | rfl
    · exact Nat.le_trans hz (by decide)
    · obtain ⟨c, ec, _⟩ := par_sign 0 (by decide)
      show (rp (par 0) z).length ≤ 100000
      rw [ec]
      exact Nat.le_trans (rp_len c z) (by omega)
  refine wpAny_For (Calls.Constant_str (wpAny_pyIter_ascii (by decide +kernel) ?_)) (by intro _; rfl)
  obtain ⟨it, eit⟩ : ∃ it, it = s.heap.objs.size := ⟨_, rfl⟩
  have I0 : Inv X pins σ H { s with heap := s.heap.push { cls := .type "str_ascii_iterator", data := .fields #[.str "()" s.toks, .int 0 0] }, toks := s.toks + 1 } := I.kept (t' := s.toks + 1) fun b o e => Heap.get?_push_of_some _ e
  have fp : FpOk X pins H it := I.fpOk (by rw [eit]; exact Nat.le_refl _) (by rw [eit]; exact I.hok.fresh (Nat.le_refl _))
  obtain ⟨f0, f1, f2, f3, f4, f5⟩ := fp
  show codeAny _ _ (.forLoop _ (.ref s.heap.objs.size) _ _ _) _ _
  rw [← eit]
  refine codeAny_forLoop_any (fun n s' => ∃ k, n = 2 - k ∧ k ≤ 2 ∧ Inv X pins (stT i j σ z k).1 H s' ∧ s'.heap.IsStrIter it "str_ascii_iterator" "()" s.toks k ∧ 0 < s'.toks) ?_ 2 ⟨0, rfl, by decide, I0, ⟨_, by rw [eit]; exact Heap.get?_push_size _ rfl, rfl, rfl⟩, Nat.succ_pos _⟩
  rintro n s3 ⟨k, rfl, hk, I3, st3, ht3⟩
  rcases Nat.lt_or_ge k 2 with hlt | hge
  · obtain ⟨c, ec, hcx⟩ := par_sign k hlt
    refine wpAny_passesOwn hp (wpAny_pyNext_ascii_item st3 hcx fun h4 st4 hs4 => ?_)
    have I4 : Inv X pins (stT i j σ z k).1 H { s3 with heap := h4, toks := s3.toks + 1 } := I3.turned (fun b o hb e => (hs4.2 b hb).trans e) f0 f1 f3 f4 f5
    obtain ⟨oi, e4, c4, d4⟩ := id st4
    refine go_of (s := { s3 with heap := h4, toks := s3.toks + 1 }) e4 c4 d4 (by decide) ?_
    refine wpAny_passesOwn hp (wpAny_assign_Name (store_is (v := .str ⟨#[c]⟩) I4 hN hi hks ⟨_, rfl⟩ fun s5 I5 sl5 hs5 ht5 => ?_))
    have ht5 : s5.toks = s3.toks + 1 + 1 := ht5
    have ej : ((stT i j σ z k).1.set i (some (.str ⟨#[c]⟩)))[j]? = some (some (.str (stT i j σ z k).2)) := by
      rw [List.getElem?_set_ne hij]
      exact (jk k).1
    refine wpAny_passesOwn hp (wpAny_execs_cons (wpAny_Assign_Name (tight_body I5 hks hkt hd1 hd2 sl5 (Nat.ne_of_gt ht3) (by rw [ht5]; exact Nat.lt_succ_of_lt (Nat.lt_succ_self _)) (slot_at I5 hj hkt hvt ej) (zk k hlt) b1 b2 l1 l2 fun tk n6 => ?_) hsw))
    have I6 : Inv X pins ((stT i j σ z k).1.set i (some (.str ⟨#[c]⟩))) H { s5 with toks := n6 } := I5.tok n6
    refine wpAny_with_toks (n := 0) (Nat.zero_le _) (store_is (v := .str (rp ⟨#[c]⟩ (stT i j σ z k).2)) I6 hN hj hkt ⟨_, rfl⟩ fun s7 I7 sl7 hs7 ht7 _ => wpAny_execs_nil ?_)
    refine ⟨2 - (k + 1), by omega, k + 1, rfl, by omega, ?_, ?_, ?_⟩
    · show Inv X pins (((stT i j σ z k).1.set i (some (.str (par k)))).set j (some (.str (rp (par k) (stT i j σ z k).2)))) H s7
      rw [ec]
      exact I7
    · obtain ⟨o, ho, r⟩ := st4
      exact ⟨o, (hs7.2 it f1).trans ((hs5.2 it f1).trans ho), r⟩
    · rw [ht7]
      exact Nat.succ_pos _
  · have e2 : k = 2 := by omega
    subst e2
    refine wpAny_passesOwn hp (wpAny_pyNext_ascii_end (I3.ok.hd hc) st3 (by decide +kernel) fun h4 he4 => ?_)
    refine wpAny_execs_nil ⟨_, H, ?_, q⟩
    exact I3.turned (t' := s3.toks) (fun b o hb e => he4 b o hb e) f0 f1 f3 f4 f5
end

/-! ### the text without spaces beside brackets -/
abbrev IT := List (Bool × Str)
def gl : IT → List Nat
  | [] => []
  | (b, w) :: r => (if b = true then [32] else []) ++ (TL.tl w ++ gl r)
def st1 (c : Nat) : IT → IT
  | [] => []
  | (b, w) :: r => (if TL.tl w = [c] then false else b, w) :: st1 c r
def st2 (c : Nat) : Bool → IT → IT
  | _, [] => []
  | p, (b, w) :: r => (if p = true then false else b, w) :: st2 c (decide (TL.tl w = [c])) r
def Wk (c : Nat) (l : IT) : Prop := ∀ p ∈ l, TL.tl p.2 ≠ [] ∧ (∀ x ∈ TL.tl p.2, x ≠ 32) ∧ (TL.tl p.2 = [c] ∨ ∀ x ∈ TL.tl p.2, x ≠ c)
open StrLaws in
theorem copyL {y0 y1 : Nat} {z l : List Nat} : ∀ {w : List Nat}, (∀ x ∈ w, x ≠ y0) → replL [y0, y1] z (w ++ l) = w ++ replL [y0, y1] z l
  | [], _ => rfl
  | x :: w, h => by
    have ih := copyL (y0 := y0) (y1 := y1) (z := z) (l := l) (w := w) fun a ha => h a (List.mem_cons_of_mem _ ha)
    show replL [y0, y1] z (x :: (w ++ l)) = x :: (w ++ replL [y0, y1] z l)
    rw [replL_miss, ih]
    intro e
    have e : x :: (w ++ l).take 1 = y0 :: [y1] := e
    exact h x List.mem_cons_self (List.cons.inj e).1
open StrLaws in
theorem repl1 {c : Nat} (hc : c ≠ 32) : ∀ {l : IT}, Wk c l → replL [32, c] [c] (gl l) = gl (st1 c l)
  | [], _ => replL_nil
  | (b, w) :: r, h => by
    have ih := repl1 hc (l := r) fun p hp => h p (List.mem_cons_of_mem _ hp)
    obtain ⟨h1, h2, h3⟩ := h (b, w) List.mem_cons_self
    show replL [32, c] [c] ((if b = true then [32] else []) ++ (TL.tl w ++ gl r)) = (if (if TL.tl w = [c] then false else b) = true then [32] else []) ++ (TL.tl w ++ gl (st1 c r))
    have cp : replL [32, c] [c] (TL.tl w ++ gl r) = TL.tl w ++ gl (st1 c r) := by rw [copyL h2, ih]
    cases b with
    | false =>
      rw [if_neg (by decide : ¬ false = true), if_neg (by split <;> decide), List.nil_append, List.nil_append]
      exact cp
    | true =>
      rw [if_pos rfl]
      by_cases e : TL.tl w = [c]
      · rw [if_pos e, if_neg (by decide : ¬ false = true), e]
        show replL [32, c] [c] (32 :: c :: gl r) = c :: gl (st1 c r)
        rw [replL_hit (by simp) rfl]
        show c :: replL [32, c] [c] (gl r) = _
        rw [ih]
      · rw [if_neg e, if_pos rfl]
        show replL [32, c] [c] (32 :: (TL.tl w ++ gl r)) = 32 :: (TL.tl w ++ gl (st1 c r))
        rw [replL_miss, cp]
        intro q
        cases ew : TL.tl w with
        | nil => exact h1 ew
        | cons d t =>
          rw [ew] at q
          have q : 32 :: d :: ((t ++ gl r).take 0) = 32 :: [c] := q
          injection q with _ q
          injection q with q _
          rcases h3 with z | z
          · exact e z
          · exact z d (by show d ∈ TL.tl w; rw [ew]; exact List.mem_cons_self) q
open StrLaws in
theorem repl2 {c : Nat} (hc : c ≠ 32) : ∀ (n : Nat) {l : IT}, l.length = n → Wk c l → replL [c, 32] [c] (gl l) = gl (st2 c false l)
  | 0, l, hl, _ => by
    rw [List.length_eq_zero_iff.mp hl]
    exact replL_nil
  | n + 1, l, hl, h => by
    cases l with
    | nil => cases hl
    | cons p r =>
      obtain ⟨b, w⟩ := p
      have hl : r.length = n := by simpa using hl
      have hr : Wk c r := fun p hp => h p (List.mem_cons_of_mem _ hp)
      obtain ⟨h1, h2, h3⟩ := h (b, w) List.mem_cons_self
      show replL [c, 32] [c] ((if b = true then [32] else []) ++ (TL.tl w ++ gl r)) = (if (if false = true then false else b) = true then [32] else []) ++ (TL.tl w ++ gl (st2 c (decide (TL.tl w = [c])) r))
      rw [if_neg (by decide : ¬ false = true)]
      have sp : replL [c, 32] [c] ((if b = true then [32] else []) ++ (TL.tl w ++ gl r)) = (if b = true then [32] else []) ++ replL [c, 32] [c] (TL.tl w ++ gl r) := by
        refine copyL fun x hx => ?_
        split at hx
        · rw [List.mem_singleton.mp hx]; exact Ne.symm hc
        · cases hx
      rw [sp]
      congr 1
      by_cases e : TL.tl w = [c]
      · rw [decide_eq_true e, e]
        have miss : ∀ l : List Nat, l.head? ≠ some 32 → replL [c, 32] [c] (c :: l) = c :: replL [c, 32] [c] l := fun l hl => by
          rw [replL_miss]
          intro q
          cases l with
          | nil => cases q
          | cons x t =>
            have q : c :: x :: (t.take 0) = c :: [32] := q
            injection q with _ q
            injection q with q _
            exact hl (by rw [q]; rfl)
        show replL [c, 32] [c] (c :: gl r) = c :: gl (st2 c true r)
        cases r with
        | nil =>
          rw [miss _ (by show (([] : List Nat).head?) ≠ _; simp)]
          show c :: replL [c, 32] [c] [] = [c]
          rw [replL_nil]
        | cons p r' =>
          obtain ⟨b2, w2⟩ := p
          obtain ⟨g1, g2, _⟩ := hr (b2, w2) List.mem_cons_self
          have hr2 : Wk c ((false, w2) :: r') := fun p hp => by
            rcases List.mem_cons.mp hp with z | z
            · rw [z]; exact hr (b2, w2) List.mem_cons_self
            · exact hr p (List.mem_cons_of_mem _ z)
          have ih := repl2 hc n (l := (false, w2) :: r') (by simpa using hl) hr2
          have e1 : st2 c true ((b2, w2) :: r') = st2 c false ((false, w2) :: r') := by
            show ((if true = true then false else b2), w2) :: _ = ((if false = true then false else false), w2) :: _
            rw [if_pos rfl, if_neg (by decide : ¬ false = true)]
          have e2 : gl ((false, w2) :: r') = TL.tl w2 ++ gl r' := by
            show (if false = true then [32] else []) ++ _ = _
            rw [if_neg (by decide : ¬ false = true)]
            rfl
          cases b2 with
          | true =>
            show replL [c, 32] [c] (c :: 32 :: (TL.tl w2 ++ gl r')) = _
            rw [replL_hit (by simp) rfl]
            show c :: replL [c, 32] [c] (TL.tl w2 ++ gl r') = _
            rw [← e2, ih, e1]
          | false =>
            have hh : (gl ((false, w2) :: r')).head? ≠ some 32 := by
              rw [e2]
              cases ew : TL.tl w2 with
              | nil => exact absurd ew g1
              | cons d t =>
                intro q
                have q : some d = some 32 := q
                exact g2 d (by show d ∈ TL.tl w2; rw [ew]; exact List.mem_cons_self) (Option.some.inj q)
            rw [miss _ hh, ih, e1]
      · rw [decide_eq_false e]
        have ih := repl2 hc n hl hr
        rw [copyL (h3.resolve_left e), ih]
def isBr (w : Str) : Bool := decide (w = "(" ∨ w = ")")
/-- between two words that are no brackets stands a space -/
def SepL : Bool → IT → Prop
  | _, [] => True
  | p, (b, w) :: r => (b = true ∨ p = true ∨ isBr w = true) ∧ SepL (isBr w) r
def snds (l : IT) : List Str := l.map (·.2)
theorem st1_snd (c : Nat) : ∀ l : IT, snds (st1 c l) = snds l
  | [] => rfl
  | (b, w) :: r => by show w :: snds (st1 c r) = w :: snds r; rw [st1_snd c r]
theorem st2_snd (c : Nat) : ∀ (p : Bool) (l : IT), snds (st2 c p l) = snds l
  | _, [] => rfl
  | p, (b, w) :: r => by show w :: snds (st2 c _ r) = w :: snds r; rw [st2_snd c _ r]
theorem tl_inj {a b : Str} (h : TL.tl a = TL.tl b) : a = b := TL.ext_tl h
theorem st1_sep {c : Nat} (hc : c = 40 ∨ c = 41) : ∀ {p : Bool} {l : IT}, SepL p l → SepL p (st1 c l)
  | _, [], _ => trivial
  | p, (b, w) :: r, ⟨h1, h2⟩ => by
    refine ⟨?_, st1_sep hc h2⟩
    by_cases e : TL.tl w = [c]
    · right; right
      unfold isBr
      rcases hc with rfl | rfl
      · exact decide_eq_true (.inl (tl_inj (e.trans op_list.symm)))
      · exact decide_eq_true (.inr (tl_inj (e.trans cl_list.symm)))
    · show (if TL.tl w = [c] then false else b) = true ∨ _
      rw [if_neg e]
      exact h1
theorem st2_sep {c : Nat} (hc : c = 40 ∨ c = 41) : ∀ {p q : Bool} {l : IT}, (q = true → p = true) → SepL p l → SepL p (st2 c q l)
  | _, _, [], _, _ => trivial
  | p, q, (b, w) :: r, hq, ⟨h1, h2⟩ => by
    refine ⟨?_, st2_sep hc (fun e => ?_) h2⟩
    · show (if q = true then false else b) = true ∨ _
      by_cases e : q = true
      · exact .inr (.inl (hq e))
      · rw [if_neg e]; exact h1
    · have e := of_decide_eq_true e
      unfold isBr
      rcases hc with rfl | rfl
      · exact decide_eq_true (.inl (tl_inj (e.trans op_list.symm)))
      · exact decide_eq_true (.inr (tl_inj (e.trans cl_list.symm)))
theorem word_wk {c : Nat} (hc : c = 40 ∨ c = 41) {z : Str} (h : WordOk z) : TL.tl z ≠ [] ∧ (∀ x ∈ TL.tl z, x ≠ 32) ∧ (TL.tl z = [c] ∨ ∀ x ∈ TL.tl z, x ≠ c) := by
  have al_no : ∀ {x : Nat}, al x = true → x ≠ 32 ∧ x ≠ 40 ∧ x ≠ 41 := fun {x} hx => ⟨fun e => by rw [e] at hx; exact absurd hx (by decide +kernel), fun e => by rw [e] at hx; exact absurd hx (by decide +kernel), fun e => by rw [e] at hx; exact absurd hx (by decide +kernel)⟩
  have alnum : TL.tl z ≠ [] → (∀ x ∈ TL.tl z, al x = true) → TL.tl z ≠ [] ∧ (∀ x ∈ TL.tl z, x ≠ 32) ∧ (TL.tl z = [c] ∨ ∀ x ∈ TL.tl z, x ≠ c) := fun h1 h2 => ⟨h1, fun x hx => (al_no (h2 x hx)).1, .inr fun x hx => by
    rcases hc with rfl | rfl
    · exact (al_no (h2 x hx)).2.1
    · exact (al_no (h2 x hx)).2.2⟩
  cases h with
  | op =>
    rw [op_list]
    refine ⟨by simp, fun x hx => by rw [List.mem_singleton.mp hx]; decide, ?_⟩
    rcases hc with rfl | rfl
    · exact .inl rfl
    · exact .inr fun x hx => by rw [List.mem_singleton.mp hx]; decide
  | cl =>
    rw [cl_list]
    refine ⟨by simp, fun x hx => by rw [List.mem_singleton.mp hx]; decide, ?_⟩
    rcases hc with rfl | rfl
    · exact .inr fun x hx => by rw [List.mem_singleton.mp hx]; decide
    · exact .inl rfl
  | nm z h => obtain ⟨h1, h2, _⟩ := name_al h; exact alnum h1 h2
  | num n => obtain ⟨h1, h2, _⟩ := num_kind n; exact alnum h1 h2
theorem wk_of {c : Nat} (hc : c = 40 ∨ c = 41) {l : IT} (h : ∀ z ∈ snds l, WordOk z) : Wk c l := fun p hp => word_wk hc (h p.2 (List.mem_map.mpr ⟨p, hp, rfl⟩))
theorem br_word {w : Str} (h : isBr w = true) {t : List Nat} {sh : SH} (k : Tks t sh) : Tks (TL.tl w ++ t) (shW w :: sh) := by
  rcases of_decide_eq_true h with e | e
  · rw [e, shW_op, op_list]
    exact Tks.sign (c := 40) (by decide +kernel) k
  · rw [e, shW_cl, cl_list]
    exact Tks.sign (c := 41) (by decide +kernel) k
theorem tks_gl : ∀ {p : Bool} {l : IT}, SepL p l → (∀ z ∈ snds l, WordOk z) → Tks (gl l) ((snds l).map shW ++ [pr "end" ""])
  | _, [], _, _ => Tks.nil
  | p, (b, w) :: r, ⟨_, h2⟩, hw => by
    have hw0 : WordOk w := hw w List.mem_cons_self
    have ih := tks_gl h2 fun z hz => hw z (List.mem_cons_of_mem _ hz)
    have core : Tks (TL.tl w ++ gl r) (shW w :: ((snds r).map shW ++ [pr "end" ""])) := by
      cases hb : isBr w with
      | true => exact br_word hb ih
      | false =>
        refine tks_w hw0 ?_ ih
        cases r with
        | nil => exact noAl_nil
        | cons q r' =>
          obtain ⟨b2, w2⟩ := q
          rw [hb] at h2
          obtain ⟨h3, _⟩ := h2
          show NoAl ((if b2 = true then [32] else []) ++ (TL.tl w2 ++ gl r'))
          rcases h3 with z | z | z
          · rw [if_pos z]; exact noAl_gap
          · cases z
          · cases b2 with
            | true => rw [if_pos rfl]; exact noAl_gap
            | false =>
              rw [if_neg (by decide : ¬ false = true), List.nil_append]
              intro c hc
              rcases of_decide_eq_true z with e | e
              · rw [e, op_list] at hc; cases hc; decide +kernel
              · rw [e, cl_list] at hc; cases hc; decide +kernel
    show Tks ((if b = true then [32] else []) ++ (TL.tl w ++ gl r)) (shW w :: ((snds r).map shW ++ [pr "end" ""]))
    cases b with
    | true => rw [if_pos rfl]; exact core.gap
    | false => rw [if_neg (by decide : ¬ false = true)]; exact core
def it0 : List Str → IT
  | [] => []
  | w :: r => (false, w) :: r.map fun z => (true, z)
theorem it0_snd : ∀ ws : List Str, snds (it0 ws) = ws
  | [] => rfl
  | w :: r => by
    show w :: (r.map fun z => (true, z)).map (·.2) = w :: r
    rw [List.map_map]
    congr 1
    exact List.map_id r
theorem gl_map : ∀ r : List Str, gl (r.map fun z => (true, z)) = match r with | [] => [] | _ :: _ => 32 :: TL.tl (Str.join " " r)
  | [] => rfl
  | [z] => by
    show [32] ++ (TL.tl z ++ []) = 32 :: TL.tl z
    rw [List.append_nil]
    rfl
  | z :: y :: r => by
    have ih := gl_map (y :: r)
    show [32] ++ (TL.tl z ++ gl ((y :: r).map fun z => (true, z))) = 32 :: TL.tl (z ++ " " ++ Str.join " " (y :: r))
    rw [ih, TL.tl_append, TL.tl_append, List.append_assoc]
    rfl
theorem gl_it0 (ws : List Str) : gl (it0 ws) = TL.tl (Str.join " " ws) := by
  cases ws with
  | nil => rfl
  | cons w r =>
    show [] ++ (TL.tl w ++ gl (r.map fun z => (true, z))) = _
    rw [gl_map]
    cases r with
    | nil => show TL.tl w ++ [] = TL.tl w; rw [List.append_nil]
    | cons y t =>
      show TL.tl w ++ (32 :: TL.tl (Str.join " " (y :: t))) = TL.tl (w ++ " " ++ Str.join " " (y :: t))
      rw [TL.tl_append, TL.tl_append, List.append_assoc]
      rfl
theorem sep_true : ∀ (p : Bool) (r : List Str), SepL p (r.map fun z => (true, z))
  | _, [] => trivial
  | _, _ :: r => ⟨.inl rfl, sep_true _ r⟩
theorem it0_sep : ∀ ws : List Str, SepL true (it0 ws)
  | [] => trivial
  | _ :: r => ⟨.inr (.inl rfl), sep_true _ r⟩
theorem rp_list (c : Nat) (z : Str) : TL.tl (rp ⟨#[c]⟩ z) = StrLaws.replL [c, 32] [c] (StrLaws.replL [32, c] [c] (TL.tl z)) := by
  have l1 : 1 ≤ (" " ++ (⟨#[c]⟩ : Str) : Str).length := by rw [str_app_len]; exact Nat.le_add_left _ _
  have l2 : 1 ≤ ((⟨#[c]⟩ : Str) ++ " " : Str).length := by rw [str_app_len]; exact Nat.le_add_right _ _
  unfold rp
  show (Txt.replace (Txt.replace z (" " ++ (⟨#[c]⟩ : Str)) ⟨#[c]⟩) ((⟨#[c]⟩ : Str) ++ " ") ⟨#[c]⟩).cps.toList = _
  rw [StrLaws.replace_list l2, StrLaws.replace_list l1]
  congr 1
def tightS (z : Str) : Str := rp ")" (rp "(" z)
theorem par_mk : ("(" : Str) = ⟨#[40]⟩ ∧ (")" : Str) = ⟨#[41]⟩ := by decide +kernel
theorem tight_tks {ws : List Str} (h : ∀ z ∈ ws, WordOk z) : Tks (TL.tl (tightS (Str.join " " ws))) (ws.map shW ++ [pr "end" ""]) := by
  have w0 : ∀ z ∈ snds (it0 ws), WordOk z := by rw [it0_snd]; exact h
  have w1 : ∀ z ∈ snds (st1 40 (it0 ws)), WordOk z := by rw [st1_snd]; exact w0
  have w2 : ∀ z ∈ snds (st2 40 false (st1 40 (it0 ws))), WordOk z := by rw [st2_snd]; exact w1
  have w3 : ∀ z ∈ snds (st1 41 (st2 40 false (st1 40 (it0 ws)))), WordOk z := by rw [st1_snd]; exact w2
  have w4 : ∀ z ∈ snds (st2 41 false (st1 41 (st2 40 false (st1 40 (it0 ws))))), WordOk z := by rw [st2_snd]; exact w3
  have e : TL.tl (tightS (Str.join " " ws)) = gl (st2 41 false (st1 41 (st2 40 false (st1 40 (it0 ws))))) := by
    unfold tightS
    rw [par_mk.1, par_mk.2, rp_list, rp_list, ← gl_it0, repl1 (by decide) (wk_of (.inl rfl) w0), repl2 (by decide) _ rfl (wk_of (.inl rfl) w1), repl1 (by decide) (wk_of (.inr rfl) w2), repl2 (by decide) _ rfl (wk_of (.inr rfl) w3)]
  have s : SepL true (st2 41 false (st1 41 (st2 40 false (st1 40 (it0 ws))))) := st2_sep (.inr rfl) (fun z => by cases z) (st1_sep (.inr rfl) (st2_sep (.inl rfl) (fun z => by cases z) (st1_sep (.inl rfl) (it0_sep ws))))
  have t := tks_gl s w4
  rw [st2_snd, st1_snd, st2_snd, st1_snd, it0_snd] at t
  rw [e]
  exact t

/-! ### where, _law_made, _law_is -/
abbrev sWhere : Stmt := topS 21
abbrev NWhere : List Str := ["wanted", "found", "word", "atom"]
abbrev PWhere : List Str := []
theorem scWhere : FnScope NWhere PWhere (defScope sWhere) := ⟨rfl, rfl, rfl, by decide +kernel, rfl, by decide +kernel, by decide +kernel⟩
abbrev sLMade : Stmt := topS 33
abbrev NLMade : List Str := ["_law_form_here"]
abbrev PLMade : List Str := ["_law_form_here"]
theorem scLMade : FnScope NLMade PLMade (defScope sLMade) := ⟨rfl, rfl, rfl, by decide +kernel, rfl, by decide +kernel, by decide +kernel⟩
abbrev sLIs : Stmt := topS 34
abbrev NLIs : List Str := ["_law_condition", "_law_form_here", "_law_parts", "_law_k"]
abbrev PLIs : List Str := ["_law_condition", "_law_form_here"]
theorem scLIs : FnScope NLIs PLIs (defScope sLIs) := ⟨rfl, rfl, rfl, by decide +kernel, rfl, by decide +kernel, by decide +kernel⟩
def whereF : List (Str × V) → Fm
  | [] => .any
  | (w, v) :: r => r.foldl (fun f p => .bin false f (.fld p.1 p.2)) (.fld w v)
def kvF (l : List (Str × V)) : List (Key × V) := l.map fun p => (Sum.inr p.1, p.2)
theorem val_kvF {l : List (Str × V)} (nd : (l.map (·.1)).Nodup) : ∀ {i : Nat} {p : Str × V}, l[i]? = some p → valV (kvF l) (Sum.inr p.1) = some p.2 := by
  induction l with
  | nil => intro i p h; simp at h
  | cons q r ih =>
    obtain ⟨n1, n2⟩ := List.nodup_cons.mp (show (q.1 :: r.map (·.1)).Nodup from nd)
    intro i p h
    cases i with
    | zero => cases h; exact valV_pos rfl
    | succ i =>
      have h : r[i]? = some p := h
      have : q.1 ≠ p.1 := fun e => n1 (by rw [e]; exact List.mem_map.mpr ⟨p, List.mem_of_getElem? h, rfl⟩)
      show valV ((Sum.inr q.1, q.2) :: kvF r) _ = _
      rw [valV_neg (fun e => this (by injection e))]
      exact ih n2 h
theorem whereF_step {l : List (Str × V)} {i : Nat} {p : Str × V} (h : l[i]? = some p) (hi : 0 < i) : whereF (l.take (i + 1)) = .bin false (whereF (l.take i)) (.fld p.1 p.2) := by
  rw [take_snoc h]
  cases l with
  | nil => simp at h
  | cons q r =>
    obtain ⟨i', rfl⟩ : ∃ i', i = i' + 1 := ⟨i - 1, by omega⟩
    show whereF ((q :: r.take i') ++ [p]) = .bin false (whereF (q :: r.take i')) _
    show (r.take i' ++ [p]).foldl _ _ = _
    rw [List.foldl_append]
    rfl
def spWhere (C : Addr) : Sp := fun vs H Q _ => ∃ (d : Addr) (l : List (Str × V)), vs = [.ref d] ∧ H d = some (.dK (kvF l)) ∧ (l.map (·.1)).Nodup ∧ (∀ p ∈ l, p.1 ∈ FLD) ∧ l.length ≤ 10 ∧ ∀ v H', Same H H' → CondAt C H' (whereF l) v → Q v H'
section
variable {P : Program} {w : World} {K : PySem.W.Frag} {mg : Str → Option Value} {base : Heap} {C fa : Addr}
theorem fld_in {z : Str} (h : z ∈ FLD) : inV (.str z) (FLD.map V.str) = true := by
  unfold inV
  rw [List.any_eq_true]
  exact ⟨.str z, List.mem_map.mpr ⟨z, h, rfl⟩, by rw [eqV_str]; exact decide_eq_true rfl⟩
theorem okb_Where {f : Addr} (TF : TupC K mg "FIELDS" fa FLD) (HC : HasC P w K mg base CX0 1 "Condition" C PCIni (spCIni C)) (MAn : HasM P w K mg base CX0 3 C "__and__" PCAnd (spBin C false)) (sf : PySem.W.selfFirst K C = true) (cdv : Value) (A : Around) (outer : List Env) (s : Shared) (H : Hp) (vs : List V) (Q : VK) (E : XK)
    (hr : Room 3 (A.deeper (PyProof.Rows.envOfC "where" (defScope sWhere) s.heap.objs.size f cdv))) (h : spWhere C vs H Q E) :
    ∃ t, PSs (cxOf CX0 P w K mg base NWhere "where" (defScope sWhere) f cdv A outer s H E).nox (defBody sWhere) t ∧ t { nx := fun _ H' => Q .non H', rt := Q } (start NWhere vs) H := by
  obtain ⟨d, l, rfl, ed, nd, hf, hl, k⟩ := h
  have hu := hu_of hr
  have hr2 := hr.mono (j := 2) (by decide)
  refine ⟨_, (pss_cons (ps_set (i := 1) scWhere.nd rfl (Or.inl rfl) pe_non)
  (pss_cons (ps_lock (ps_for PassesOwn.never rfl (pi_keys (pv 0)) (pg_name (i := 2) scWhere.nd rfl (Or.inl rfl))
  (pss_cons (ps_if (pt_cmpR op_notIn_seq (pv 2) (pe_globE rfl TF.c) (by rfl))
  (pss_one ps_never)
  pss_nil)
  (pss_cons (ps_set (i := 3) scWhere.nd rfl (Or.inl rfl) (pe_makeH HC hr2 rfl pass0 (pa_cons (pe_tup (pa_cons (pv 2) (pa_cons (pe_dget hu (pv 0) (pv 2) (fun _ _ => rfl)) pa_nil))) pa_nil)))
  (pss_one (ps_set (i := 1) scWhere.nd rfl (Or.inl rfl) (pe_ifExp (pt_cmpR op_isN (pv 1) pe_non (nomark _)) (pv 3) (pe_op (op_andO MAn sf hr) (pv 1) (pv 3)))))))))
  (pss_one (ps_ret (pe_ifExp (pt_cmpR op_isN (pv 1) pe_non (nomark _)) (pe_makeH HC hr2 rfl pass0 (pa_cons (pe_tup (pa_cons pe_str pa_nil)) pa_nil)) (pv 1)))))), ?_⟩
  refine ⟨d, _, ed, trivial, fun od => ?_⟩
  refine ⟨_, rfl, d, od, rfl, .inl ⟨_, upd_same, ?_⟩⟩
  have lk : (kvF l).length = l.length := List.length_map ..
  refine for_it walk_keys (fun i σ H' => (∀ b o, H b = some o → b ≠ d → H' b = some o) ∧ H' d = some (.frz od (.dK (kvF l))) ∧ ∃ (fv : V) (x2 x3 : Option V), σ = [some (.ref d), some fv, x2, x3] ∧ ((i = 0 ∧ fv = .non) ∨ (0 < i ∧ CondAt C H' (whereF (l.take i)) fv))) ⟨fun b o e hb => by rw [upd_ne hb]; exact e, upd_same, .non, none, none, rfl, .inl ⟨rfl, rfl⟩⟩ (fun i σ H' _ h' => h'.2.1) ?_ ?_
  · rintro i v σ H1 H1' hi ⟨oth, ed1, fv, x2, x3, rfl, hfv⟩ ⟨rfl, ky, u, hk, rfl⟩
    have hil : i < l.length := by omega
    obtain ⟨p, hp⟩ : ∃ p, l[i]? = some p := ⟨l[i], by simp [hil]⟩
    have hkv : (kvF l)[i]? = some (Sum.inr p.1, p.2) := by unfold kvF; rw [List.getElem?_map, hp]; rfl
    rw [hk] at hkv
    cases hkv
    have pf := hf p (List.mem_of_getElem? hp)
    refine ⟨_, rfl, fa, _, rfl, .inr (TF.sq _), rfl, strs_flat _, _, rfl, iteE (by show (!inV (.str p.1) (FLD.map V.str)) = false; rw [fld_in pf]; rfl) ?_⟩
    refine ⟨_, rfl, _, rfl, _, rfl, d, _, rfl, .inl ⟨kvF l, Sum.inr p.1, .inr ⟨od, ed1⟩, rfl, (val_kvF nd hp).symm⟩, (by show 2 ≤ sizeLine; decide), fun t ht => fun x dx hx hdx hne => ⟨x, dx, _, rfl, upd_same, rfl, ?_⟩⟩
    obtain ⟨m1, m2⟩ := mkC (C := C) ht hx hdx hne
    have oth2 := fun b o e hb => m1 b o (oth b o e hb)
    rcases hfv with ⟨rfl, rfl⟩ | ⟨i0, cf⟩
    · refine ⟨_, rfl, rfl, _, rfl, iteS (decide_eq_true rfl) ?_⟩
      refine ⟨_, rfl, oth2, m1 _ _ ed1, _, _, _, rfl, .inr ⟨by decide, ?_⟩⟩
      rw [take_snoc hp]
      exact m2
    · obtain ⟨fa', rfl, dy, ty, ey⟩ := cf.ref
      refine ⟨_, rfl, rfl, _, rfl, iteE (decide_eq_false fun z => by cases z) ?_⟩
      obtain ⟨a', t', dx', ea', e1', e2'⟩ := id m2
      cases ea'
      refine ⟨_, rfl, _, rfl, fa', x, dy, dx', _, _, rfl, rfl, m1 _ _ ey, e1', fa', x, rfl, fun c H3 s3 c3 => ⟨⟨c, rfl⟩, ?_⟩⟩
      refine ⟨fun b o e hb => s3 _ _ (oth2 b o e hb), s3 _ _ (m1 _ _ ed1), _, _, _, rfl, .inr ⟨by omega, ?_⟩⟩
      rw [whereF_step hp i0]
      exact ⟨_, _, c3, (cf.same (.of m1)).same (.of s3), CSame.of s3 _ _ m2⟩
  · rintro σ H1 ⟨oth, ed1, fv, x2, x3, rfl, hfv⟩
    refine ⟨ed1, ?_⟩
    have s1 : Same H (upd H1 d (.dK (kvF l))) := fun b o e => by
      by_cases hb : b = d
      · subst hb
        rw [ed] at e
        cases e
        exact upd_same
      · rw [upd_ne hb]
        exact oth b o e hb
    have cs : CSame C H1 (upd H1 d (.dK (kvF l))) := fun v xs ⟨a, t, dx, e, e1, e2⟩ => ⟨a, t, dx, e, by rw [upd_ne (ne_of e1 ed1 fun z => by cases z)]; exact e1, by rw [upd_ne (ne_of e2 ed1 fun z => by cases z)]; exact e2⟩
    have lt : l.take (kvF l).length = l := by rw [lk, List.take_length]
    rw [lt] at hfv
    rcases hfv with ⟨h0, rfl⟩ | ⟨i0, cf⟩
    · have l0 : l = [] := List.length_eq_zero_iff.mp (by omega)
      subst l0
      refine ⟨_, rfl, rfl, _, rfl, iteS (decide_eq_true rfl) ?_⟩
      refine ⟨(by show 1 ≤ sizeLine; decide), fun t ht => fun x dx hx hdx hne => ⟨x, dx, _, rfl, upd_same, rfl, ?_⟩⟩
      obtain ⟨m1, m2⟩ := mkC (C := C) ht hx hdx hne
      exact k _ _ (s1.trans m1) m2
    · obtain ⟨fa', rfl, dy, ty, ey⟩ := cf.ref
      refine ⟨_, rfl, rfl, _, rfl, iteE (decide_eq_false fun z => by cases z) ?_⟩
      exact ⟨_, rfl, k _ _ s1 (cf.same cs)⟩
theorem kwK_kvF : ∀ (ks : List Str) (vs : List V), kwK ks vs = kvF (ks.zip vs)
  | [], _ => rfl
  | _ :: _, [] => rfl
  | k :: ks, v :: vs => by show (Sum.inr k, v) :: kwK ks vs = (Sum.inr k, v) :: kvF (ks.zip vs); rw [kwK_kvF ks vs]
/-- where, called with the fields ks -/
def spWh (C : Addr) (ks : List Str) : Sp := fun vs H Q E => vs.length = ks.length ∧ ∀ p, H p = none → spWhere C [.ref p] (upd H p (.dK (kwK ks vs))) Q E
def spMade (C : Addr) : Nat → Sp
  | 0 => fun _ _ _ _ => False
  | n + 1 => fun vs H Q _ => ∃ (v : V) (f : Fm), vs = [v] ∧ LawF H f v ∧ f.ok ∧ f.dep ≤ n ∧ ∀ c H', Same H H' → CondAt C H' f c → Q c H'
structure WhK (P : Program) (w : World) (K : PySem.W.Frag) (mg : Str → Option Value) (base : Heap) (C fw : Addr) : Prop where
  m : mg "where" = some (.ref fw)
  kp : PySem.W.keepIn K (.ref fw) = true
  f0 : FnKw P w K mg base 4 fw [] (spWh C [])
  f1 : ∀ z ∈ FLD, FnKw P w K mg base 4 fw [z] (spWh C [z])
  f3 : FnKw P w K mg base 4 fw ["kind", "place", "function"] (spWh C ["kind", "place", "function"])
theorem wh1 {H : Hp} {z : Str} {v : V} {Q : VK} {E : XK} (hz : z ∈ FLD) (h : ∀ c H', Same H H' → CondAt C H' (.fld z v) c → Q c H') : spWh C [z] [v] H Q E := ⟨rfl, fun p hp => by
  exact ⟨p, [(z, v)], rfl, upd_same, by simp, fun q hq => by rw [List.mem_singleton.mp hq]; exact hz, (by show 1 ≤ 10; decide), fun c H' s' c' => h c H' ((same_new hp).trans s') c'⟩⟩
theorem wh0 {H : Hp} {Q : VK} {E : XK} (h : ∀ c H', Same H H' → CondAt C H' .any c → Q c H') : spWh C [] [] H Q E := ⟨rfl, fun p hp => ⟨p, [], rfl, upd_same, by simp, (fun q hq => by cases hq), by decide, fun c H' s' c' => h c H' ((same_new hp).trans s') c'⟩⟩
theorem ok_LMade {f fw : Addr} {fd : FuncData} (F : Fun K "_law_made" "_law_made" sLMade f fd) (W : WhK P w K mg base C fw) (MAn : HasM P w K mg base CX0 3 C "__and__" PCAnd (spBin C false)) (MOr : HasM P w K mg base CX0 3 C "__or__" PCOr (spBin C true)) (MIn : HasM P w K mg base CX0 3 C "__invert__" PCInv (spInv C)) (sf : PySem.W.selfFirst K C = true)
    (m : mg "_law_made" = some (.ref f)) (kp : PySem.W.keepIn K (.ref f) = true) (b : Binds K fd PLMade []) : ∀ n, FnOk P w K mg base CX0 (n + 4) f fd PLMade (spMade C n) := by
  intro n
  induction n with
  | zero => exact ⟨fun _ _ _ _ h => h.elim, fun _ _ _ _ _ _ _ _ _ _ _ _ _ h => h.elim⟩
  | succ n ih =>
    have GM : Has P w K mg base CX0 (n + 4) "_law_made" PLMade (spMade C n) := ⟨f, fd, ih, m, kp, b⟩
    refine F.ok scLMade (fun vs H Q E h => ?_) (fun cdv A outer s H vs Q E hr h => ?_)
    · obtain ⟨v, f, rfl, _⟩ := h
      rfl
    · obtain ⟨v, f, rfl, lf, ok, hd, k⟩ := h
      have hr3 := hr.mono (j := 3) (by omega)
      have hr4 := hr.mono (j := 4) (by omega)
      refine ⟨_, (pss_cons (ps_if (pt_cmpR op_eq (pe_ix (r := rIxT K) ix_tup (pv 0) pe_int (fun _ _ => rfl)) pe_str (nomark _))
  (pss_one (ps_ret (pe_callKw W.f0 W.m W.kp hr4 rfl pass0 pk_nil)))
  pss_nil)
  (pss_cons (ps_if (pt_cmpR op_eq (pe_ix (r := rIxT K) ix_tup (pv 0) pe_int (fun _ _ => rfl)) pe_str (nomark _))
  (pss_one (ps_ret (pe_un (un_invO MIn hr3) (pe_callH GM hr rfl pass0 (pa_cons (pe_ix (r := rIxT K) ix_tup (pv 0) pe_int (fun _ _ => rfl)) pa_nil)))))
  pss_nil)
  (pss_cons (ps_if (pt_cmpR op_eq (pe_ix (r := rIxT K) ix_tup (pv 0) pe_int (fun _ _ => rfl)) pe_str (nomark _))
  (pss_one (ps_ret (pe_op (op_andO MAn sf hr3) (pe_callH GM hr rfl pass0 (pa_cons (pe_ix (r := rIxT K) ix_tup (pv 0) pe_int (fun _ _ => rfl)) pa_nil)) (pe_callH GM hr rfl pass0 (pa_cons (pe_ix (r := rIxT K) ix_tup (pv 0) pe_int (fun _ _ => rfl)) pa_nil)))))
  pss_nil)
  (pss_cons (ps_if (pt_cmpR op_eq (pe_ix (r := rIxT K) ix_tup (pv 0) pe_int (fun _ _ => rfl)) pe_str (nomark _))
  (pss_one (ps_ret (pe_op (op_orO MOr sf hr3) (pe_callH GM hr rfl pass0 (pa_cons (pe_ix (r := rIxT K) ix_tup (pv 0) pe_int (fun _ _ => rfl)) pa_nil)) (pe_callH GM hr rfl pass0 (pa_cons (pe_ix (r := rIxT K) ix_tup (pv 0) pe_int (fun _ _ => rfl)) pa_nil)))))
  pss_nil)
  (pss_cons (ps_if (pt_cmpR op_eq (pe_ix (r := rIxT K) ix_tup (pv 0) pe_int (fun _ _ => rfl)) pe_str (nomark _))
  (pss_one (ps_ret (pe_callKw (W.f1 "function" (by decide +kernel)) W.m W.kp hr4 rfl pass0 (pk_cons (pe_ix (r := rIxT K) ix_tup (pv 0) pe_int (fun _ _ => rfl)) pk_nil))))
  pss_nil)
  (pss_cons (ps_if (pt_cmpR op_eq (pe_ix (r := rIxT K) ix_tup (pv 0) pe_int (fun _ _ => rfl)) pe_str (nomark _))
  (pss_one (ps_ret (pe_callKw (W.f1 "place" (by decide +kernel)) W.m W.kp hr4 rfl pass0 (pk_cons (pe_ix (r := rIxT K) ix_tup (pv 0) pe_int (fun _ _ => rfl)) pk_nil))))
  pss_nil)
  (pss_cons (ps_if (pt_cmpR op_eq (pe_ix (r := rIxT K) ix_tup (pv 0) pe_int (fun _ _ => rfl)) pe_str (nomark _))
  (pss_one (ps_ret (pe_callKw (W.f1 "kind" (by decide +kernel)) W.m W.kp hr4 rfl pass0 (pk_cons (pe_ix (r := rIxT K) ix_tup (pv 0) pe_int (fun _ _ => rfl)) pk_nil))))
  pss_nil)
  (pss_cons (ps_if (pt_cmpR op_eq (pe_ix (r := rIxT K) ix_tup (pv 0) pe_int (fun _ _ => rfl)) pe_str (nomark _))
  (pss_one (ps_ret (pe_callKw (W.f1 "verdict" (by decide +kernel)) W.m W.kp hr4 rfl pass0 (pk_cons (pe_ix (r := rIxT K) ix_tup (pv 0) pe_int (fun _ _ => rfl)) pk_nil))))
  pss_nil)
  (pss_one (ps_ret (pe_callKw (W.f1 "changes" (by decide +kernel)) W.m W.kp hr4 rfl pass0 (pk_cons (pe_ix (r := rIxT K) ix_tup (pv 0) pe_int (fun _ _ => rfl)) pk_nil)))))))))))), ?_⟩
      have no : ∀ {z z' : Str}, z ≠ z' → decide (V.str z = V.str z') = false := fun h => decide_eq_false fun e => h (by injection e)
      cases f with
      | any =>
        obtain ⟨t, rfl, et⟩ := lf
        exact ⟨_, rfl, t, _, _, _, rfl, rfl, SqT.of et, rfl, rfl, _, rfl, iteS (decide_eq_true rfl) (wh0 k)⟩
      | nt g =>
        obtain ⟨x, ⟨t, rfl, et⟩, lg⟩ := lf
        have hd : g.dep + 1 ≤ n := hd
        obtain ⟨n', rfl⟩ : ∃ n', n = n' + 1 := ⟨n - 1, by omega⟩
        refine ⟨_, rfl, t, _, _, _, rfl, rfl, SqT.of et, rfl, rfl, _, rfl, iteE (no (by decide +kernel)) ⟨_, rfl, t, _, _, _, rfl, rfl, SqT.of et, rfl, rfl, _, rfl, iteS (decide_eq_true rfl) ?_⟩⟩
        refine ⟨_, rfl, t, _, _, _, rfl, rfl, SqT.of et, rfl, x, g, rfl, lg, ok, by omega, fun c H1 s1 c1 => ?_⟩
        obtain ⟨a, rfl, dy, ty, ey⟩ := c1.ref
        exact ⟨a, dy, _, rfl, ey, a, rfl, fun c2 H2 s2 i2 => k _ H2 (s1.trans s2) ⟨_, i2, c1.same (.of s2)⟩⟩
      | bin o g h =>
        obtain ⟨x, y, ⟨t, rfl, et⟩, lg, lh⟩ := lf
        have hd : max g.dep h.dep + 1 ≤ n := hd
        obtain ⟨n', rfl⟩ : ∃ n', n = n' + 1 := ⟨n - 1, by omega⟩
        cases o with
        | false =>
          refine ⟨_, rfl, t, _, _, _, rfl, rfl, SqT.of et, rfl, rfl, _, rfl, iteE (no (by decide +kernel)) ⟨_, rfl, t, _, _, _, rfl, rfl, SqT.of et, rfl, rfl, _, rfl, iteE (no (by decide +kernel)) ⟨_, rfl, t, _, _, _, rfl, rfl, SqT.of et, rfl, rfl, _, rfl, iteS (decide_eq_true rfl) ?_⟩⟩⟩
          refine ⟨_, rfl, t, _, _, _, rfl, rfl, SqT.of et, rfl, x, g, rfl, lg, ok.1, by omega, fun c1 H1 s1 cg => ?_⟩
          refine ⟨_, rfl, t, _, _, _, rfl, rfl, SqT.of (s1 _ _ et), rfl, y, h, rfl, lh.same (.of s1), ok.2, by omega, fun c2 H2 s2 ch => ?_⟩
          obtain ⟨a, rfl, dy, ty, ey⟩ := (cg.same (.of s2)).ref
          obtain ⟨b, rfl, dz, tz, ez⟩ := ch.ref
          exact ⟨a, b, dy, dz, _, _, rfl, rfl, ey, ez, a, b, rfl, fun c3 H3 s3 i3 => ⟨⟨c3, rfl⟩, k _ H3 ((s1.trans s2).trans s3) ⟨_, _, i3, (cg.same (.of s2)).same (.of s3), ch.same (.of s3)⟩⟩⟩
        | true =>
          refine ⟨_, rfl, t, _, _, _, rfl, rfl, SqT.of et, rfl, rfl, _, rfl, iteE (no (by decide +kernel)) ⟨_, rfl, t, _, _, _, rfl, rfl, SqT.of et, rfl, rfl, _, rfl, iteE (no (by decide +kernel)) ⟨_, rfl, t, _, _, _, rfl, rfl, SqT.of et, rfl, rfl, _, rfl, iteE (no (by decide +kernel)) ⟨_, rfl, t, _, _, _, rfl, rfl, SqT.of et, rfl, rfl, _, rfl, iteS (decide_eq_true rfl) ?_⟩⟩⟩⟩
          refine ⟨_, rfl, t, _, _, _, rfl, rfl, SqT.of et, rfl, x, g, rfl, lg, ok.1, by omega, fun c1 H1 s1 cg => ?_⟩
          refine ⟨_, rfl, t, _, _, _, rfl, rfl, SqT.of (s1 _ _ et), rfl, y, h, rfl, lh.same (.of s1), ok.2, by omega, fun c2 H2 s2 ch => ?_⟩
          obtain ⟨a, rfl, dy, ty, ey⟩ := (cg.same (.of s2)).ref
          obtain ⟨b, rfl, dz, tz, ez⟩ := ch.ref
          exact ⟨a, b, dy, dz, _, _, rfl, rfl, ey, ez, a, b, rfl, fun c3 H3 s3 i3 => ⟨⟨c3, rfl⟩, k _ H3 ((s1.trans s2).trans s3) ⟨_, _, i3, (cg.same (.of s2)).same (.of s3), ch.same (.of s3)⟩⟩⟩
      | fld wo u =>
        obtain ⟨t, rfl, et⟩ := lf
        have hw := fldOk_w (show FldOk wo u from ok)
        obtain ⟨n1, n2, n3, n4⟩ := fld_words wo hw
        refine ⟨_, rfl, t, _, _, _, rfl, rfl, SqT.of et, rfl, rfl, _, rfl, iteE (no n1) ⟨_, rfl, t, _, _, _, rfl, rfl, SqT.of et, rfl, rfl, _, rfl, iteE (no n2) ⟨_, rfl, t, _, _, _, rfl, rfl, SqT.of et, rfl, rfl, _, rfl, iteE (no n3) ⟨_, rfl, t, _, _, _, rfl, rfl, SqT.of et, rfl, rfl, _, rfl, iteE (no n4) ?_⟩⟩⟩⟩
        have hw' := hw
        unfold FLD at hw'
        simp only [List.mem_cons, List.not_mem_nil, or_false] at hw'
        rcases hw' with rfl | rfl | rfl | rfl | rfl
        · refine ⟨_, rfl, t, _, _, _, rfl, rfl, SqT.of et, rfl, rfl, _, rfl, iteS (decide_eq_true rfl) ?_⟩
          exact ⟨_, rfl, t, _, _, _, rfl, rfl, SqT.of et, rfl, wh1 hw k⟩
        · refine ⟨_, rfl, t, _, _, _, rfl, rfl, SqT.of et, rfl, rfl, _, rfl, iteE (no (by decide +kernel)) ⟨_, rfl, t, _, _, _, rfl, rfl, SqT.of et, rfl, rfl, _, rfl, iteS (decide_eq_true rfl) ?_⟩⟩
          exact ⟨_, rfl, t, _, _, _, rfl, rfl, SqT.of et, rfl, wh1 hw k⟩
        · refine ⟨_, rfl, t, _, _, _, rfl, rfl, SqT.of et, rfl, rfl, _, rfl, iteE (no (by decide +kernel)) ⟨_, rfl, t, _, _, _, rfl, rfl, SqT.of et, rfl, rfl, _, rfl, iteE (no (by decide +kernel)) ⟨_, rfl, t, _, _, _, rfl, rfl, SqT.of et, rfl, rfl, _, rfl, iteS (decide_eq_true rfl) ?_⟩⟩⟩
          exact ⟨_, rfl, t, _, _, _, rfl, rfl, SqT.of et, rfl, wh1 hw k⟩
        · refine ⟨_, rfl, t, _, _, _, rfl, rfl, SqT.of et, rfl, rfl, _, rfl, iteE (no (by decide +kernel)) ⟨_, rfl, t, _, _, _, rfl, rfl, SqT.of et, rfl, rfl, _, rfl, iteE (no (by decide +kernel)) ⟨_, rfl, t, _, _, _, rfl, rfl, SqT.of et, rfl, rfl, _, rfl, iteE (no (by decide +kernel)) ⟨_, rfl, t, _, _, _, rfl, rfl, SqT.of et, rfl, rfl, _, rfl, iteS (decide_eq_true rfl) ?_⟩⟩⟩⟩
          exact ⟨_, rfl, t, _, _, _, rfl, rfl, SqT.of et, rfl, wh1 hw k⟩
        · refine ⟨_, rfl, t, _, _, _, rfl, rfl, SqT.of et, rfl, rfl, _, rfl, iteE (no (by decide +kernel)) ⟨_, rfl, t, _, _, _, rfl, rfl, SqT.of et, rfl, rfl, _, rfl, iteE (no (by decide +kernel)) ⟨_, rfl, t, _, _, _, rfl, rfl, SqT.of et, rfl, rfl, _, rfl, iteE (no (by decide +kernel)) ⟨_, rfl, t, _, _, _, rfl, rfl, SqT.of et, rfl, rfl, _, rfl, iteE (no (by decide +kernel)) ?_⟩⟩⟩⟩
          exact ⟨_, rfl, t, _, _, _, rfl, rfl, SqT.of et, rfl, wh1 hw k⟩
/-! _law_is -/
theorem fld_inV3 : ∀ w ∈ FLD, inV (.str w) [V.str "not", V.str "and", V.str "or"] = false := by decide +kernel
def spIs (C : Addr) : Nat → Sp
  | 0 => fun _ _ _ _ => False
  | n + 1 => fun vs H Q _ => ∃ (c v : V) (f : Fm), vs = [c, v] ∧ CondAt C H f c ∧ LawF H f v ∧ f.ok ∧ f.dep ≤ n ∧ ∀ H', Same H H' → Q (.bl true) H'
structure TxIs (mg : Str → Option Value) : Prop where
  n_isinstance : mg "isinstance" = none
  n_tuple : mg "tuple" = none
  n_len : mg "len" = none
  n_all : mg "all" = none
  n_range : mg "range" = none
theorem ok_LIs {f : Addr} {fd : FuncData} (F : Fun K "_law_is" "_law_is" sLIs f fd) (T : TxIs mg) (TC : TxC K C) (MP : HasM P w K mg base CX0 1 C "parts" PCPts (spCPts C)) (MQ : HasM P w K mg base CX0 3 C "__eq__" PCEq (spCEq K C 1)) (m : mg "_law_is" = some (.ref f)) (kp : PySem.W.keepIn K (.ref f) = true) (b : Binds K fd PLIs []) : ∀ n, FnOk P w K mg base CX0 (n + 4) f fd PLIs (spIs C n) := by
  intro n
  induction n with
  | zero => exact ⟨fun _ _ _ _ h => h.elim, fun _ _ _ _ _ _ _ _ _ _ _ _ _ h => h.elim⟩
  | succ n ih =>
    have GI : Has P w K mg base CX0 (n + 4) "_law_is" PLIs (spIs C n) := ⟨f, fd, ih, m, kp, b⟩
    refine F.ok scLIs (fun vs H Q E h => ?_) (fun cdv A outer s H vs Q E hr h => ?_)
    · obtain ⟨c, v, f, rfl, _⟩ := h
      rfl
    · obtain ⟨c, v, f, rfl, cf, lf, ok, hd, k⟩ := h
      have hr1 := hr.mono (j := 1) (by omega)
      have hr4 := hr.mono (j := 4) (by omega)
      refine ⟨_, (pss_cons (ps_set (i := 2) scLIs.nd rfl (Or.inr rfl) (pe_methH0 (pv 0) TC.cl MP hr1 pass0))
  (pss_cons (ps_if (PW.pt (pw_or (pt_not (pt_val (pe_callB call_isi (by rfl) T.n_isinstance bb_isinstance (pa_cons (pv 2) (pa_cons (pe_bltn (v := .ty "tuple") (by rfl) T.n_tuple bb_tuple rfl) pa_nil))))) (pw_or (pt_cmpR op_ne (pe_callB call_len_seq (by rfl) T.n_len bb_len (pa_cons (pv 2) pa_nil)) (pe_callB call_len_seq (by rfl) T.n_len bb_len (pa_cons (pv 1) pa_nil)) (nomark _)) (pw_or1 (pt_cmpR op_ne (pe_ix (r := rIxT K) ix_tup (pv 2) pe_int (fun _ _ => rfl)) (pe_ix (r := rIxT K) ix_tup (pv 1) pe_int (fun _ _ => rfl)) (nomark _))))))
  (pss_one (ps_ret pe_bl))
  pss_nil)
  (pss_cons (ps_if (pt_cmpR op_in_seq (pe_ix (r := rIxT K) ix_tup (pv 1) pe_int (fun _ _ => rfl)) (pe_lst (pa_cons pe_str (pa_cons pe_str (pa_cons pe_str pa_nil)))) (by rfl))
  (pss_one (ps_ret (pe_callB (cr_all rfl) (by rfl) T.n_all bb_all (pa_cons (pe_lc (own := [("_law_k", 3)]) (g := gName 3) (tt := tYes) rfl scLIs.nd (pi_range2 (by rfl) T.n_range (pa_cons pe_int (pa_cons (pe_callB call_len_seq (by rfl) T.n_len bb_len (pa_cons (pv 1) pa_nil)) pa_nil))) (blkOk_by (own := [("_law_k", 3)]) (N := NLIs) (sc := (defScope sLIs)) (by decide +kernel)) (fun _ _ _ _ _ => (pg_name (i := 3) scLIs.nd rfl (Or.inl rfl))) (fun _ _ _ _ _ => pts_nil) (fun _ _ _ _ _ => (pe_callH GI hr rfl pass0 (pa_cons (pe_ix (r := rIxT K) ix_tup (pv 2) (pv 3) (fun _ _ => rfl)) (pa_cons (pe_ix (r := rIxT K) ix_tup (pv 1) (pv 3) (fun _ _ => rfl)) pa_nil))))) pa_nil))))
  pss_nil)
  (pss_one (ps_ret (pe_cmpR (op_ctup MQ hr4) (pv 2) (pv 1) (nomark _))))))), ?_⟩
      have no : ∀ {z z' : Str}, z ≠ z' → decide (V.str z = V.str z') = false := fun h => decide_eq_false fun e => h (by injection e)
      obtain ⟨xs, ⟨a, ta, dx, rfl, e1, e2⟩, pf⟩ := cf.parts
      have e62 : (2 : Int) ^ 62 = 4611686018427387904 := by decide
      have start : ∀ {tv : Addr} {zw : Str} {xr yr : List V}, xs = .str zw :: xr → H tv = some (.tup (.str zw :: yr)) → xr.length = yr.length → True := fun _ _ _ => trivial
      cases f with
      | any =>
        obtain ⟨tv, rfl, ev⟩ := lf
        have pf : xs = [.str "any"] := pf
        subst pf
        refine ⟨_, rfl, a, dx, _, rfl, e1, rfl, a, ta, dx, rfl, e1, ?_⟩
        refine ⟨_, rfl, _, _, _, _, _, rfl, .ty _, .base (.tup e2), kit_ty (r := true) (by decide +kernel), _, rfl, iteE rfl ?_⟩
        refine ⟨_, rfl, ta, _, rfl, .inr (SqT.of e2), _, rfl, tv, _, rfl, .inr (SqT.of ev), rfl, _, rfl, iteE rfl ?_⟩
        refine ⟨_, rfl, ta, _, _, _, rfl, rfl, SqT.of e2, rfl, _, rfl, tv, _, _, _, rfl, rfl, SqT.of ev, rfl, rfl, _, rfl, iteE (by rw [decide_eq_true rfl]; rfl) ?_⟩
        refine ⟨_, rfl, tv, _, _, _, rfl, rfl, SqT.of ev, rfl, (by show 3 ≤ sizeLine; decide), fun l hl => ?_⟩
        have s1 := same_new (o := .lst [.str "not", .str "and", .str "or"]) hl
        refine ⟨l, _, rfl, .inl (SqL.of upd_same), rfl, rfl, _, rfl, iteE (by decide +kernel) ?_⟩
        refine ⟨_, rfl, _, rfl, ta, tv, _, _, _, rfl, rfl, s1 _ _ e2, s1 _ _ ev, parts_eq (C := C) (n := 1) (f := .any) (g := .any) ok ok (by decide) rfl rfl, fun H2 s2 => k H2 (s1.trans s2)⟩
      | fld wo u =>
        obtain ⟨tv, rfl, ev⟩ := lf
        have pf : xs = [.str wo, u] := pf
        subst pf
        have hw := fldOk_w (show FldOk wo u from ok)
        refine ⟨_, rfl, a, dx, _, rfl, e1, rfl, a, ta, dx, rfl, e1, ?_⟩
        refine ⟨_, rfl, _, _, _, _, _, rfl, .ty _, .base (.tup e2), kit_ty (r := true) (by decide +kernel), _, rfl, iteE rfl ?_⟩
        refine ⟨_, rfl, ta, _, rfl, .inr (SqT.of e2), _, rfl, tv, _, rfl, .inr (SqT.of ev), rfl, _, rfl, iteE rfl ?_⟩
        refine ⟨_, rfl, ta, _, _, _, rfl, rfl, SqT.of e2, rfl, _, rfl, tv, _, _, _, rfl, rfl, SqT.of ev, rfl, rfl, _, rfl, iteE (by rw [decide_eq_true rfl]; rfl) ?_⟩
        refine ⟨_, rfl, tv, _, _, _, rfl, rfl, SqT.of ev, rfl, (by show 3 ≤ sizeLine; decide), fun l hl => ?_⟩
        have s1 := same_new (o := .lst [.str "not", .str "and", .str "or"]) hl
        refine ⟨l, _, rfl, .inl (SqL.of upd_same), rfl, rfl, _, rfl, iteE (fld_inV3 wo hw) ?_⟩
        have e : eqF (.fld wo u) (.fld wo u) = true := eqF_iff.mpr rfl
        refine ⟨_, rfl, _, rfl, ta, tv, _, _, _, rfl, rfl, s1 _ _ e2, s1 _ _ ev, parts_eq (C := C) (n := 1) (f := .fld wo u) (g := .fld wo u) ok ok (Nat.zero_le _) rfl rfl, fun H2 s2 => ?_⟩
        rw [e]
        exact k H2 (s1.trans s2)
      | nt g =>
        obtain ⟨y, ⟨tv, rfl, ev⟩, lg⟩ := lf
        obtain ⟨x, rfl, cg⟩ := pf
        have hd : g.dep + 1 ≤ n := hd
        obtain ⟨n', rfl⟩ : ∃ n', n = n' + 1 := ⟨n - 1, by omega⟩
        refine ⟨_, rfl, a, dx, _, rfl, e1, rfl, a, ta, dx, rfl, e1, ?_⟩
        refine ⟨_, rfl, _, _, _, _, _, rfl, .ty _, .base (.tup e2), kit_ty (r := true) (by decide +kernel), _, rfl, iteE rfl ?_⟩
        refine ⟨_, rfl, ta, _, rfl, .inr (SqT.of e2), _, rfl, tv, _, rfl, .inr (SqT.of ev), rfl, _, rfl, iteE rfl ?_⟩
        refine ⟨_, rfl, ta, _, _, _, rfl, rfl, SqT.of e2, rfl, _, rfl, tv, _, _, _, rfl, rfl, SqT.of ev, rfl, rfl, _, rfl, iteE (by rw [decide_eq_true rfl]; rfl) ?_⟩
        refine ⟨_, rfl, tv, _, _, _, rfl, rfl, SqT.of ev, rfl, (by show 3 ≤ sizeLine; decide), fun l hl => ?_⟩
        have s1 := same_new (o := .lst [.str "not", .str "and", .str "or"]) hl
        refine ⟨l, _, rfl, .inl (SqL.of upd_same), rfl, rfl, _, rfl, iteS (by decide +kernel) ?_⟩
        refine ⟨_, rfl, tv, _, rfl, .inr (SqT.of (s1 _ _ ev)), 1, _, rfl, ⟨by decide, by decide, by show -((2 : Int) ^ 62) ≤ 2; decide, by show (2 : Int) < 2 ^ 62; decide⟩, fun D hD => lc_range (lo := 1) (n := 1) (fun i H' => Same H H' ∧ H' D = some (.lst ((List.replicate i true).map V.bl))) ⟨s1.trans (same_new hD), upd_same⟩ ?_ ?_⟩
        · rintro i H1 hi ⟨s2, e3⟩
          obtain rfl : i = 0 := by omega
          refine ⟨rfl, _, rfl, _, rfl, ta, _, _, x, rfl, rfl, SqT.of (s2 _ _ e2), rfl, _, rfl, _, rfl, tv, _, _, y, rfl, rfl, SqT.of (s2 _ _ ev), rfl, x, y, g, rfl, cg.same (.of s2), lg.same (.of s2), ok, by omega, fun H2 s3 => ⟨_, s3 _ _ e3, small1000 (by decide), fun c o e => ?_, ?_⟩⟩
          · have cD : c ≠ D := fun q => by rw [q] at e; rw [s1 _ _ e] at hD; cases hD
            rw [upd_ne cD]
            exact s3 _ _ (s2 _ _ e)
          · rw [upd_same]
            rfl
        · rintro H1 ⟨s2, e3⟩
          exact ⟨D, _, rfl, SqL.of e3, k H1 s2⟩
      | bin o g h =>
        obtain ⟨y, y2, ⟨tv, rfl, ev⟩, lg, lh⟩ := lf
        obtain ⟨x, x2, rfl, cg, ch⟩ := pf
        have hd : max g.dep h.dep + 1 ≤ n := hd
        obtain ⟨n', rfl⟩ : ∃ n', n = n' + 1 := ⟨n - 1, by omega⟩
        refine ⟨_, rfl, a, dx, _, rfl, e1, rfl, a, ta, dx, rfl, e1, ?_⟩
        refine ⟨_, rfl, _, _, _, _, _, rfl, .ty _, .base (.tup e2), kit_ty (r := true) (by decide +kernel), _, rfl, iteE rfl ?_⟩
        refine ⟨_, rfl, ta, _, rfl, .inr (SqT.of e2), _, rfl, tv, _, rfl, .inr (SqT.of ev), rfl, _, rfl, iteE rfl ?_⟩
        refine ⟨_, rfl, ta, _, _, _, rfl, rfl, SqT.of e2, rfl, _, rfl, tv, _, _, _, rfl, rfl, SqT.of ev, rfl, rfl, _, rfl, iteE (by rw [decide_eq_true rfl]; rfl) ?_⟩
        refine ⟨_, rfl, tv, _, _, _, rfl, rfl, SqT.of ev, rfl, (by show 3 ≤ sizeLine; decide), fun l hl => ?_⟩
        have s1 := same_new (o := .lst [.str "not", .str "and", .str "or"]) hl
        refine ⟨l, _, rfl, .inl (SqL.of upd_same), rfl, rfl, _, rfl, iteS (by cases o <;> decide +kernel) ?_⟩
        refine ⟨_, rfl, tv, _, rfl, .inr (SqT.of (s1 _ _ ev)), 1, _, rfl, ⟨by decide, by decide, by show -((2 : Int) ^ 62) ≤ 3; decide, by show (3 : Int) < 2 ^ 62; decide⟩, fun D hD => lc_range (lo := 1) (n := 2) (fun i H' => Same H H' ∧ H' D = some (.lst ((List.replicate i true).map V.bl))) ⟨s1.trans (same_new hD), upd_same⟩ ?_ ?_⟩
        · rintro i H1 hi ⟨s2, e3⟩
          have fin : ∀ {H2 : Hp}, Same H1 H2 → Same H (upd H2 D (.lst ((List.replicate i true).map V.bl ++ [.bl true]))) ∧ upd H2 D (.lst ((List.replicate i true).map V.bl ++ [.bl true])) D = some (.lst ((List.replicate (i + 1) true).map V.bl)) := fun {H2} s3 => by
            refine ⟨fun c o e => ?_, ?_⟩
            · have cD : c ≠ D := fun q => by rw [q] at e; rw [s1 _ _ e] at hD; cases hD
              rw [upd_ne cD]
              exact s3 _ _ (s2 _ _ e)
            · rw [upd_same, List.replicate_succ', List.map_append]
              rfl
          rcases (show i = 0 ∨ i = 1 by omega) with rfl | rfl
          · exact ⟨rfl, _, rfl, _, rfl, ta, _, _, x, rfl, rfl, SqT.of (s2 _ _ e2), rfl, _, rfl, _, rfl, tv, _, _, y, rfl, rfl, SqT.of (s2 _ _ ev), rfl, x, y, g, rfl, cg.same (.of s2), lg.same (.of s2), ok.1, by omega, fun H2 s3 => ⟨_, s3 _ _ e3, small1000 (by decide), fin s3⟩⟩
          · exact ⟨rfl, _, rfl, _, rfl, ta, _, _, x2, rfl, rfl, SqT.of (s2 _ _ e2), rfl, _, rfl, _, rfl, tv, _, _, y2, rfl, rfl, SqT.of (s2 _ _ ev), rfl, x2, y2, h, rfl, ch.same (.of s2), lh.same (.of s2), ok.2, by omega, fun H2 s3 => ⟨_, s3 _ _ e3, small1000 (by decide), fin s3⟩⟩
        · rintro H1 ⟨s2, e3⟩
          exact ⟨D, _, rfl, SqL.of e3, k H1 s2⟩
end

theorem strs_ne1 {H : Hp} {p c q : Addr} {lim : V} {n : Nat} {ns : List Str} (h : PoolAt H p c lim n) (hq : H q = some (.lst (ns.map V.str))) : q ≠ p := by
  obtain ⟨i, cs, cn, sd, md, e1, e2, e⟩ := h
  refine ne_of hq e1 (fun z => ?_)
  injection z with z
  cases ns with
  | nil => cases z
  | cons a r => injection z with z _; cases z
theorem strs_ne2 {H : Hp} {p c q : Addr} {lim : V} {n : Nat} {ns : List Str} (h : PoolAt H p c lim n) (hn : ns ≠ []) (hq : H q = some (.lst (ns.map V.str))) : q ≠ c := by
  obtain ⟨i, cs, cn, sd, md, e1, e2, e⟩ := h
  refine ne_of hq e2 (fun z => ?_)
  injection z with z
  cases ns with
  | nil => exact hn rfl
  | cons a r =>
    cases cs with
    | nil => cases z
    | cons b t => injection z with z _; cases z
theorem cut_strs {ns : List Str} {k : Nat} : cutV (ns.map V.str) none (some (k : Int)) = (ns.take k).map V.str := by
  unfold cutV
  rw [HT.sIx_none, HT.sIx_nat, List.length_map, List.drop_zero, ← List.map_take]
  congr 1
  rw [Nat.sub_zero, List.take_eq_take_iff]
  omega
theorem cut_any (ns : List Str) (lo hi : Option Int) : ∃ zs : List Str, cutV (ns.map V.str) lo hi = zs.map V.str ∧ zs.length ≤ ns.length := by
  have h := cutV_length (ns.map V.str) lo hi
  unfold cutV at h ⊢
  rw [← List.map_drop, ← List.map_take] at h ⊢
  refine ⟨_, rfl, ?_⟩
  rw [List.length_map] at h
  rw [List.length_map (as := ns)] at h ⊢
  exact h

theorem PoolAt.csame {C : Addr} {H H' : Hp} {p c : Addr} {lim : V} {n : Nat} (h : PoolAt H p c lim n) (b : But p c H H') : CSame C H H' := by
  rintro v xs ⟨a, t, dx, rfl, h1, h2⟩
  obtain ⟨i, cs, cn, sd, md, e1, e2, _⟩ := h
  exact ⟨a, t, dx, rfl, b _ _ h1 (ne_of h1 e1 fun z => by cases z) (ne_of h1 e2 fun z => by cases z), b _ _ h2 (ne_of h2 e1 fun z => by cases z) (ne_of h2 e2 fun z => by cases z)⟩
theorem fld_short : ∀ w ∈ FLD, w.length ≤ 12 := by decide +kernel
theorem vds_short : ∀ w ∈ VDS, w.length ≤ 12 := by decide +kernel
theorem brk_short {b : Bool} {ws : List Str} (h : ∀ z ∈ ws, z.length ≤ 12) : ∀ z ∈ brk b ws, z.length ≤ 12 := by
  unfold brk
  split
  · intro z hz
    rcases List.mem_append.mp hz with h1 | h1
    · rcases List.mem_append.mp h1 with h1 | h1
      · rw [List.mem_singleton.mp h1]
        decide +kernel
      · exact h z h1
    · rw [List.mem_singleton.mp h1]
      decide +kernel
  · exact h
theorem core_short {x : Bool} : ∀ f : Fm, f.ok → ∀ z ∈ f.core x, z.length ≤ 12
  | .any, _, z, hz => by
    have hz : z ∈ [("any" : Str)] := hz
    rw [List.mem_singleton.mp hz]
    decide +kernel
  | .nt g, ok, z, hz => by
    have ih := core_short (x := x) g ok
    have hz : z ∈ [("not" : Str)] ++ brk (decide (g.rank < 2) || x) (g.core x) := hz
    rcases List.mem_append.mp hz with h | h
    · rw [List.mem_singleton.mp h]
      decide +kernel
    · exact brk_short ih z h
  | .bin o g k, ok, z, hz => by
    have ig := core_short (x := x) g ok.1
    have ik := core_short (x := x) k ok.2
    have hz : z ∈ brk (decide (g.rank < (Fm.bin o g k).rank) || x) (g.core x) ++ [wd o] ++ brk (decide (k.rank < (Fm.bin o g k).rank + 1) || x) (k.core x) := hz
    rcases List.mem_append.mp hz with h | h
    · rcases List.mem_append.mp h with h | h
      · exact brk_short ig z h
      · rw [List.mem_singleton.mp h]
        cases o <;> decide +kernel
    · exact brk_short ik z h
  | .fld w v, ok, z, hz => by
    have ok : FldOk w v := ok
    have hz : z ∈ [w, textV v] := hz
    rcases List.mem_cons.mp hz with h | h
    · rw [h]
      exact fld_short w (fldOk_w ok)
    · rw [List.mem_singleton.mp h]
      cases ok with
      | place n hn => exact num_len hn
      | verdict z hz' => exact vds_short z hz'
      | name w z hw hz' hl => exact Nat.le_trans hl (by decide)
theorem sum_short : ∀ {ws : List Str}, (∀ z ∈ ws, z.length ≤ 12) → (ws.map (·.length)).sum ≤ 12 * ws.length
  | [], _ => Nat.le_refl _
  | z :: r, h => by
    have ih := sum_short (ws := r) fun x hx => h x (List.mem_cons_of_mem _ hx)
    have h0 := h z List.mem_cons_self
    rw [List.map_cons, List.sum_cons, List.length_cons]
    omega
theorem sp_len : (" " : Str).length = 1 := by decide +kernel

/-! ### the law -/
abbrev sLaw : Stmt := topS 35
abbrev NLaw : List Str := ["_law_script", "_law_pool_here", "_law_words_here", "_law_form_here", "_law_other", "_law_gap", "_law_made_here", "_law_tight", "_law_sign", "_law_text", "_law_told", "_law_both", "_law_due"]
abbrev PLaw : List Str := ["_law_script"]
theorem scLaw : FnScope NLaw PLaw (defScope sLaw) := ⟨rfl, rfl, rfl, by decide +kernel, rfl, by decide +kernel, by decide +kernel⟩
def GAPS : List Str := [" ", "  ", " \n "]
theorem Tks.nl {t : List Nat} {sh : SH} (h : Tks t sh) : Tks (10 :: t) sh := fun p => by
  obtain ⟨ts, e, k⟩ := h (p ++ [10])
  rw [List.append_assoc, List.length_append] at k
  exact ⟨ts, e, .gap (mid_get p t 10) (.inr rfl) k⟩
theorem gap_lists : TL.tl (" " : Str) = [32] ∧ TL.tl ("  " : Str) = [32, 32] ∧ TL.tl (" \n " : Str) = [32, 10, 32] := by decide +kernel
theorem gap_ok {S : Str} (h : S ∈ GAPS) : S.length ≤ 3 ∧ ∀ {t : List Nat} {sh : SH}, Tks t sh → Tks (TL.tl S ++ t) sh ∧ NoAl (TL.tl S ++ t) := by
  unfold GAPS at h
  simp only [List.mem_cons, List.not_mem_nil, or_false] at h
  rcases h with rfl | rfl | rfl
  · exact ⟨by decide +kernel, fun k => by rw [gap_lists.1]; exact ⟨k.gap, noAl_gap⟩⟩
  · exact ⟨by decide +kernel, fun k => by rw [gap_lists.2.1]; exact ⟨k.gap.gap, noAl_gap⟩⟩
  · exact ⟨by decide +kernel, fun k => by rw [gap_lists.2.2]; exact ⟨k.gap.nl.gap, noAl_gap⟩⟩
theorem tks_joinS {S : Str} (hS : S ∈ GAPS) : ∀ {ws : List Str}, (∀ z ∈ ws, WordOk z) → Tks (TL.tl (Str.join S ws)) (ws.map shW ++ [pr "end" ""])
  | [], _ => Tks.nil
  | [z], h => by
    have := tks_w (h z List.mem_cons_self) noAl_nil Tks.nil
    rw [List.append_nil] at this
    exact this
  | z :: y :: r, h => by
    have ih := tks_joinS hS (ws := y :: r) fun x hx => h x (List.mem_cons_of_mem _ hx)
    obtain ⟨g1, g2⟩ := (gap_ok hS).2 ih
    show Tks (TL.tl (z ++ S ++ Str.join S (y :: r))) (shW z :: ((y :: r).map shW ++ _))
    rw [TL.tl_append, TL.tl_append, List.append_assoc]
    exact tks_w (h z List.mem_cons_self) g2 g1
theorem words4 {x : Bool} {f : Fm} (h : f.dep ≤ 4) : (f.words x 0).length ≤ 110 := by
  have q := brk_len (decide (f.rank < 0) || x) (f.core x)
  have c := core_len (x := x) f
  have m : 2 ^ f.dep ≤ 2 ^ 4 := Nat.pow_le_pow_right (by decide) h
  have e : 2 ^ 4 = 16 := by decide
  unfold Fm.words
  omega
theorem join4 {x : Bool} {f : Fm} (ok : f.ok) (h : f.dep ≤ 4) {S : Str} (hS : S.length ≤ 3) : ((f.words x 0).map (·.length)).sum + (f.words x 0).length * S.length ≤ 1650 ∧ (Txt.join S (f.words x 0)).length ≤ 1650 ∧ Txt.join S (f.words x 0) = Str.join S (f.words x 0) := by
  have h1 := words4 (x := x) h
  have h2 := sum_short (ws := f.words x 0) (brk_short (core_short f ok))
  have e : Txt.join S (f.words x 0) = Str.join S (f.words x 0) := StrLaws.glued_eq_join _ _
  have h3 := StrLaws.join_length_le S (f.words x 0)
  have h4 : (f.words x 0).length * S.length ≤ (f.words x 0).length * 3 := Nat.mul_le_mul_left _ hS
  rw [e]
  exact ⟨by omega, by omega, rfl⟩
/-- a text that is read as f -/
def RdT (f : Fm) (z : Str) : Prop := z.length ≤ 100000 ∧ ∃ ts j a, Tkz z.cps.toList 0 ts ∧ ts.length ≤ 100001 ∧ CondA ts (OneAt ts 10) 0 f j ∧ ts[j]? = some (("end", "", a) : TK)
theorem rdT {x : Bool} {f : Fm} {z : Str} (ok : f.ok) (hd : f.dep ≤ 4) (hl : z.length ≤ 100000) (h : Tks (TL.tl z) ((f.words x 0).map shW ++ [pr "end" ""])) : RdT f z := by
  obtain ⟨ts, h1, h2⟩ := h []
  obtain ⟨j, a, h3, h4⟩ := rd_whole (n := 10) ok (by omega) h1
  refine ⟨hl, ts, j, a, h2, ?_, h3, h4⟩
  have e := congrArg List.length h1
  unfold shOf at e
  rw [List.length_map, List.length_append, List.length_map] at e
  have := words4 (x := x) hd
  have e : ts.length = (f.words x 0).length + 1 := e
  omega
theorem rd_one {f : Fm} (ok : f.ok) (hd : f.dep ≤ 4) {S : Str} (hS : S ∈ GAPS) : RdT f (Txt.join S (f.words false 0)) := by
  obtain ⟨_, h2, h3⟩ := join4 (x := false) ok hd (gap_ok hS).1
  refine rdT (x := false) ok hd (by omega) ?_
  rw [h3]
  exact tks_joinS hS (words_ok ok)
theorem rd_two {f : Fm} (ok : f.ok) (hd : f.dep ≤ 4) {S : Str} (hS : S ∈ GAPS) : RdT f (" " ++ Txt.join S (f.words true 0)) := by
  obtain ⟨_, h2, h3⟩ := join4 (x := true) ok hd (gap_ok hS).1
  refine rdT (x := true) ok hd (by rw [str_app_len, sp_len]; omega) ?_
  rw [h3, TL.tl_append, gap_lists.1]
  exact (tks_joinS hS (words_ok ok)).gap
theorem rd_three {f : Fm} (ok : f.ok) (hd : f.dep ≤ 4) : RdT f (tightS (Txt.join " " (f.words true 0))) := by
  obtain ⟨_, h2, h3⟩ := join4 (x := true) ok hd (S := " ") (by decide +kernel)
  refine rdT (x := true) ok hd ?_ ?_
  · have l1 := rp_len 40 (Txt.join " " (f.words true 0))
    have l2 := rp_len 41 (rp ⟨#[40]⟩ (Txt.join " " (f.words true 0)))
    unfold tightS
    rw [par_mk.1, par_mk.2]
    omega
  · rw [h3]
    exact tight_tks (words_ok ok)
/-! == of the law's forms -/
def dV : V → PyData
  | .int i => .int i
  | .str z => .str z
  | _ => .none
def dF : Fm → PyData
  | .any => .tuple [.str "any"]
  | .nt g => .tuple [.str "not", dF g]
  | .bin o g h => .tuple [.str (wd o), dF g, dF h]
  | .fld w u => .tuple [.str w, dV u]
theorem dp_V {K : PySem.W.Frag} {H : Hp} {v : V} (h : SI v) : Dp K H v (dV v) := by
  rcases h with ⟨z, rfl⟩ | ⟨i, rfl⟩
  · exact .str z
  · exact .int i
theorem dp_F {K : PySem.W.Frag} {H : Hp} : ∀ {f : Fm} {v : V}, f.ok → LawF H f v → Dp K H v (dF f)
  | .any, _, _, ⟨_, rfl, e⟩ => .tup (SqT.of e) (.cons (.str _) .nil)
  | .nt _, _, ok, ⟨_, ⟨_, rfl, e⟩, h⟩ => .tup (SqT.of e) (.cons (.str _) (.cons (dp_F ok h) .nil))
  | .bin _ _ _, _, ok, ⟨_, _, ⟨_, rfl, e⟩, h1, h2⟩ => .tup (SqT.of e) (.cons (.str _) (.cons (dp_F ok.1 h1) (.cons (dp_F ok.2 h2) .nil)))
  | .fld _ _, _, ok, ⟨_, rfl, e⟩ => .tup (SqT.of e) (.cons (.str _) (.cons (dp_V (fldOk_si ok)) .nil))
theorem strOk_n {n : Str} (h : isName n = true) : PyData.strOk n = true := by
  obtain ⟨_, h2, _⟩ := name_al h
  unfold PyData.strOk
  rw [← Array.all_toList, List.all_eq_true]
  intro c hc
  have q : al c = true := h2 c hc
  unfold al at q
  simp only [Bool.or_eq_true, decide_eq_true_eq] at q
  have big : (∀ c ∈ LET.cps.toList, c < 0x110000) ∧ ∀ c ∈ DIG.cps.toList, c < 0x110000 := by decide +kernel
  rcases q with q | q
  · exact decide_eq_true (big.1 c q)
  · exact decide_eq_true (big.2 c q)
theorem lay_V {w : Str} {v : V} (h : FldOk w v) : PyData.canLay0 (dV v) = true := by
  cases h with
  | place n hn => simp [dV, PyData.canLay0]
  | verdict z hz => simpa [dV, PyData.canLay0] using strOk_n (vds_name z hz)
  | name w z hw hz hl => simpa [dV, PyData.canLay0] using strOk_n hz
theorem lay_F : ∀ {f : Fm}, f.ok → PyData.canLay0 (dF f) = true ∧ (dF f).depth ≤ f.dep + 1
  | .any, _ => by
    have := strOk_n (n := "any") (by decide +kernel)
    simp [dF, PyData.canLay0, PyData.canLayAll0, PyData.depth, PyData.depthAll, this]
  | .nt g, ok => by
    obtain ⟨h1, h2⟩ := lay_F (f := g) ok
    have := strOk_n (n := "not") (by decide +kernel)
    refine ⟨by simp [dF, PyData.canLay0, PyData.canLayAll0, this, h1], ?_⟩
    show PyData.depth (.tuple [.str "not", dF g]) ≤ g.dep + 1 + 1
    simp only [PyData.depth, PyData.depthAll]
    omega
  | .bin o g h, ok => by
    obtain ⟨h1, h2⟩ := lay_F (f := g) ok.1
    obtain ⟨h3, h4⟩ := lay_F (f := h) ok.2
    have : PyData.strOk (wd o) = true := strOk_n (by cases o <;> decide +kernel)
    refine ⟨by simp [dF, PyData.canLay0, PyData.canLayAll0, this, h1, h3], ?_⟩
    show PyData.depth (.tuple [.str (wd o), dF g, dF h]) ≤ max g.dep h.dep + 1 + 1
    simp only [PyData.depth, PyData.depthAll]
    omega
  | .fld w u, ok => by
    have ok : FldOk w u := ok
    have := strOk_n (fld_name w (fldOk_w ok))
    refine ⟨by simp [dF, PyData.canLay0, PyData.canLayAll0, this, lay_V ok], ?_⟩
    show PyData.depth (.tuple [.str w, dV u]) ≤ 0 + 1
    have e : (dV u).depth = 0 := by cases u <;> simp [dV, PyData.depth]
    simp only [PyData.depth, PyData.depthAll, e]
    omega
theorem shaped_F {f : Fm} (ok : f.ok) (hd : f.dep ≤ 20) : SeqAt.shaped (dF f) = true := by
  obtain ⟨h1, h2⟩ := lay_F ok
  unfold SeqAt.shaped
  rw [h1, decide_eq_true (by omega)]
  rfl
theorem beq_str (a b : Str) : (a == b) = decide (a = b) := eqV_str a b
theorem eqv_V {u v : V} (h : SI u) (g : SI v) : PyData.eqv (dV u) (dV v) = decide (u = v) := by
  rcases h with ⟨a, rfl⟩ | ⟨i, rfl⟩ <;> rcases g with ⟨b, rfl⟩ | ⟨j, rfl⟩
  · simp only [dV, PyData.eqv, beq_str]
    exact decide_eq_decide.mpr ⟨fun e => by rw [e], fun e => by injection e⟩
  · simp only [dV, PyData.eqv]
    exact (decide_eq_false fun e => by cases e).symm
  · simp only [dV, PyData.eqv]
    exact (decide_eq_false fun e => by cases e).symm
  · simp only [dV, PyData.eqv]
    by_cases e : i = j
    · rw [e, decide_eq_true rfl]; exact beq_self_eq_true j
    · rw [decide_eq_false fun z => e (by injection z)]; exact beq_eq_false_iff_ne.mpr e
theorem eqv_F : ∀ {f g : Fm}, f.ok → g.ok → PyData.eqv (dF f) (dF g) = eqF f g
  | .any, .any, _, _ => by simp [dF, PyData.eqv, PyData.eqvAll, eqF]
  | .nt a, .nt b, o1, o2 => by
    have ih := eqv_F (f := a) (g := b) o1 o2
    simp [dF, PyData.eqv, PyData.eqvAll, eqF, ih]
  | .bin o a b, .bin p c d, o1, o2 => by
    have i1 := eqv_F (f := a) (g := c) o1.1 o2.1
    have i2 := eqv_F (f := b) (g := d) o1.2 o2.2
    have e : (wd o == wd p) = decide (o = p) := by
      rw [beq_str]
      exact decide_eq_decide.mpr ⟨wd_inj, fun e => by rw [e]⟩
    show PyData.eqv (.tuple [.str (wd o), dF a, dF b]) (.tuple [.str (wd p), dF c, dF d]) = (decide (o = p) && (eqF a c && eqF b d))
    simp only [PyData.eqv, PyData.eqvAll, i1, i2, e, Bool.and_true]
  | .fld w u, .fld z v, o1, o2 => by
    have e := eqv_V (fldOk_si (show FldOk w u from o1)) (fldOk_si (show FldOk z v from o2))
    show PyData.eqv (.tuple [.str w, dV u]) (.tuple [.str z, dV v]) = (decide (w = z) && decide (u = v))
    simp only [PyData.eqv, PyData.eqvAll, e, beq_str, Bool.and_true]
  | .any, .nt _, _, _ => by show PyData.eqv (.tuple _) (.tuple _) = false; simp only [PyData.eqv, PyData.eqvAll, beq_str]; rw [decide_eq_false (by decide +kernel)]; rfl
  | .any, .bin o _ _, _, _ => by show PyData.eqv (.tuple _) (.tuple _) = false; simp only [PyData.eqv, PyData.eqvAll, beq_str]; rw [decide_eq_false (Ne.symm (wd_words o).1)]; rfl
  | .any, .fld w u, _, ok => by show PyData.eqv (.tuple _) (.tuple _) = false; simp only [PyData.eqv, PyData.eqvAll, beq_str]; rw [decide_eq_false (Ne.symm (fld_words w (fldOk_w (show FldOk w u from ok))).1)]; rfl
  | .nt _, .any, _, _ => by show PyData.eqv (.tuple _) (.tuple _) = false; simp only [PyData.eqv, PyData.eqvAll, beq_str]; rw [decide_eq_false (by decide +kernel)]; rfl
  | .nt _, .bin o _ _, _, _ => by show PyData.eqv (.tuple _) (.tuple _) = false; simp only [PyData.eqv, PyData.eqvAll, beq_str]; rw [decide_eq_false (Ne.symm (wd_words o).2)]; rfl
  | .nt _, .fld w u, _, ok => by show PyData.eqv (.tuple _) (.tuple _) = false; simp only [PyData.eqv, PyData.eqvAll, beq_str]; rw [decide_eq_false (Ne.symm (fld_words w (fldOk_w (show FldOk w u from ok))).2.1)]; rfl
  | .bin o _ _, .any, _, _ => by show PyData.eqv (.tuple _) (.tuple _) = false; simp only [PyData.eqv, PyData.eqvAll, beq_str]; rw [decide_eq_false (wd_words o).1]; rfl
  | .bin o _ _, .nt _, _, _ => by show PyData.eqv (.tuple _) (.tuple _) = false; simp only [PyData.eqv, PyData.eqvAll, beq_str]; rw [decide_eq_false (wd_words o).2]; rfl
  | .bin o _ _, .fld w u, _, ok => by
    have fw := fld_words w (fldOk_w (show FldOk w u from ok))
    show PyData.eqv (.tuple _) (.tuple _) = false
    simp only [PyData.eqv, PyData.eqvAll, beq_str]
    rw [decide_eq_false (by cases o; exact Ne.symm fw.2.2.1; exact Ne.symm fw.2.2.2)]
    rfl
  | .fld w u, .any, ok, _ => by show PyData.eqv (.tuple _) (.tuple _) = false; simp only [PyData.eqv, PyData.eqvAll, beq_str]; rw [decide_eq_false (fld_words w (fldOk_w (show FldOk w u from ok))).1]; rfl
  | .fld w u, .nt _, ok, _ => by show PyData.eqv (.tuple _) (.tuple _) = false; simp only [PyData.eqv, PyData.eqvAll, beq_str]; rw [decide_eq_false (fld_words w (fldOk_w (show FldOk w u from ok))).2.1]; rfl
  | .fld w u, .bin o _ _, ok, _ => by
    have fw := fld_words w (fldOk_w (show FldOk w u from ok))
    show PyData.eqv (.tuple _) (.tuple _) = false
    simp only [PyData.eqv, PyData.eqvAll, beq_str]
    rw [decide_eq_false (by cases o; exact fw.2.2.1; exact fw.2.2.2)]
    rfl

section
variable {P : Program} {w : World} {K : PySem.W.Frag} {mg : Str → Option Value} {base : Heap} {CC fw : Addr}
def spLaw (K : PySem.W.Frag) : Sp := fun vs H Q _ => ∃ (a : Addr) (ns : List Int), vs = [.ref a] ∧ SqL K H a (ns.map V.int) ∧ ns.length ≤ 63 ∧ ∀ H', Q (.bl true) H'
def MOREW : List Str := ["and", "any", "some", "same", "place"]
theorem more_ok : ∀ z ∈ MOREW, isName z = true ∧ z.length ≤ 10 := by decide +kernel
theorem gap_at {r : Int} (r0 : 0 ≤ r) (r1 : r < 3) : ∃ S, atI (GAPS.map V.str) r = some (V.str S) ∧ S ∈ GAPS := by
  obtain ⟨v, h1, h2⟩ := atI_in (xs := GAPS.map V.str) r0 (by rw [List.length_map]; exact r1)
  obtain ⟨S, hS, rfl⟩ := List.mem_map.mp h2
  exact ⟨S, h1, hS⟩
theorem ok_Law {f : Addr} {fd : FuncData} (F : Fun K "law" "law" sLaw f fd) (TC : TxC K CC) (TT : ClsT K CC) (kno : PySem.W.kitOne K (.type "tuple") (.ref CC) = some false) (nft : PySem.W.notFirst K CC (.type "tuple") = true) (sf : PySem.W.selfFirst K CC = true)
    (GP : Has P w K mg base CX0 1 "_law_pool" PPool (spPool K)) (GD : Has P w K mg base CX0 2 "_law_draw" PDraw spDraw) (GN : Has P w K mg base CX0 3 "_law_names" PNames spNames) (GF : Has P w K mg base CX0 7 "_law_form" PLForm (spForm 5)) (GW : Has P w K mg base CX0 6 "_law_words" PLWords (spWords 5))
    (GM : Has P w K mg base CX0 9 "_law_made" PLMade (spMade CC 5)) (GI : Has P w K mg base CX0 10 "_law_is" PLIs (spIs CC 6)) (W : WhK P w K mg base CC fw) (MQ : HasM P w K mg base CX0 11 CC "__eq__" PCEq (spCEq K CC 5)) (MAn : HasM P w K mg base CX0 3 CC "__and__" PCAnd (spBin CC false))
    (GR : Has P w K mg base CX0 36 "read_condition" PRdCond (spRdCond CC 10)) : FnOk P w K mg base CX0 37 f fd PLaw (spLaw K) := by
  refine F.ok scLaw (fun vs H Q E h => ?_) (fun cdv A outer s H vs Q E hr h => ?_)
  · obtain ⟨a, ns, rfl, _⟩ := h
    rfl
  · obtain ⟨a, ns0, rfl, hS, hlen, k⟩ := h
    have hr1 := hr.mono (j := 1) (by decide)
    have hr2 := hr.mono (j := 2) (by decide)
    have hr3 := hr.mono (j := 3) (by decide)
    have hr4 := hr.mono (j := 4) (by decide)
    have hr6 := hr.mono (j := 6) (by decide)
    have hr7 := hr.mono (j := 7) (by decide)
    have hr9 := hr.mono (j := 9) (by decide)
    have hr10 := hr.mono (j := 10) (by decide)
    have hr11 := hr.mono (j := 11) (by decide)
    refine ⟨_, (pss_cons (ps_set (i := 1) scLaw.nd rfl (Or.inl rfl) (pe_callH GP hr1 rfl pass0 (pa_cons (pv 0) pa_nil)))
  (pss_cons (ps_asg pe_int (pg_sub (pv 1) pe_int set_list))
  (pss_cons (ps_set (i := 2) scLaw.nd rfl (Or.inl rfl) (pe_op op_cat (pe_callH GN hr3 rfl pass0 (pa_cons (pv 1) pa_nil)) (pe_lst (pa_cons pe_str (pa_cons pe_str (pa_cons pe_str (pa_cons pe_str (pa_cons pe_str pa_nil))))))))
  (pss_cons (ps_set (i := 3) scLaw.nd rfl (Or.inl rfl) (pe_callH GF hr7 rfl pass0 (pa_cons (pv 1) (pa_cons (pv 2) (pa_cons pe_int pa_nil)))))
  (pss_cons (ps_set (i := 4) scLaw.nd rfl (Or.inl rfl) (pe_callH GF hr7 rfl pass0 (pa_cons (pv 1) (pa_cons (pv 2) (pa_cons pe_int pa_nil)))))
  (pss_cons (ps_set (i := 5) scLaw.nd rfl (Or.inl rfl) (pe_ix (r := rIxL K) ix_list (pe_lst (pa_cons pe_str (pa_cons pe_str (pa_cons pe_str pa_nil)))) (pe_callH GD hr2 rfl pass0 (pa_cons (pv 1) (pa_cons pe_int pa_nil))) (fun _ _ => rfl)))
  (pss_cons (ps_set (i := 6) scLaw.nd rfl (Or.inl rfl) (pe_callH GM hr9 rfl pass0 (pa_cons (pv 3) pa_nil)))
  (pss_cons (ps_set (i := 7) scLaw.nd rfl (Or.inl rfl) (pe_join pe_str (pe_callH GW hr6 rfl pass0 (pa_cons (pv 3) (pa_cons pe_int (pa_cons pe_bl pa_nil))))))
  (pss_cons (ps_tight (i := 8) (j := 7) scLaw.nd rfl rfl (by decide) rfl rfl (.inl rfl) rfl PassesOwn.never)
  (pss_cons (ps_for PassesOwn.never rfl (pi_list (pe_lst (pa_cons (pe_join (pv 5) (pe_callH GW hr6 rfl pass0 (pa_cons (pv 3) (pa_cons pe_int (pa_cons pe_bl pa_nil))))) (pa_cons (pe_op op_add_str pe_str (pe_join (pv 5) (pe_callH GW hr6 rfl pass0 (pa_cons (pv 3) (pa_cons pe_int (pa_cons pe_bl pa_nil)))))) (pa_cons (pv 7) pa_nil))))) (pg_name (i := 9) scLaw.nd rfl (Or.inl rfl))
  (pss_cons (ps_set (i := 10) scLaw.nd rfl (Or.inl rfl) (pe_callH GR hr rfl pass0 (pa_cons (pv 9) pa_nil)))
  (pss_one (ps_if (PW.pt (pw_or (pt_not (pt_val (pe_callH GI hr10 rfl pass0 (pa_cons (pv 10) (pa_cons (pv 3) pa_nil))))) (pw_or (pt_not (pt_cmpR (op_eqO MQ hr11) (pv 10) (pv 6) (nomark _))) (pw_or1 (pt_not (pt_val (pe_callH GI hr10 rfl pass0 (pa_cons (pv 6) (pa_cons (pv 3) pa_nil)))))))))
  (pss_one (ps_ret pe_bl))
  pss_nil))))
  (pss_cons (ps_if (PW.pt (pw_or (pt_cmpR op_ne (pe_cmpR (op_eqO MQ hr11) (pv 6) (pe_callH GM hr9 rfl pass0 (pa_cons (pv 4) pa_nil)) (nomark _)) (pe_cmpR (op_eqD hr.units) (pv 3) (pv 4) (nomark _)) (nomark _)) (pw_or1 (pt_cmpR (op_eqX MQ hr11) (pv 6) (pv 3) (nomark _)))))
  (pss_one (ps_ret pe_bl))
  pss_nil)
  (pss_cons (ps_set (i := 11) scLaw.nd rfl (Or.inl rfl) (pe_callKw W.f3 W.m W.kp hr4 rfl pass0 (pk_cons (pe_ix (r := rIxL K) ix_list (pv 2) pe_int (fun _ _ => rfl)) (pk_cons pe_int (pk_cons (pe_ix (r := rIxL K) ix_list (pv 2) pe_int (fun _ _ => rfl)) pk_nil)))))
  (pss_cons (ps_set (i := 12) scLaw.nd rfl (Or.inl rfl) (pe_tup (pa_cons pe_str (pa_cons (pe_tup (pa_cons pe_str (pa_cons (pe_tup (pa_cons pe_str (pa_cons (pe_ix (r := rIxL K) ix_list (pv 2) pe_int (fun _ _ => rfl)) pa_nil))) (pa_cons (pe_tup (pa_cons pe_str (pa_cons pe_int pa_nil))) pa_nil)))) (pa_cons (pe_tup (pa_cons pe_str (pa_cons (pe_ix (r := rIxL K) ix_list (pv 2) pe_int (fun _ _ => rfl)) pa_nil))) pa_nil)))))
  (pss_one (ps_ret (pe_and (pe_callH GI hr10 rfl pass0 (pa_cons (pv 11) (pa_cons (pv 12) pa_nil))) (pe_and (pe_callH GI hr10 rfl pass0 (pa_cons (pe_callKw W.f0 W.m W.kp hr4 rfl pass0 pk_nil) (pa_cons (pe_tup (pa_cons pe_str pa_nil)) pa_nil))) (pe_one (pe_callH GI hr10 rfl pass0 (pa_cons (pe_op (op_andO MAn sf hr3) (pv 6) (pv 6)) (pa_cons (pe_tup (pa_cons pe_str (pa_cons (pv 3) (pa_cons (pv 3) pa_nil)))) pa_nil))))))))))))))))))))), ?_⟩
    refine ⟨_, rfl, a, ns0, rfl, hS, hlen, fun p c H1 s1 hp0 hc0 P1 => ?_⟩
    obtain ⟨i1, cs1, cn1, sd1, md1, e1, e2, e3⟩ := id P1
    have pc : p ≠ c := pool_ne e1 e2
    refine ⟨_, rfl, p, _, _, _, rfl, rfl, e1, rfl, ?_⟩
    obtain ⟨H2, eH2⟩ : ∃ H2, H2 = upd H1 p (.lst [.ref c, .int (i1 : Int), .int cn1, .int sd1, .int md1, .int 13]) := ⟨_, rfl⟩
    have P2 : PoolAt H2 p c (.int 13) 0 := ⟨i1, cs1, cn1, sd1, md1, by rw [eH2, upd_same], by rw [eH2, upd_ne pc.symm]; exact e2, e3⟩
    show tSeq _ _ _ _ (upd H1 p (.lst [.ref c, .int (i1 : Int), .int cn1, .int sd1, .int md1, .int 13]))
    rw [← eH2]
    refine ⟨_, rfl, p, c, _, 0, rfl, P2, by decide, fun q all H3 okA lA P3 b3 hq0 e3' => ?_⟩
    refine ⟨(by show 5 ≤ sizeLine; decide), fun ml hml => ?_⟩
    have sm := same_new (o := .lst (MOREW.map V.str)) hml
    refine ⟨q, ml, _, _, rfl, rfl, sm _ _ e3', upd_same, small8 (by rw [List.length_map, lA]; show 16 + 5 ≤ _; decide), fun wl hwl => ?_⟩
    obtain ⟨ws, ews⟩ : ∃ ws, ws = all ++ MOREW := ⟨_, rfl⟩
    have ewl' : all.map V.str ++ MOREW.map V.str = ws.map V.str := by rw [ews, List.map_append]
    show tSeq _ _ _ _ (upd (upd H3 ml (.lst (MOREW.map V.str))) wl (.lst (all.map V.str ++ MOREW.map V.str)))
    rw [ewl']
    have P3' := P3.same sm
    have s4 := same_new (o := .lst (ws.map V.str)) hwl
    obtain ⟨H4, eH4⟩ : ∃ H4, H4 = upd (upd H3 ml (.lst (MOREW.map V.str))) wl (.lst (ws.map V.str)) := ⟨_, rfl⟩
    have P4 : PoolAt H4 p c (.int 13) (0 + 2) := by rw [eH4]; exact P3'.same s4
    have ewl : H4 wl = some (.lst (ws.map V.str)) := by rw [eH4, upd_same]
    rw [← eH4]
    have lw : ws.length = 21 := by rw [ews, List.length_append, lA]; rfl
    have okw : ∀ z ∈ ws, isName z = true ∧ z.length ≤ 10 := fun z hz => by
      rw [ews] at hz
      rcases List.mem_append.mp hz with h | h
      · exact ⟨okA.name z h, okA.len z h⟩
      · exact more_ok z h
    have W4 : WsAt H4 p c wl ws := ⟨ewl, okw, by omega, by omega, P3'.ne1 hwl, P3'.ne2 hwl⟩
    refine ⟨_, rfl, _, rfl, p, c, wl, 13, ws, 0 + 2, 4, rfl, by decide, P4, W4, by decide, fun v f lim H5 P5 b5 l5 ok5 d5 => ?_⟩
    have W5 := W4.but b5
    refine ⟨_, rfl, _, rfl, p, c, wl, lim, ws, _, 2, rfl, by decide, P5, W5, by decide, fun v2 g lim2 H6 P6 b6 l6 ok6 d6 => ?_⟩
    have W6 := W5.but b6
    have lf6 := l5.same (P5.tsame b6)
    refine ⟨(by show 3 ≤ sizeLine; decide), fun gl' hgl => ?_⟩
    have sg := same_new (o := .lst (GAPS.map V.str)) hgl
    refine ⟨_, rfl, p, c, _, _, 3, rfl, P6.same sg, by decide, by decide, by decide, fun rg H7 g0 g1 P7 b7 => ?_⟩
    obtain ⟨S, hSt, hSm⟩ := gap_at g0 g1
    have egl := b7 _ _ (upd_same (H := H6) (o := .lst (GAPS.map V.str))) (P6.ne1 hgl) (P6.ne2 hgl)
    refine ⟨gl', _, _, _, rfl, rfl, SqL.of egl, hSt, ?_⟩
    have b67 : But p c H6 H7 := (But.of sg).trans b7
    have W7 := W6.but b67
    have lf7 := lf6.same (P6.tsame b67)
    have lg7 := l6.same (P6.tsame b67)
    obtain ⟨pf, xf, ev, etf⟩ := lf7.head
    -- made
    refine ⟨_, rfl, v, f, rfl, lf7, ok5, d5, fun mc H8 s8 c8 => ?_⟩
    obtain ⟨ma, rfl, mdx, mt, mea⟩ := c8.ref
    -- tight
    have d10 : f.dep ≤ 10 := by omega
    obtain ⟨jt1, jt2, jt3⟩ := join4 (x := true) ok5 d5 (S := " ") (by decide +kernel)
    obtain ⟨jg1, jg2, jg3⟩ := join4 (x := true) ok5 d5 (gap_ok hSm).1
    obtain ⟨jf1, jf2, jf3⟩ := join4 (x := false) ok5 d5 (gap_ok hSm).1
    refine ⟨⟨_, rfl⟩, _, rfl, v, 0, true, f, rfl, lf7.same (.of s8), ok5, d5, d10, fun l9 H9 s9 e9 => ?_⟩
    refine ⟨_, l9, f.words true 0, rfl, rfl, .inl (SqL.of e9), Nat.le_trans jt1 (by decide), ?_⟩
    have s89 := s8.trans s9
    refine ⟨_, rfl, Nat.le_trans jt2 (by decide), ?_⟩
    -- the three texts
    show tSeq _ _ _ [some (.ref a), some (.ref p), some (.ref wl), some v, some v2, some (.str S), some (.ref ma), some (.str (tightS (Txt.join " " (f.words true 0)))), some (.str ")"), none, none, none, none] H9
    have c9 := c8.same (.of s9)
    refine ⟨_, rfl, ⟨_, rfl⟩, _, rfl, v, 0, false, f, rfl, lf7.same (.of s89), ok5, d5, d10, fun l10 H10 s10 e10 => ?_⟩
    refine ⟨_, l10, f.words false 0, rfl, rfl, .inl (SqL.of e10), Nat.le_trans jf1 (by decide), ?_⟩
    refine ⟨_, rfl, ⟨_, rfl⟩, _, rfl, v, 0, true, f, rfl, lf7.same (.of (s89.trans s10)), ok5, d5, d10, fun l11 H11 s11 e11 => ?_⟩
    refine ⟨_, l11, f.words true 0, rfl, rfl, .inl (SqL.of e11), Nat.le_trans jg1 (by decide), ?_⟩
    refine ⟨_, _, rfl, rfl, small8 (by rw [sp_len]; omega), _, rfl, (by show 3 ≤ sizeLine; decide), fun tl htl => ?_⟩
    obtain ⟨tx, etx⟩ : ∃ tx : List Str, tx = [Txt.join S (f.words false 0), " " ++ Txt.join S (f.words true 0), tightS (Txt.join " " (f.words true 0))] := ⟨_, rfl⟩
    have rdx : ∀ z ∈ tx, RdT f z := fun z hz => by
      rw [etx] at hz
      simp only [List.mem_cons, List.not_mem_nil, or_false] at hz
      rcases hz with rfl | rfl | rfl
      · exact rd_one ok5 d5 hSm
      · exact rd_two ok5 d5 hSm
      · exact rd_three ok5 d5
    have elst : [V.str (Txt.join S (f.words false 0)), V.str (" " ++ Txt.join S (f.words true 0)), V.str (tightS (Txt.join " " (f.words true 0)))] = tx.map V.str := by rw [etx]; rfl
    have s12 := same_new (o := .lst (tx.map V.str)) htl
    refine ⟨tl, rfl, ⟨_, SqL.of upd_same⟩, ?_⟩
    rw [elst]
    obtain ⟨H12, eH12⟩ : ∃ H12, H12 = upd H11 tl (.lst (tx.map V.str)) := ⟨_, rfl⟩
    have etl : H12 tl = some (.lst (tx.map V.str)) := by rw [eH12, upd_same]
    rw [← eH12] at s12 ⊢
    have s7b : Same H7 H12 := ((s89.trans s10).trans s11).trans s12
    have s8b : Same H8 H12 := ((s9.trans s10).trans s11).trans s12
    have lf12 := lf7.same (.of s7b)
    have lg12 := lg7.same (.of s7b)
    have c12 := c8.same (.of s8b)
    have ea12 := s8b _ _ mea
    have W12 := W7.but (.of s7b)
    have tt : eqF f f = true := eqF_iff.mpr rfl
    refine for_list (xs := tx.map V.str) (fun i σ H' => Same H12 H' ∧ ∃ x9 x10 : Option V, σ = [some (.ref a), some (.ref p), some (.ref wl), some v, some v2, some (.str S), some (.ref ma), some (.str (tightS (Txt.join " " (f.words true 0)))), some (.str ")"), x9, x10, none, none]) ⟨Same.refl _, none, none, rfl⟩ (fun i σ H' _ h' => SqL.of (h'.1 _ _ etl)) ?_ ?_
    · rintro i x σ HA hx ⟨sA, x9, x10, rfl⟩
      rw [List.getElem?_map] at hx
      obtain ⟨z, hz, rfl⟩ : ∃ z, tx[i]? = some z ∧ x = V.str z := by
        cases e : tx[i]? with
        | none => rw [e] at hx; cases hx
        | some z => rw [e] at hx; exact ⟨z, rfl, (Option.some.inj hx).symm⟩
      obtain ⟨zl, ts, j, ja, tz, tl', tc, te⟩ := rdx z (List.mem_of_getElem? hz)
      refine ⟨_, rfl, z, ts, f, j, ja, rfl, zl, tz, tl', tc, te, fun cv HB sB cB => ?_⟩
      have sAB := sA.trans sB
      obtain ⟨va, rfl, vdx, vt, vea⟩ := cB.ref
      refine ⟨_, rfl, _, rfl, _, v, f, rfl, cB, lf12.same (.of sAB), ok5, Nat.le_trans d5 (by decide), fun HC sC => ⟨_, rfl, iteE rfl ?_⟩⟩
      have sAC := sAB.trans sC
      refine ⟨_, rfl, _, rfl, va, ma, vdx, mdx, _, _, rfl, rfl, sC _ _ vea, sAC _ _ ea12, va, .ref ma, f, rfl, cB.same (.of sC), ok5, d5, .inl ⟨f, c12.same (.of sAC), ok5, fun HD sD => ⟨_, rfl, _, rfl, iteE (by rw [tt]; rfl) ?_⟩⟩⟩
      have sAD := sAC.trans sD
      refine ⟨_, rfl, _, rfl, _, v, f, rfl, c12.same (.of sAD), lf12.same (.of sAD), ok5, Nat.le_trans d5 (by decide), fun HE sE => ⟨_, rfl, iteE rfl ?_⟩⟩
      exact ⟨sAD.trans sE, _, _, rfl⟩
    · rintro σ HA ⟨sA, x9, x10, rfl⟩
      refine ⟨_, rfl, _, rfl, v2, g, rfl, lg12.same (.of sA), ok6, Nat.le_trans d6 (by decide), fun oc HB sB cB => ?_⟩
      have sAB := sA.trans sB
      obtain ⟨oa, rfl, odx, ot, oea⟩ := cB.ref
      refine ⟨ma, oa, mdx, odx, _, _, rfl, rfl, sAB _ _ ea12, oea, ma, .ref oa, f, rfl, c12.same (.of sAB), ok5, d5, .inl ⟨g, cB, ok6, fun HC sC => ⟨_, rfl, ?_⟩⟩⟩
      have sAC := sAB.trans sC
      refine ⟨_, rfl, _, rfl, _, _, dp_F ok5 (lf12.same (.of sAC)), dp_F ok6 (lg12.same (.of sAC)), shaped_F ok5 (by omega), shaped_F ok6 (by omega), rfl, _, rfl, iteE (by rw [eqv_F ok5 ok6, decide_eq_true rfl]; rfl) ?_⟩
      subst ev
      have ety : TyX K HC (.ref pf) (.type "tuple") := .base (.tup (sAC _ _ (s7b _ _ etf)))
      refine ⟨_, rfl, _, rfl, ma, mdx, _, _, rfl, sAC _ _ ea12, ety, nft, ma, .ref pf, f, rfl, c12.same (.of sAC), ok5, d5, .inr ⟨_, ety, kno, _, rfl, _, rfl, iteE rfl ?_⟩⟩
      -- where of three fields
      have WC := W12.but (.of sAC)
      obtain ⟨w0, hw0⟩ : ∃ w0, ws[0]? = some w0 := ⟨_, List.getElem?_eq_getElem (by omega)⟩
      obtain ⟨w1, hw1⟩ : ∃ w1, ws[1]? = some w1 := ⟨_, List.getElem?_eq_getElem (by omega)⟩
      have a0 : atI (ws.map V.str) 0 = some (V.str w0) := atI_nat (j := 0) (by rw [List.getElem?_map, hw0]; rfl)
      have a1 : atI (ws.map V.str) 1 = some (V.str w1) := atI_nat (j := 1) (by rw [List.getElem?_map, hw1]; rfl)
      obtain ⟨ow0, lw0⟩ := okw w0 (List.mem_of_getElem? hw0)
      obtain ⟨ow1, lw1⟩ := okw w1 (List.mem_of_getElem? hw1)
      refine ⟨_, rfl, wl, _, _, _, rfl, rfl, SqL.of WC.e, a0, _, rfl, wl, _, _, _, rfl, rfl, SqL.of WC.e, a1, rfl, fun pd hpd => ⟨pd, [("kind", .str w0), ("place", .int 3), ("function", .str w1)], rfl, upd_same, (by show (["kind", "place", "function"] : List Str).Nodup; decide +kernel), ?_, (by show 3 ≤ 10; decide), fun bv HD sD cD => ?_⟩⟩
      · intro q hq
        simp only [List.mem_cons, List.not_mem_nil, or_false] at hq
        rcases hq with rfl | rfl | rfl
        · show ("kind" : Str) ∈ FLD; decide +kernel
        · show ("place" : Str) ∈ FLD; decide +kernel
        · show ("function" : Str) ∈ FLD; decide +kernel
      have sAD := sAC.trans ((same_new hpd).trans sD)
      have WD := W12.but (.of sAD)
      refine ⟨_, rfl, wl, _, _, _, rfl, rfl, SqL.of WD.e, a0, (by show 2 ≤ sizeLine; decide), fun t1 h1 => ?_⟩
      have u1 := same_new (o := .tup [.str "kind", .str w0]) h1
      refine ⟨(by show 2 ≤ sizeLine; decide), fun t2 h2 => ⟨(by show 3 ≤ sizeLine; decide), fun t3 h3 => ?_⟩⟩
      have u2 := same_new (o := .tup [.str "place", .int 3]) h2
      have u3 := same_new (o := .tup [.str "and", .ref t1, .ref t2]) h3
      have u13 := (u1.trans u2).trans u3
      refine ⟨_, rfl, wl, _, _, _, rfl, rfl, SqL.of (u13 _ _ WD.e), a1, (by show 2 ≤ sizeLine; decide), fun t4 h4 => ⟨(by show 3 ≤ sizeLine; decide), fun t5 h5 => ?_⟩⟩
      have u4 := same_new (o := .tup [.str "function", .str w1]) h4
      have u5 := same_new (o := .tup [.str "and", .ref t3, .ref t4]) h5
      have u15 := (u13.trans u4).trans u5
      have okb : (whereF [("kind", .str w0), ("place", .int 3), ("function", .str w1)]).ok := ⟨⟨.name "kind" w0 (.inr (.inl rfl)) ow0 lw0, .place 3 (by decide)⟩, .name "function" w1 (.inl rfl) ow1 lw1⟩
      refine ⟨_, rfl, _, rfl, bv, .ref t5, whereF [("kind", .str w0), ("place", .int 3), ("function", .str w1)], rfl, cD.same (.of u15), ?_, okb, (by show 2 ≤ 5; decide), fun HE sE => ⟨_, rfl, iteT ?_⟩⟩
      · refine ⟨.ref t3, .ref t4, ⟨t5, rfl, upd_same⟩, ⟨.ref t1, .ref t2, ⟨t3, rfl, (u4.trans u5) _ _ upd_same⟩, ⟨t1, rfl, (((u2.trans u3).trans u4).trans u5) _ _ upd_same⟩, ⟨t2, rfl, ((u3.trans u4).trans u5) _ _ upd_same⟩⟩, ⟨t4, rfl, u5 _ _ upd_same⟩⟩
      have sAE := (sAD.trans u15).trans sE
      refine wh0 fun ac HF sF cF => ⟨(by show 1 ≤ sizeLine; decide), fun t6 h6 => ?_⟩
      have u6 := same_new (o := .tup [.str "any"]) h6
      refine ⟨_, .ref t6, .any, rfl, cF.same (.of u6), ⟨t6, rfl, upd_same⟩, trivial, by decide, fun HG sG => ⟨_, rfl, iteT ?_⟩⟩
      have sAG := ((sAE.trans sF).trans u6).trans sG
      have cG := c12.same (.of sAG)
      refine ⟨_, rfl, _, rfl, ma, ma, mdx, mdx, _, _, rfl, rfl, sAG _ _ ea12, sAG _ _ ea12, ma, ma, rfl, fun bc HI sI cI => ⟨⟨bc, rfl⟩, _, rfl, _, rfl, (by show 3 ≤ sizeLine; decide), fun t7 h7 => ?_⟩⟩
      have u7 := same_new (o := .tup [.str "and", .ref pf, .ref pf]) h7
      have sAI := (sAG.trans sI).trans u7
      refine ⟨_, .ref t7, .bin false f f, rfl, ⟨_, _, CSame.of u7 _ _ cI, (cG.same (.of sI)).same (.of u7), (cG.same (.of sI)).same (.of u7)⟩, ⟨_, _, ⟨t7, rfl, upd_same⟩, lf12.same (.of sAI), lf12.same (.of sAI)⟩, ⟨ok5, ok5⟩, ?_, fun HJ sJ => k _⟩
      show max f.dep f.dep + 1 ≤ 5
      omega
end

theorem sq_tup {K : PySem.W.Frag} {a : Addr} {od : Option Addr} {n : Nat} {sl : Array (Option Value)} {its : List Value} {ws : List Str} (h : K.lookup a = some ⟨.type "tuple", od, .seq its.toArray n, sl⟩) (hv : Vals (ws.map V.str) its) (hl : ws.length ≤ 100) (H : Hp) : SqT K H a (ws.map V.str) :=
  .inr ⟨_, _, n, h, rfl, rfl, by
    have e := hv.length
    rw [List.length_map] at e
    show its.toArray.size ≤ sizeLine
    rw [List.size_toArray, ← e]
    exact Nat.le_trans hl (by decide), by simpa using hv⟩
theorem scWhereK : FnScope NWhere ["wanted"] (defScope sWhere) := ⟨rfl, rfl, rfl, by decide +kernel, rfl, by decide +kernel, by decide +kernel⟩
theorem all_mk {l : PySem.W.OpenLaw} {w : World} {K : PySem.W.Frag} {h : Heap} {mg : Str → Option Value} {fa fMixed fDraw fPool fKindOf fEndRun fToksOf fNames fRdCond fLForm fLRank fLWords fWhere fLMade fLIs fLaw a_KEYWORDS a_VERDICTS a_FIELDS CCondition fCIni fCAnd fCOr fCInv fCEq fCPts CQuestionReader fQIni fQAcc fQEnd fQVal fQAtom fQOne fQBoth fQCond : Addr} (X : K.In h) (G : h.Ns mainGlobals mg) (hfa : mg "law" = some (.ref fa))
    {odMixed anMixed : Option Addr} {slMixed : Array (Option Value)} {ocMixed kVMixed dcMixed pmMixed cdMixed ctMixed : Value}
    (aMixed : PySem.W.nsIn K mainGlobals "_law_mixed" = some (some (.ref fMixed))) (lMixed : K.lookup fMixed = some ⟨ocMixed, odMixed, .func (PySem.W.fnOf "_law_mixed" "_law_mixed" (defArgs sMixed) (defBody sMixed) (defScope sMixed) .none kVMixed dcMixed pmMixed anMixed cdMixed ctMixed), slMixed⟩) (cMixed : PySem.W.codeIn K cdMixed "_law_mixed" = true) (kMixed : PySem.W.keepIn K (.ref fMixed) = true)
    {odDraw anDraw : Option Addr} {slDraw : Array (Option Value)} {ocDraw kVDraw dcDraw pmDraw cdDraw ctDraw : Value}
    (aDraw : PySem.W.nsIn K mainGlobals "_law_draw" = some (some (.ref fDraw))) (lDraw : K.lookup fDraw = some ⟨ocDraw, odDraw, .func (PySem.W.fnOf "_law_draw" "_law_draw" (defArgs sDraw) (defBody sDraw) (defScope sDraw) .none kVDraw dcDraw pmDraw anDraw cdDraw ctDraw), slDraw⟩) (cDraw : PySem.W.codeIn K cdDraw "_law_draw" = true) (kDraw : PySem.W.keepIn K (.ref fDraw) = true)
    {odPool anPool : Option Addr} {slPool : Array (Option Value)} {ocPool kVPool dcPool pmPool cdPool ctPool : Value}
    (aPool : PySem.W.nsIn K mainGlobals "_law_pool" = some (some (.ref fPool))) (lPool : K.lookup fPool = some ⟨ocPool, odPool, .func (PySem.W.fnOf "_law_pool" "_law_pool" (defArgs sPool) (defBody sPool) (defScope sPool) .none kVPool dcPool pmPool anPool cdPool ctPool), slPool⟩) (cPool : PySem.W.codeIn K cdPool "_law_pool" = true) (kPool : PySem.W.keepIn K (.ref fPool) = true)
    {odKindOf anKindOf : Option Addr} {slKindOf : Array (Option Value)} {ocKindOf kVKindOf dcKindOf pmKindOf cdKindOf ctKindOf : Value}
    (aKindOf : PySem.W.nsIn K mainGlobals "kind_of" = some (some (.ref fKindOf))) (lKindOf : K.lookup fKindOf = some ⟨ocKindOf, odKindOf, .func (PySem.W.fnOf "kind_of" "kind_of" (defArgs sKindOf) (defBody sKindOf) (defScope sKindOf) .none kVKindOf dcKindOf pmKindOf anKindOf cdKindOf ctKindOf), slKindOf⟩) (cKindOf : PySem.W.codeIn K cdKindOf "kind_of" = true) (kKindOf : PySem.W.keepIn K (.ref fKindOf) = true)
    {odEndRun anEndRun : Option Addr} {slEndRun : Array (Option Value)} {ocEndRun kVEndRun dcEndRun pmEndRun cdEndRun ctEndRun : Value}
    (aEndRun : PySem.W.nsIn K mainGlobals "end_of_run" = some (some (.ref fEndRun))) (lEndRun : K.lookup fEndRun = some ⟨ocEndRun, odEndRun, .func (PySem.W.fnOf "end_of_run" "end_of_run" (defArgs sEndRun) (defBody sEndRun) (defScope sEndRun) .none kVEndRun dcEndRun pmEndRun anEndRun cdEndRun ctEndRun), slEndRun⟩) (cEndRun : PySem.W.codeIn K cdEndRun "end_of_run" = true) (kEndRun : PySem.W.keepIn K (.ref fEndRun) = true)
    {odToksOf anToksOf : Option Addr} {slToksOf : Array (Option Value)} {ocToksOf kVToksOf dcToksOf pmToksOf cdToksOf ctToksOf : Value}
    (aToksOf : PySem.W.nsIn K mainGlobals "tokens_of" = some (some (.ref fToksOf))) (lToksOf : K.lookup fToksOf = some ⟨ocToksOf, odToksOf, .func (PySem.W.fnOf "tokens_of" "tokens_of" (defArgs sToksOf) (defBody sToksOf) (defScope sToksOf) .none kVToksOf dcToksOf pmToksOf anToksOf cdToksOf ctToksOf), slToksOf⟩) (cToksOf : PySem.W.codeIn K cdToksOf "tokens_of" = true) (kToksOf : PySem.W.keepIn K (.ref fToksOf) = true)
    {odNames anNames : Option Addr} {slNames : Array (Option Value)} {ocNames kVNames dcNames pmNames cdNames ctNames : Value}
    (aNames : PySem.W.nsIn K mainGlobals "_law_names" = some (some (.ref fNames))) (lNames : K.lookup fNames = some ⟨ocNames, odNames, .func (PySem.W.fnOf "_law_names" "_law_names" (defArgs sNames) (defBody sNames) (defScope sNames) .none kVNames dcNames pmNames anNames cdNames ctNames), slNames⟩) (cNames : PySem.W.codeIn K cdNames "_law_names" = true) (kNames : PySem.W.keepIn K (.ref fNames) = true)
    {odRdCond anRdCond : Option Addr} {slRdCond : Array (Option Value)} {ocRdCond kVRdCond dcRdCond pmRdCond cdRdCond ctRdCond : Value}
    (aRdCond : PySem.W.nsIn K mainGlobals "read_condition" = some (some (.ref fRdCond))) (lRdCond : K.lookup fRdCond = some ⟨ocRdCond, odRdCond, .func (PySem.W.fnOf "read_condition" "read_condition" (defArgs sRdCond) (defBody sRdCond) (defScope sRdCond) .none kVRdCond dcRdCond pmRdCond anRdCond cdRdCond ctRdCond), slRdCond⟩) (cRdCond : PySem.W.codeIn K cdRdCond "read_condition" = true) (kRdCond : PySem.W.keepIn K (.ref fRdCond) = true)
    {odLForm anLForm : Option Addr} {slLForm : Array (Option Value)} {ocLForm kVLForm dcLForm pmLForm cdLForm ctLForm : Value}
    (aLForm : PySem.W.nsIn K mainGlobals "_law_form" = some (some (.ref fLForm))) (lLForm : K.lookup fLForm = some ⟨ocLForm, odLForm, .func (PySem.W.fnOf "_law_form" "_law_form" (defArgs sLForm) (defBody sLForm) (defScope sLForm) .none kVLForm dcLForm pmLForm anLForm cdLForm ctLForm), slLForm⟩) (cLForm : PySem.W.codeIn K cdLForm "_law_form" = true) (kLForm : PySem.W.keepIn K (.ref fLForm) = true)
    {odLRank anLRank : Option Addr} {slLRank : Array (Option Value)} {ocLRank kVLRank dcLRank pmLRank cdLRank ctLRank : Value}
    (aLRank : PySem.W.nsIn K mainGlobals "_law_rank" = some (some (.ref fLRank))) (lLRank : K.lookup fLRank = some ⟨ocLRank, odLRank, .func (PySem.W.fnOf "_law_rank" "_law_rank" (defArgs sLRank) (defBody sLRank) (defScope sLRank) .none kVLRank dcLRank pmLRank anLRank cdLRank ctLRank), slLRank⟩) (cLRank : PySem.W.codeIn K cdLRank "_law_rank" = true) (kLRank : PySem.W.keepIn K (.ref fLRank) = true)
    {odLWords anLWords : Option Addr} {slLWords : Array (Option Value)} {ocLWords kVLWords dcLWords pmLWords cdLWords ctLWords : Value}
    (aLWords : PySem.W.nsIn K mainGlobals "_law_words" = some (some (.ref fLWords))) (lLWords : K.lookup fLWords = some ⟨ocLWords, odLWords, .func (PySem.W.fnOf "_law_words" "_law_words" (defArgs sLWords) (defBody sLWords) (defScope sLWords) .none kVLWords dcLWords pmLWords anLWords cdLWords ctLWords), slLWords⟩) (cLWords : PySem.W.codeIn K cdLWords "_law_words" = true) (kLWords : PySem.W.keepIn K (.ref fLWords) = true)
    {odWhere anWhere : Option Addr} {slWhere : Array (Option Value)} {ocWhere kVWhere dcWhere pmWhere cdWhere ctWhere : Value}
    (aWhere : PySem.W.nsIn K mainGlobals "where" = some (some (.ref fWhere))) (lWhere : K.lookup fWhere = some ⟨ocWhere, odWhere, .func (PySem.W.fnOf "where" "where" (defArgs sWhere) (defBody sWhere) (defScope sWhere) .none kVWhere dcWhere pmWhere anWhere cdWhere ctWhere), slWhere⟩) (cWhere : PySem.W.codeIn K cdWhere "where" = true) (kWhere : PySem.W.keepIn K (.ref fWhere) = true)
    {odLMade anLMade : Option Addr} {slLMade : Array (Option Value)} {ocLMade kVLMade dcLMade pmLMade cdLMade ctLMade : Value}
    (aLMade : PySem.W.nsIn K mainGlobals "_law_made" = some (some (.ref fLMade))) (lLMade : K.lookup fLMade = some ⟨ocLMade, odLMade, .func (PySem.W.fnOf "_law_made" "_law_made" (defArgs sLMade) (defBody sLMade) (defScope sLMade) .none kVLMade dcLMade pmLMade anLMade cdLMade ctLMade), slLMade⟩) (cLMade : PySem.W.codeIn K cdLMade "_law_made" = true) (kLMade : PySem.W.keepIn K (.ref fLMade) = true)
    {odLIs anLIs : Option Addr} {slLIs : Array (Option Value)} {ocLIs kVLIs dcLIs pmLIs cdLIs ctLIs : Value}
    (aLIs : PySem.W.nsIn K mainGlobals "_law_is" = some (some (.ref fLIs))) (lLIs : K.lookup fLIs = some ⟨ocLIs, odLIs, .func (PySem.W.fnOf "_law_is" "_law_is" (defArgs sLIs) (defBody sLIs) (defScope sLIs) .none kVLIs dcLIs pmLIs anLIs cdLIs ctLIs), slLIs⟩) (cLIs : PySem.W.codeIn K cdLIs "_law_is" = true) (kLIs : PySem.W.keepIn K (.ref fLIs) = true)
    {odLaw anLaw : Option Addr} {slLaw : Array (Option Value)} {ocLaw kVLaw dcLaw pmLaw cdLaw ctLaw : Value}
    (aLaw : PySem.W.nsIn K mainGlobals "law" = some (some (.ref fLaw))) (lLaw : K.lookup fLaw = some ⟨ocLaw, odLaw, .func (PySem.W.fnOf "law" "law" (defArgs sLaw) (defBody sLaw) (defScope sLaw) .none kVLaw dcLaw pmLaw anLaw cdLaw ctLaw), slLaw⟩) (cLaw : PySem.W.codeIn K cdLaw "law" = true) (kLaw : PySem.W.keepIn K (.ref fLaw) = true)
    (aCondition : PySem.W.nsIn K mainGlobals "Condition" = some (some (.ref CCondition)))
    (pgCondition : PySem.W.plainGet K CCondition Str.empty = true) (hdCondition : PySem.W.hasDictIn K CCondition = true) (poCondition : PySem.W.plainOver K CCondition = true) (saCondition : PySem.W.findIn K (.ref CCondition) "__setattr__" = some (some (.builtin "object.__setattr__"))) (mkCondition : PySem.W.makesIn K CCondition = true) (kcCondition : PySem.W.keepIn K (.ref CCondition) = true)
    (noCondition_form : PySem.W.findIn K (.ref CCondition) "form" = some none)
    {odCIni anCIni : Option Addr} {slCIni : Array (Option Value)} {ocCIni kVCIni dcCIni pmCIni cdCIni ctCIni : Value}
    (aCIni : PySem.W.findIn K (.ref CCondition) "__init__" = some (some (.ref fCIni))) (iCIni : PySem.W.isFn K (.ref fCIni) = true)
    (lCIni : K.lookup fCIni = some ⟨ocCIni, odCIni, .func (PySem.W.fnOf "__init__" "Condition.__init__" (defArgs sCIni) (defBody sCIni) (defScope sCIni) .none kVCIni dcCIni pmCIni anCIni cdCIni ctCIni), slCIni⟩) (cCIni : PySem.W.codeIn K cdCIni "Condition.__init__" = true) (kCIni : PySem.W.keepIn K (.ref fCIni) = true)
    {odCAnd anCAnd : Option Addr} {slCAnd : Array (Option Value)} {ocCAnd kVCAnd dcCAnd pmCAnd cdCAnd ctCAnd : Value}
    (aCAnd : PySem.W.findIn K (.ref CCondition) "__and__" = some (some (.ref fCAnd))) (iCAnd : PySem.W.isFn K (.ref fCAnd) = true)
    (lCAnd : K.lookup fCAnd = some ⟨ocCAnd, odCAnd, .func (PySem.W.fnOf "__and__" "Condition.__and__" (defArgs sCAnd) (defBody sCAnd) (defScope sCAnd) .none kVCAnd dcCAnd pmCAnd anCAnd cdCAnd ctCAnd), slCAnd⟩) (cCAnd : PySem.W.codeIn K cdCAnd "Condition.__and__" = true) (kCAnd : PySem.W.keepIn K (.ref fCAnd) = true)
    {odCOr anCOr : Option Addr} {slCOr : Array (Option Value)} {ocCOr kVCOr dcCOr pmCOr cdCOr ctCOr : Value}
    (aCOr : PySem.W.findIn K (.ref CCondition) "__or__" = some (some (.ref fCOr))) (iCOr : PySem.W.isFn K (.ref fCOr) = true)
    (lCOr : K.lookup fCOr = some ⟨ocCOr, odCOr, .func (PySem.W.fnOf "__or__" "Condition.__or__" (defArgs sCOr) (defBody sCOr) (defScope sCOr) .none kVCOr dcCOr pmCOr anCOr cdCOr ctCOr), slCOr⟩) (cCOr : PySem.W.codeIn K cdCOr "Condition.__or__" = true) (kCOr : PySem.W.keepIn K (.ref fCOr) = true)
    {odCInv anCInv : Option Addr} {slCInv : Array (Option Value)} {ocCInv kVCInv dcCInv pmCInv cdCInv ctCInv : Value}
    (aCInv : PySem.W.findIn K (.ref CCondition) "__invert__" = some (some (.ref fCInv))) (iCInv : PySem.W.isFn K (.ref fCInv) = true)
    (lCInv : K.lookup fCInv = some ⟨ocCInv, odCInv, .func (PySem.W.fnOf "__invert__" "Condition.__invert__" (defArgs sCInv) (defBody sCInv) (defScope sCInv) .none kVCInv dcCInv pmCInv anCInv cdCInv ctCInv), slCInv⟩) (cCInv : PySem.W.codeIn K cdCInv "Condition.__invert__" = true) (kCInv : PySem.W.keepIn K (.ref fCInv) = true)
    {odCEq anCEq : Option Addr} {slCEq : Array (Option Value)} {ocCEq kVCEq dcCEq pmCEq cdCEq ctCEq : Value}
    (aCEq : PySem.W.findIn K (.ref CCondition) "__eq__" = some (some (.ref fCEq))) (iCEq : PySem.W.isFn K (.ref fCEq) = true)
    (lCEq : K.lookup fCEq = some ⟨ocCEq, odCEq, .func (PySem.W.fnOf "__eq__" "Condition.__eq__" (defArgs sCEq) (defBody sCEq) (defScope sCEq) .none kVCEq dcCEq pmCEq anCEq cdCEq ctCEq), slCEq⟩) (cCEq : PySem.W.codeIn K cdCEq "Condition.__eq__" = true) (kCEq : PySem.W.keepIn K (.ref fCEq) = true)
    {odCPts anCPts : Option Addr} {slCPts : Array (Option Value)} {ocCPts kVCPts dcCPts pmCPts cdCPts ctCPts : Value}
    (aCPts : PySem.W.findIn K (.ref CCondition) "parts" = some (some (.ref fCPts))) (iCPts : PySem.W.isFn K (.ref fCPts) = true)
    (lCPts : K.lookup fCPts = some ⟨ocCPts, odCPts, .func (PySem.W.fnOf "parts" "Condition.parts" (defArgs sCPts) (defBody sCPts) (defScope sCPts) .none kVCPts dcCPts pmCPts anCPts cdCPts ctCPts), slCPts⟩) (cCPts : PySem.W.codeIn K cdCPts "Condition.parts" = true) (kCPts : PySem.W.keepIn K (.ref fCPts) = true)
    (aQuestionReader : PySem.W.nsIn K mainGlobals "QuestionReader" = some (some (.ref CQuestionReader)))
    (pgQuestionReader : PySem.W.plainGet K CQuestionReader Str.empty = true) (hdQuestionReader : PySem.W.hasDictIn K CQuestionReader = true) (poQuestionReader : PySem.W.plainOver K CQuestionReader = true) (saQuestionReader : PySem.W.findIn K (.ref CQuestionReader) "__setattr__" = some (some (.builtin "object.__setattr__"))) (mkQuestionReader : PySem.W.makesIn K CQuestionReader = true) (kcQuestionReader : PySem.W.keepIn K (.ref CQuestionReader) = true)
    (noQuestionReader_tokens : PySem.W.findIn K (.ref CQuestionReader) "tokens" = some none)
    (noQuestionReader_at : PySem.W.findIn K (.ref CQuestionReader) "at" = some none)
    (noQuestionReader_depth : PySem.W.findIn K (.ref CQuestionReader) "depth" = some none)
    {odQIni anQIni : Option Addr} {slQIni : Array (Option Value)} {ocQIni kVQIni dcQIni pmQIni cdQIni ctQIni : Value}
    (aQIni : PySem.W.findIn K (.ref CQuestionReader) "__init__" = some (some (.ref fQIni))) (iQIni : PySem.W.isFn K (.ref fQIni) = true)
    (lQIni : K.lookup fQIni = some ⟨ocQIni, odQIni, .func (PySem.W.fnOf "__init__" "QuestionReader.__init__" (defArgs sQIni) (defBody sQIni) (defScope sQIni) .none kVQIni dcQIni pmQIni anQIni cdQIni ctQIni), slQIni⟩) (cQIni : PySem.W.codeIn K cdQIni "QuestionReader.__init__" = true) (kQIni : PySem.W.keepIn K (.ref fQIni) = true)
    {odQAcc anQAcc : Option Addr} {slQAcc : Array (Option Value)} {ocQAcc kVQAcc dcQAcc pmQAcc cdQAcc ctQAcc : Value}
    (aQAcc : PySem.W.findIn K (.ref CQuestionReader) "accept" = some (some (.ref fQAcc))) (iQAcc : PySem.W.isFn K (.ref fQAcc) = true)
    (lQAcc : K.lookup fQAcc = some ⟨ocQAcc, odQAcc, .func (PySem.W.fnOf "accept" "QuestionReader.accept" (defArgs sQAcc) (defBody sQAcc) (defScope sQAcc) .none kVQAcc dcQAcc pmQAcc anQAcc cdQAcc ctQAcc), slQAcc⟩) (cQAcc : PySem.W.codeIn K cdQAcc "QuestionReader.accept" = true) (kQAcc : PySem.W.keepIn K (.ref fQAcc) = true)
    {odQEnd anQEnd : Option Addr} {slQEnd : Array (Option Value)} {ocQEnd kVQEnd dcQEnd pmQEnd cdQEnd ctQEnd : Value}
    (aQEnd : PySem.W.findIn K (.ref CQuestionReader) "read_end" = some (some (.ref fQEnd))) (iQEnd : PySem.W.isFn K (.ref fQEnd) = true)
    (lQEnd : K.lookup fQEnd = some ⟨ocQEnd, odQEnd, .func (PySem.W.fnOf "read_end" "QuestionReader.read_end" (defArgs sQEnd) (defBody sQEnd) (defScope sQEnd) .none kVQEnd dcQEnd pmQEnd anQEnd cdQEnd ctQEnd), slQEnd⟩) (cQEnd : PySem.W.codeIn K cdQEnd "QuestionReader.read_end" = true) (kQEnd : PySem.W.keepIn K (.ref fQEnd) = true)
    {odQVal anQVal : Option Addr} {slQVal : Array (Option Value)} {ocQVal kVQVal dcQVal pmQVal cdQVal ctQVal : Value}
    (aQVal : PySem.W.findIn K (.ref CQuestionReader) "read_value" = some (some (.ref fQVal))) (iQVal : PySem.W.isFn K (.ref fQVal) = true)
    (lQVal : K.lookup fQVal = some ⟨ocQVal, odQVal, .func (PySem.W.fnOf "read_value" "QuestionReader.read_value" (defArgs sQVal) (defBody sQVal) (defScope sQVal) .none kVQVal dcQVal pmQVal anQVal cdQVal ctQVal), slQVal⟩) (cQVal : PySem.W.codeIn K cdQVal "QuestionReader.read_value" = true) (kQVal : PySem.W.keepIn K (.ref fQVal) = true)
    {odQAtom anQAtom : Option Addr} {slQAtom : Array (Option Value)} {ocQAtom kVQAtom dcQAtom pmQAtom cdQAtom ctQAtom : Value}
    (aQAtom : PySem.W.findIn K (.ref CQuestionReader) "read_atom" = some (some (.ref fQAtom))) (iQAtom : PySem.W.isFn K (.ref fQAtom) = true)
    (lQAtom : K.lookup fQAtom = some ⟨ocQAtom, odQAtom, .func (PySem.W.fnOf "read_atom" "QuestionReader.read_atom" (defArgs sQAtom) (defBody sQAtom) (defScope sQAtom) .none kVQAtom dcQAtom pmQAtom anQAtom cdQAtom ctQAtom), slQAtom⟩) (cQAtom : PySem.W.codeIn K cdQAtom "QuestionReader.read_atom" = true) (kQAtom : PySem.W.keepIn K (.ref fQAtom) = true)
    {odQOne anQOne : Option Addr} {slQOne : Array (Option Value)} {ocQOne kVQOne dcQOne pmQOne cdQOne ctQOne : Value}
    (aQOne : PySem.W.findIn K (.ref CQuestionReader) "read_one" = some (some (.ref fQOne))) (iQOne : PySem.W.isFn K (.ref fQOne) = true)
    (lQOne : K.lookup fQOne = some ⟨ocQOne, odQOne, .func (PySem.W.fnOf "read_one" "QuestionReader.read_one" (defArgs sQOne) (defBody sQOne) (defScope sQOne) .none kVQOne dcQOne pmQOne anQOne cdQOne ctQOne), slQOne⟩) (cQOne : PySem.W.codeIn K cdQOne "QuestionReader.read_one" = true) (kQOne : PySem.W.keepIn K (.ref fQOne) = true)
    {odQBoth anQBoth : Option Addr} {slQBoth : Array (Option Value)} {ocQBoth kVQBoth dcQBoth pmQBoth cdQBoth ctQBoth : Value}
    (aQBoth : PySem.W.findIn K (.ref CQuestionReader) "read_both" = some (some (.ref fQBoth))) (iQBoth : PySem.W.isFn K (.ref fQBoth) = true)
    (lQBoth : K.lookup fQBoth = some ⟨ocQBoth, odQBoth, .func (PySem.W.fnOf "read_both" "QuestionReader.read_both" (defArgs sQBoth) (defBody sQBoth) (defScope sQBoth) .none kVQBoth dcQBoth pmQBoth anQBoth cdQBoth ctQBoth), slQBoth⟩) (cQBoth : PySem.W.codeIn K cdQBoth "QuestionReader.read_both" = true) (kQBoth : PySem.W.keepIn K (.ref fQBoth) = true)
    {odQCond anQCond : Option Addr} {slQCond : Array (Option Value)} {ocQCond kVQCond dcQCond pmQCond cdQCond ctQCond : Value}
    (aQCond : PySem.W.findIn K (.ref CQuestionReader) "read_condition" = some (some (.ref fQCond))) (iQCond : PySem.W.isFn K (.ref fQCond) = true)
    (lQCond : K.lookup fQCond = some ⟨ocQCond, odQCond, .func (PySem.W.fnOf "read_condition" "QuestionReader.read_condition" (defArgs sQCond) (defBody sQCond) (defScope sQCond) .none kVQCond dcQCond pmQCond anQCond cdQCond ctQCond), slQCond⟩) (cQCond : PySem.W.codeIn K cdQCond "QuestionReader.read_condition" = true) (kQCond : PySem.W.keepIn K (.ref fQCond) = true)
    (n_int : PySem.W.nsIn K mainGlobals "int" = some none)
    (n_len : PySem.W.nsIn K mainGlobals "len" = some none)
    (n_isinstance : PySem.W.nsIn K mainGlobals "isinstance" = some none)
    (n_str : PySem.W.nsIn K mainGlobals "str" = some none)
    (n_range : PySem.W.nsIn K mainGlobals "range" = some none)
    (n_all : PySem.W.nsIn K mainGlobals "all" = some none)
    (n_tuple : PySem.W.nsIn K mainGlobals "tuple" = some none)
    {t_LETTERS : Tok} (c_LETTERS : PySem.W.nsIn K mainGlobals "LETTERS" = some (some (.str LET t_LETTERS)))
    {t_DIGITS : Tok} (c_DIGITS : PySem.W.nsIn K mainGlobals "DIGITS" = some (some (.str DIG t_DIGITS)))
    {t_SIGNS : Tok} (c_SIGNS : PySem.W.nsIn K mainGlobals "SIGNS" = some (some (.str SIG t_SIGNS)))
    {t_LONGEST : Tok} (c_LONGEST : PySem.W.nsIn K mainGlobals "LONGEST" = some (some (.int 12 t_LONGEST)))
    {t_DEEPEST : Tok} (c_DEEPEST : PySem.W.nsIn K mainGlobals "DEEPEST" = some (some (.int 30 t_DEEPEST)))
    {t_KEYWORDS0 t_KEYWORDS1 t_KEYWORDS2 t_KEYWORDS3 t_KEYWORDS4 t_KEYWORDS5 t_KEYWORDS6 t_KEYWORDS7 t_KEYWORDS8 t_KEYWORDS9 t_KEYWORDS10 t_KEYWORDS11 t_KEYWORDS12 t_KEYWORDS13 t_KEYWORDS14 t_KEYWORDS15 : Tok} {z_KEYWORDS : Nat} {sl_KEYWORDS : Array (Option Value)} (c_KEYWORDS : PySem.W.nsIn K mainGlobals "KEYWORDS" = some (some (.ref a_KEYWORDS))) (l_KEYWORDS : K.lookup a_KEYWORDS = some ⟨.type "tuple", none, .seq #[.str "globals" t_KEYWORDS0, .str "kinds" t_KEYWORDS1, .str "keep" t_KEYWORDS2, .str "def" t_KEYWORDS3, .str "if" t_KEYWORDS4, .str "else" t_KEYWORDS5, .str "while" t_KEYWORDS6, .str "risk" t_KEYWORDS7, .str "raise" t_KEYWORDS8, .str "try" t_KEYWORDS9, .str "except" t_KEYWORDS10, .str "finally" t_KEYWORDS11, .str "undo" t_KEYWORDS12, .str "with" t_KEYWORDS13, .str "swallow" t_KEYWORDS14, .str "return" t_KEYWORDS15] z_KEYWORDS, sl_KEYWORDS⟩)
    {t_VERDICTS0 t_VERDICTS1 t_VERDICTS2 : Tok} {z_VERDICTS : Nat} {sl_VERDICTS : Array (Option Value)} (c_VERDICTS : PySem.W.nsIn K mainGlobals "VERDICTS" = some (some (.ref a_VERDICTS))) (l_VERDICTS : K.lookup a_VERDICTS = some ⟨.type "tuple", none, .seq #[.str "same" t_VERDICTS0, .str "sound" t_VERDICTS1, .str "changed" t_VERDICTS2] z_VERDICTS, sl_VERDICTS⟩)
    {t_FIELDS0 t_FIELDS1 t_FIELDS2 t_FIELDS3 t_FIELDS4 : Tok} {z_FIELDS : Nat} {sl_FIELDS : Array (Option Value)} (c_FIELDS : PySem.W.nsIn K mainGlobals "FIELDS" = some (some (.ref a_FIELDS))) (l_FIELDS : K.lookup a_FIELDS = some ⟨.type "tuple", none, .seq #[.str "function" t_FIELDS0, .str "place" t_FIELDS1, .str "kind" t_FIELDS2, .str "verdict" t_FIELDS3, .str "changes" t_FIELDS4] z_FIELDS, sl_FIELDS⟩)
    (sfC : PySem.W.selfFirst K CCondition = true) (xca : PySem.W.findIn K (.ref CCondition) "__class__" = some (some (.builtin "object.__class__"))) (xcg : PySem.W.specialIn K (.builtin "object.__class__") "__get__" = some (some (.builtin "getset_descriptor.__get__"))) (xct : PySem.W.takesIn K (.builtin "object.__class__") = some true) (xmo : PySem.W.mroIn K CCondition (.type "object") = some true) (xty : PySem.W.typeIn K (.ref CCondition) = some (.type "type")) (xnf : PySem.W.notFirst K CCondition (.type "tuple") = true)
    : ∃ fd : FuncData, (∀ (s : Shared) (v : Value), BindsTo s fd ⟨[v], []⟩ [("_law_script", v)]) ∧ ∀ base : Heap, K.In base → base.Ns mainGlobals mg → FnOk l.prog w K mg base CX0 37 fa fd PLaw (spLaw K) := by
  have e := hfa.symm.trans (PySem.W.mg_of X G aLaw)
  cases e
  have FMixed := fun_mk (st := sMixed) lMixed cMixed kMixed
  have bMixed := FMixed.binds (ps := PMixed) fun _ _ _ _ _ _ us hl => match us, hl with | [_, _, _], _ => rfl
  have gMixed := PySem.W.mg_of X G aMixed
  have FDraw := fun_mk (st := sDraw) lDraw cDraw kDraw
  have bDraw := FDraw.binds (ps := PDraw) fun _ _ _ _ _ _ us hl => match us, hl with | [_, _], _ => rfl
  have gDraw := PySem.W.mg_of X G aDraw
  have FPool := fun_mk (st := sPool) lPool cPool kPool
  have bPool := FPool.binds (ps := PPool) fun _ _ _ _ _ _ us hl => match us, hl with | [_], _ => rfl
  have gPool := PySem.W.mg_of X G aPool
  have FKindOf := fun_mk (st := sKindOf) lKindOf cKindOf kKindOf
  have bKindOf := FKindOf.binds (ps := PKindOf) fun _ _ _ _ _ _ us hl => match us, hl with | [_], _ => rfl
  have gKindOf := PySem.W.mg_of X G aKindOf
  have FEndRun := fun_mk (st := sEndRun) lEndRun cEndRun kEndRun
  have bEndRun := FEndRun.binds (ps := PEndRun) fun _ _ _ _ _ _ us hl => match us, hl with | [_, _], _ => rfl
  have gEndRun := PySem.W.mg_of X G aEndRun
  have FToksOf := fun_mk (st := sToksOf) lToksOf cToksOf kToksOf
  have bToksOf := FToksOf.binds (ps := PToksOf) fun _ _ _ _ _ _ us hl => match us, hl with | [_], _ => rfl
  have gToksOf := PySem.W.mg_of X G aToksOf
  have FNames := fun_mk (st := sNames) lNames cNames kNames
  have bNames := FNames.binds (ps := PNames) fun _ _ _ _ _ _ us hl => match us, hl with | [_], _ => rfl
  have gNames := PySem.W.mg_of X G aNames
  have FRdCond := fun_mk (st := sRdCond) lRdCond cRdCond kRdCond
  have bRdCond := FRdCond.binds (ps := PRdCond) fun _ _ _ _ _ _ us hl => match us, hl with | [_], _ => rfl
  have gRdCond := PySem.W.mg_of X G aRdCond
  have FLForm := fun_mk (st := sLForm) lLForm cLForm kLForm
  have bLForm := FLForm.binds (ps := PLForm) fun _ _ _ _ _ _ us hl => match us, hl with | [_, _, _], _ => rfl
  have gLForm := PySem.W.mg_of X G aLForm
  have FLRank := fun_mk (st := sLRank) lLRank cLRank kLRank
  have bLRank := FLRank.binds (ps := PLRank) fun _ _ _ _ _ _ us hl => match us, hl with | [_], _ => rfl
  have gLRank := PySem.W.mg_of X G aLRank
  have FLWords := fun_mk (st := sLWords) lLWords cLWords kLWords
  have bLWords := FLWords.binds (ps := PLWords) fun _ _ _ _ _ _ us hl => match us, hl with | [_, _, _], _ => rfl
  have gLWords := PySem.W.mg_of X G aLWords
  have FWhere := fun_mk (st := sWhere) lWhere cWhere kWhere
  have gWhere := PySem.W.mg_of X G aWhere
  have FLMade := fun_mk (st := sLMade) lLMade cLMade kLMade
  have bLMade := FLMade.binds (ps := PLMade) fun _ _ _ _ _ _ us hl => match us, hl with | [_], _ => rfl
  have gLMade := PySem.W.mg_of X G aLMade
  have FLIs := fun_mk (st := sLIs) lLIs cLIs kLIs
  have bLIs := FLIs.binds (ps := PLIs) fun _ _ _ _ _ _ us hl => match us, hl with | [_, _], _ => rfl
  have gLIs := PySem.W.mg_of X G aLIs
  have FLaw := fun_mk (st := sLaw) lLaw cLaw kLaw
  have bLaw := FLaw.binds (ps := PLaw) fun _ _ _ _ _ _ us hl => match us, hl with | [_], _ => rfl
  have gLaw := PySem.W.mg_of X G aLaw
  have gCondition := PySem.W.mg_of X G aCondition
  have clCondition : Cls K CCondition := ⟨pgCondition, hdCondition, poCondition, saCondition⟩
  have meCIni : Meth K CCondition "__init__" fCIni := ⟨aCIni, iCIni, kCIni⟩
  have FCIni := fun_mk (st := sCIni) lCIni cCIni kCIni
  have bCIni := FCIni.binds (ps := PCIni) fun _ _ _ _ _ _ us hl => match us, hl with | [_, _], _ => rfl
  have meCAnd : Meth K CCondition "__and__" fCAnd := ⟨aCAnd, iCAnd, kCAnd⟩
  have FCAnd := fun_mk (st := sCAnd) lCAnd cCAnd kCAnd
  have bCAnd := FCAnd.binds (ps := PCAnd) fun _ _ _ _ _ _ us hl => match us, hl with | [_, _], _ => rfl
  have meCOr : Meth K CCondition "__or__" fCOr := ⟨aCOr, iCOr, kCOr⟩
  have FCOr := fun_mk (st := sCOr) lCOr cCOr kCOr
  have bCOr := FCOr.binds (ps := PCOr) fun _ _ _ _ _ _ us hl => match us, hl with | [_, _], _ => rfl
  have meCInv : Meth K CCondition "__invert__" fCInv := ⟨aCInv, iCInv, kCInv⟩
  have FCInv := fun_mk (st := sCInv) lCInv cCInv kCInv
  have bCInv := FCInv.binds (ps := PCInv) fun _ _ _ _ _ _ us hl => match us, hl with | [_], _ => rfl
  have meCEq : Meth K CCondition "__eq__" fCEq := ⟨aCEq, iCEq, kCEq⟩
  have FCEq := fun_mk (st := sCEq) lCEq cCEq kCEq
  have bCEq := FCEq.binds (ps := PCEq) fun _ _ _ _ _ _ us hl => match us, hl with | [_, _], _ => rfl
  have meCPts : Meth K CCondition "parts" fCPts := ⟨aCPts, iCPts, kCPts⟩
  have FCPts := fun_mk (st := sCPts) lCPts cCPts kCPts
  have bCPts := FCPts.binds (ps := PCPts) fun _ _ _ _ _ _ us hl => match us, hl with | [_], _ => rfl
  have gQuestionReader := PySem.W.mg_of X G aQuestionReader
  have clQuestionReader : Cls K CQuestionReader := ⟨pgQuestionReader, hdQuestionReader, poQuestionReader, saQuestionReader⟩
  have meQIni : Meth K CQuestionReader "__init__" fQIni := ⟨aQIni, iQIni, kQIni⟩
  have FQIni := fun_mk (st := sQIni) lQIni cQIni kQIni
  have bQIni := FQIni.binds (ps := PQIni) fun _ _ _ _ _ _ us hl => match us, hl with | [_, _], _ => rfl
  have meQAcc : Meth K CQuestionReader "accept" fQAcc := ⟨aQAcc, iQAcc, kQAcc⟩
  have FQAcc := fun_mk (st := sQAcc) lQAcc cQAcc kQAcc
  have bQAcc := FQAcc.binds (ps := PQAcc) fun _ _ _ _ _ _ us hl => match us, hl with | [_, _], _ => rfl
  have meQEnd : Meth K CQuestionReader "read_end" fQEnd := ⟨aQEnd, iQEnd, kQEnd⟩
  have FQEnd := fun_mk (st := sQEnd) lQEnd cQEnd kQEnd
  have bQEnd := FQEnd.binds (ps := PQEnd) fun _ _ _ _ _ _ us hl => match us, hl with | [_], _ => rfl
  have meQVal : Meth K CQuestionReader "read_value" fQVal := ⟨aQVal, iQVal, kQVal⟩
  have FQVal := fun_mk (st := sQVal) lQVal cQVal kQVal
  have bQVal := FQVal.binds (ps := PQVal) fun _ _ _ _ _ _ us hl => match us, hl with | [_, _], _ => rfl
  have meQAtom : Meth K CQuestionReader "read_atom" fQAtom := ⟨aQAtom, iQAtom, kQAtom⟩
  have FQAtom := fun_mk (st := sQAtom) lQAtom cQAtom kQAtom
  have bQAtom := FQAtom.binds (ps := PQAtom) fun _ _ _ _ _ _ us hl => match us, hl with | [_], _ => rfl
  have meQOne : Meth K CQuestionReader "read_one" fQOne := ⟨aQOne, iQOne, kQOne⟩
  have FQOne := fun_mk (st := sQOne) lQOne cQOne kQOne
  have bQOne := FQOne.binds (ps := PQOne) fun _ _ _ _ _ _ us hl => match us, hl with | [_], _ => rfl
  have meQBoth : Meth K CQuestionReader "read_both" fQBoth := ⟨aQBoth, iQBoth, kQBoth⟩
  have FQBoth := fun_mk (st := sQBoth) lQBoth cQBoth kQBoth
  have bQBoth := FQBoth.binds (ps := PQBoth) fun _ _ _ _ _ _ us hl => match us, hl with | [_], _ => rfl
  have meQCond : Meth K CQuestionReader "read_condition" fQCond := ⟨aQCond, iQCond, kQCond⟩
  have FQCond := fun_mk (st := sQCond) lQCond cQCond kQCond
  have bQCond := FQCond.binds (ps := PQCond) fun _ _ _ _ _ _ us hl => match us, hl with | [_], _ => rfl
  have m_int := PySem.W.mg_none_of X G n_int
  have m_len := PySem.W.mg_none_of X G n_len
  have m_isinstance := PySem.W.mg_none_of X G n_isinstance
  have m_str := PySem.W.mg_none_of X G n_str
  have m_range := PySem.W.mg_none_of X G n_range
  have m_all := PySem.W.mg_none_of X G n_all
  have m_tuple := PySem.W.mg_none_of X G n_tuple
  have m_LETTERS := PySem.W.mg_of X G c_LETTERS
  have m_DIGITS := PySem.W.mg_of X G c_DIGITS
  have m_SIGNS := PySem.W.mg_of X G c_SIGNS
  have m_LONGEST := PySem.W.mg_of X G c_LONGEST
  have m_DEEPEST := PySem.W.mg_of X G c_DEEPEST
  have m_KEYWORDS := PySem.W.mg_of X G c_KEYWORDS
  have m_VERDICTS := PySem.W.mg_of X G c_VERDICTS
  have m_FIELDS := PySem.W.mg_of X G c_FIELDS

  have T0 : TxPool mg := ⟨m_int, m_len⟩
  have TT : TxTok K mg a_KEYWORDS := { n_len := m_len, c_LETTERS := ⟨_, m_LETTERS, _, rfl⟩, c_DIGITS := ⟨_, m_DIGITS, _, rfl⟩, c_SIGNS := ⟨_, m_SIGNS, _, rfl⟩, c_KEYWORDS := ⟨_, m_KEYWORDS, rfl⟩, kws := sq_tup (its := _) l_KEYWORDS (by repeat (first | exact Paired.nil | refine Paired.cons ⟨_, rfl⟩ ?_)) (by decide) }
  have TF : TupC K mg "FIELDS" a_FIELDS FLD := ⟨⟨_, m_FIELDS, rfl⟩, sq_tup (its := _) l_FIELDS (by repeat (first | exact Paired.nil | refine Paired.cons ⟨_, rfl⟩ ?_)) (by decide), ⟨_, l_FIELDS, rfl, rfl⟩⟩
  have TV : TupC K mg "VERDICTS" a_VERDICTS VDS := ⟨⟨_, m_VERDICTS, rfl⟩, sq_tup (its := _) l_VERDICTS (by repeat (first | exact Paired.nil | refine Paired.cons ⟨_, rfl⟩ ?_)) (by decide), ⟨_, l_VERDICTS, rfl, rfl⟩⟩
  have TQm : TxQm mg := { n_isinstance := m_isinstance, n_str := m_str, n_len := m_len, n_int := m_int, c_LONGEST := ⟨_, m_LONGEST, _, rfl⟩, c_DEEPEST := ⟨_, m_DEEPEST, _, rfl⟩ }
  have TC : TxC K CCondition := ⟨clCondition, noCondition_form⟩
  have TQ : TxQ K CQuestionReader := ⟨clQuestionReader, noQuestionReader_tokens, noQuestionReader_at, noQuestionReader_depth⟩
  have TLF : TxF mg := ⟨m_int, m_len, m_str⟩
  have TCT : ClsT K CCondition := { cl := clCondition, ca := xca, cg := xcg, ct := xct, mo := xmo, mc := kit_self _ _ }
  refine ⟨PySem.W.fnOf "law" "law" (defArgs sLaw) (defBody sLaw) (defScope sLaw) .none kVLaw dcLaw pmLaw anLaw cdLaw ctLaw, fun s v => .of_eq rfl, fun base kB gB => ?_⟩
  have GM : Has l.prog w K mg base CX0 1 "_law_mixed" PMixed spMixed := ⟨_, _, ok_Mixed FMixed T0, gMixed, kMixed, bMixed⟩
  have GD : Has l.prog w K mg base CX0 2 "_law_draw" PDraw spDraw := ⟨_, _, ok_Draw FDraw T0 GM, gDraw, kDraw, bDraw⟩
  have GP : Has l.prog w K mg base CX0 1 "_law_pool" PPool (spPool K) := ⟨_, _, ok_Pool FPool T0, gPool, kPool, bPool⟩
  have GN : Has l.prog w K mg base CX0 3 "_law_names" PNames spNames := ⟨_, _, ok_Names FNames ⟨m_str, m_range⟩ GD, gNames, kNames, bNames⟩
  have GK : Has l.prog w K mg base CX0 1 "kind_of" PKindOf spKind := ⟨_, _, ok_KindOf FKindOf TT, gKindOf, kKindOf, bKindOf⟩
  have GE : Has l.prog w K mg base CX0 1 "end_of_run" PEndRun spEnd := ⟨_, _, ok_EndRun FEndRun TT, gEndRun, kEndRun, bEndRun⟩
  have GTo : Has l.prog w K mg base CX0 2 "tokens_of" PToksOf spToks := ⟨_, _, ok_ToksOf FToksOf TT GK GE, gToksOf, kToksOf, bToksOf⟩
  have HC : HasC l.prog w K mg base CX0 1 "Condition" CCondition PCIni (spCIni CCondition) := ⟨_, _, ⟨mkCondition, aCIni, iCIni, kcCondition⟩, ok_CIni FCIni TC, gCondition, bCIni⟩
  have MAn : HasM l.prog w K mg base CX0 3 CCondition "__and__" PCAnd (spBin CCondition false) := ⟨_, _, meCAnd, ok_CAnd FCAnd HC, bCAnd⟩
  have MOr : HasM l.prog w K mg base CX0 3 CCondition "__or__" PCOr (spBin CCondition true) := ⟨_, _, meCOr, ok_COr FCOr HC, bCOr⟩
  have MIn : HasM l.prog w K mg base CX0 3 CCondition "__invert__" PCInv (spInv CCondition) := ⟨_, _, meCInv, ok_CInv FCInv HC, bCInv⟩
  have MPt : HasM l.prog w K mg base CX0 1 CCondition "parts" PCPts (spCPts CCondition) := ⟨_, _, meCPts, ok_CPts FCPts TC, bCPts⟩
  have MQ1 : HasM l.prog w K mg base CX0 3 CCondition "__eq__" PCEq (spCEq K CCondition 1) := ⟨_, _, meCEq, ok_CEq FCEq TC TCT m_isinstance gCondition meCEq bCEq 1, bCEq⟩
  have MQ5 : HasM l.prog w K mg base CX0 11 CCondition "__eq__" PCEq (spCEq K CCondition 5) := ⟨_, _, meCEq, ok_CEq FCEq TC TCT m_isinstance gCondition meCEq bCEq 5, bCEq⟩
  have WB := fun (cdv : Value) (A : Around) (outer : List Env) (s : Shared) (H : Hp) (vs : List V) (Q : VK) (E : XK) => okb_Where (P := l.prog) (w := w) (mg := mg) (base := base) (f := fWhere) TF HC MAn sfC cdv A outer s H vs Q E
  have W : WhK l.prog w K mg base CCondition fWhere := {
    m := gWhere
    kp := kWhere
    f0 := Aon.Fun.okKw FWhere (ks := []) scWhereK (by decide) (by decide) (fun _ _ _ _ _ _ us hl => match us, hl with | [], _ => rfl) WB
    f1 := fun z hz => by
      unfold FLD at hz
      simp only [List.mem_cons, List.not_mem_nil, or_false] at hz
      rcases hz with rfl | rfl | rfl | rfl | rfl
      · exact Aon.Fun.okKw FWhere (ks := ["function"]) scWhereK (by decide +kernel) (by decide) (fun _ _ _ _ _ _ us hl => match us, hl with | [_], _ => rfl) WB
      · exact Aon.Fun.okKw FWhere (ks := ["place"]) scWhereK (by decide +kernel) (by decide) (fun _ _ _ _ _ _ us hl => match us, hl with | [_], _ => rfl) WB
      · exact Aon.Fun.okKw FWhere (ks := ["kind"]) scWhereK (by decide +kernel) (by decide) (fun _ _ _ _ _ _ us hl => match us, hl with | [_], _ => rfl) WB
      · exact Aon.Fun.okKw FWhere (ks := ["verdict"]) scWhereK (by decide +kernel) (by decide) (fun _ _ _ _ _ _ us hl => match us, hl with | [_], _ => rfl) WB
      · exact Aon.Fun.okKw FWhere (ks := ["changes"]) scWhereK (by decide +kernel) (by decide) (fun _ _ _ _ _ _ us hl => match us, hl with | [_], _ => rfl) WB
    f3 := Aon.Fun.okKw FWhere (ks := ["kind", "place", "function"]) scWhereK (by decide +kernel) (by decide) (fun _ _ _ _ _ _ us hl => match us, hl with | [_, _, _], _ => rfl) WB }
  have HQ : HasC l.prog w K mg base CX0 3 "QuestionReader" CQuestionReader PQIni (spQIni CQuestionReader) := ⟨_, _, ⟨mkQuestionReader, aQIni, iQIni, kcQuestionReader⟩, ok_QIni FQIni TQm TQ GTo, gQuestionReader, bQIni⟩
  have MA : HasM l.prog w K mg base CX0 1 CQuestionReader "accept" PQAcc (spQAcc CQuestionReader) := ⟨_, _, meQAcc, ok_QAcc FQAcc TQ, bQAcc⟩
  have ME : HasM l.prog w K mg base CX0 1 CQuestionReader "read_end" PQEnd (spQEnd CQuestionReader) := ⟨_, _, meQEnd, ok_QEnd FQEnd TQ, bQEnd⟩
  have MV : HasM l.prog w K mg base CX0 1 CQuestionReader "read_value" PQVal (spQVal CQuestionReader) := ⟨_, _, meQVal, ok_QVal FQVal TQm TQ TV, bQVal⟩
  have MT : HasM l.prog w K mg base CX0 3 CQuestionReader "read_atom" PQAtom (spQAtom CQuestionReader CCondition) := ⟨_, _, meQAtom, ok_QAtom FQAtom TQ TF MA MV HC, bQAtom⟩
  have Y : TxQs l.prog w K mg base CQuestionReader CCondition := ⟨TQ, TQm, MA, MT, MAn, MOr, MIn, sfC⟩
  have M1 : HasM l.prog w K mg base CX0 (3 * 10 + 3) CQuestionReader "read_one" PQOne (spQRd CQuestionReader CCondition (fun ts => OneAt ts 10) 10) := ⟨_, _, meQOne, ok_QOne FQOne FQBoth FQCond Y meQOne meQBoth meQCond bQOne bQBoth bQCond 10, bQOne⟩
  have M2 : HasM l.prog w K mg base CX0 (3 * 10 + 4) CQuestionReader "read_both" PQBoth (spQRd CQuestionReader CCondition (fun ts => BothA ts (OneAt ts 10)) 10) := ⟨_, _, meQBoth, ok_QBoth FQBoth Y M1, bQBoth⟩
  have M3 : HasM l.prog w K mg base CX0 (3 * 10 + 5) CQuestionReader "read_condition" PQCond (spQRd CQuestionReader CCondition (fun ts => CondA ts (OneAt ts 10)) 10) := ⟨_, _, meQCond, ok_QCond FQCond Y M2, bQCond⟩
  have GR : Has l.prog w K mg base CX0 36 "read_condition" PRdCond (spRdCond CCondition 10) := ⟨_, _, ok_RdCond FRdCond TQ (by decide) HQ M3 ME, gRdCond, kRdCond, bRdCond⟩
  have GF : Has l.prog w K mg base CX0 7 "_law_form" PLForm (spForm 5) := ⟨_, _, ok_LForm FLForm TLF GD gLForm kLForm bLForm 5, gLForm, kLForm, bLForm⟩
  have GRk : Has l.prog w K mg base CX0 1 "_law_rank" PLRank spRank := ⟨_, _, ok_LRank FLRank, gLRank, kLRank, bLRank⟩
  have GW : Has l.prog w K mg base CX0 6 "_law_words" PLWords (spWords 5) := ⟨_, _, ok_LWords FLWords TLF GRk gLWords kLWords bLWords 5, gLWords, kLWords, bLWords⟩
  have GMd : Has l.prog w K mg base CX0 9 "_law_made" PLMade (spMade CCondition 5) := ⟨_, _, ok_LMade FLMade W MAn MOr MIn sfC gLMade kLMade bLMade 5, gLMade, kLMade, bLMade⟩
  have GIs : Has l.prog w K mg base CX0 10 "_law_is" PLIs (spIs CCondition 6) := ⟨_, _, ok_LIs FLIs ⟨m_isinstance, m_tuple, m_len, m_all, m_range⟩ TC MPt MQ1 gLIs kLIs bLIs 6, gLIs, kLIs, bLIs⟩
  exact ok_Law FLaw TC TCT (kit_no hdCondition xty xnf) xnf sfC GP GD GN GF GW GMd GIs W MQ5 MAn GR
theorem walk {l : PySem.W.OpenLaw} {q : Program} {loose : List Str} {XP : (Str → Option Value) → Heap → Prop} {YP : World → Heap → Prop} {d : DefRec} {K : Params → PySem.W.Frag} (hn : l.most = some 63) (hdf : d.params.defaults = [])
    (hY : ∀ (w : World) (h : Heap), YP w h → (K w.params).In h)
    (F : ∀ (w : World) (mg : Str → Option Value) (fa : Addr) (h : Heap), (K w.params).In h → h.Ns mainGlobals mg → mg d.name = some (.ref fa) →
      ∃ fd : FuncData, (∀ (s : Shared) (u : Value), BindsTo s fd ⟨[u], []⟩ [("_law_script", u)]) ∧ ∀ base : Heap, (K w.params).In base → base.Ns mainGlobals mg → FnOk l.prog w (K w.params) mg base CX0 37 fa fd PLaw (spLaw (K w.params))) :
    PySem.W.WalkO q loose XP YP l.row.toRowW d [] (fun f vs => PySem.call f vs) :=
  L2.walk_of (n := 63) (k := 37) (x := "_law_script") (CX := fun _ => CX0) (sp := fun w => spLaw (K w.params)) hn (by decide) hdf ⟨rfl, by decide, by decide⟩ hY F (fun _ _ a ns hl _ hS => ⟨a, ns, rfl, hS, hl, fun _ => rfl⟩) fun _ _ _ _ _ z => z
end Aon
open PySem PySem.W PyProof.Rows
set_option maxRecDepth 100000 in
set_option maxHeartbeats 0 in
theorem PySem.Challenge.cw_allornothing_k33_texts_of_conditions_holds : PySem.Challenge.rw_allornothing_k33_texts_of_conditions.Holds := by
  w_on; o_law; k_head; (case hw => w_witness2)
  k_fill
  refine Aon.walk (l := PySem.Challenge.rw_allornothing_k33_texts_of_conditions) rfl rfl (fun w h Y => PySem.W.kIn_of Y) ?F
  case F =>
    intro w mg fa h KX G hmg
    refine' Aon.all_mk KX G hmg ?aMixed ?lMixed ?cMixed ?kMixed ?aDraw ?lDraw ?cDraw ?kDraw ?aPool ?lPool ?cPool ?kPool ?aKindOf ?lKindOf ?cKindOf ?kKindOf ?aEndRun ?lEndRun ?cEndRun ?kEndRun ?aToksOf ?lToksOf ?cToksOf ?kToksOf ?aNames ?lNames ?cNames ?kNames ?aRdCond ?lRdCond ?cRdCond ?kRdCond ?aLForm ?lLForm ?cLForm ?kLForm ?aLRank ?lLRank ?cLRank ?kLRank ?aLWords ?lLWords ?cLWords ?kLWords ?aWhere ?lWhere ?cWhere ?kWhere ?aLMade ?lLMade ?cLMade ?kLMade ?aLIs ?lLIs ?cLIs ?kLIs ?aLaw ?lLaw ?cLaw ?kLaw ?aCondition ?pgCondition ?hdCondition ?poCondition ?saCondition ?mkCondition ?kcCondition ?noCondition_form ?aCIni ?iCIni ?lCIni ?cCIni ?kCIni ?aCAnd ?iCAnd ?lCAnd ?cCAnd ?kCAnd ?aCOr ?iCOr ?lCOr ?cCOr ?kCOr ?aCInv ?iCInv ?lCInv ?cCInv ?kCInv ?aCEq ?iCEq ?lCEq ?cCEq ?kCEq ?aCPts ?iCPts ?lCPts ?cCPts ?kCPts ?aQuestionReader ?pgQuestionReader ?hdQuestionReader ?poQuestionReader ?saQuestionReader ?mkQuestionReader ?kcQuestionReader ?noQuestionReader_tokens ?noQuestionReader_at ?noQuestionReader_depth ?aQIni ?iQIni ?lQIni ?cQIni ?kQIni ?aQAcc ?iQAcc ?lQAcc ?cQAcc ?kQAcc ?aQEnd ?iQEnd ?lQEnd ?cQEnd ?kQEnd ?aQVal ?iQVal ?lQVal ?cQVal ?kQVal ?aQAtom ?iQAtom ?lQAtom ?cQAtom ?kQAtom ?aQOne ?iQOne ?lQOne ?cQOne ?kQOne ?aQBoth ?iQBoth ?lQBoth ?cQBoth ?kQBoth ?aQCond ?iQCond ?lQCond ?cQCond ?kQCond ?n_int ?n_len ?n_isinstance ?n_str ?n_range ?n_all ?n_tuple ?c_LETTERS ?c_DIGITS ?c_SIGNS ?c_LONGEST ?c_DEEPEST ?c_KEYWORDS ?l_KEYWORDS ?c_VERDICTS ?l_VERDICTS ?c_FIELDS ?l_FIELDS ?sfC ?xca ?xcg ?xct ?xmo ?xty ?xnf
    (case aMixed => k_is)
    (case lMixed => k_is)
    (case cMixed => k_is)
    (case kMixed => k_is)
    (case aDraw => k_is)
    (case lDraw => k_is)
    (case cDraw => k_is)
    (case kDraw => k_is)
    (case aPool => k_is)
    (case lPool => k_is)
    (case cPool => k_is)
    (case kPool => k_is)
    (case aKindOf => k_is)
    (case lKindOf => k_is)
    (case cKindOf => k_is)
    (case kKindOf => k_is)
    (case aEndRun => k_is)
    (case lEndRun => k_is)
    (case cEndRun => k_is)
    (case kEndRun => k_is)
    (case aToksOf => k_is)
    (case lToksOf => k_is)
    (case cToksOf => k_is)
    (case kToksOf => k_is)
    (case aNames => k_is)
    (case lNames => k_is)
    (case cNames => k_is)
    (case kNames => k_is)
    (case aRdCond => k_is)
    (case lRdCond => k_is)
    (case cRdCond => k_is)
    (case kRdCond => k_is)
    (case aLForm => k_is)
    (case lLForm => k_is)
    (case cLForm => k_is)
    (case kLForm => k_is)
    (case aLRank => k_is)
    (case lLRank => k_is)
    (case cLRank => k_is)
    (case kLRank => k_is)
    (case aLWords => k_is)
    (case lLWords => k_is)
    (case cLWords => k_is)
    (case kLWords => k_is)
    (case aWhere => k_is)
    (case lWhere => k_is)
    (case cWhere => k_is)
    (case kWhere => k_is)
    (case aLMade => k_is)
    (case lLMade => k_is)
    (case cLMade => k_is)
    (case kLMade => k_is)
    (case aLIs => k_is)
    (case lLIs => k_is)
    (case cLIs => k_is)
    (case kLIs => k_is)
    (case aLaw => k_is)
    (case lLaw => k_is)
    (case cLaw => k_is)
    (case kLaw => k_is)
    (case aCondition => k_is)
    (case pgCondition => k_is)
    (case hdCondition => k_is)
    (case poCondition => k_is)
    (case saCondition => k_is)
    (case mkCondition => k_is)
    (case kcCondition => k_is)
    (case noCondition_form => k_is)
    (case aCIni => k_is)
    (case iCIni => k_is)
    (case lCIni => k_is)
    (case cCIni => k_is)
    (case kCIni => k_is)
    (case aCAnd => k_is)
    (case iCAnd => k_is)
    (case lCAnd => k_is)
    (case cCAnd => k_is)
    (case kCAnd => k_is)
    (case aCOr => k_is)
    (case iCOr => k_is)
    (case lCOr => k_is)
    (case cCOr => k_is)
    (case kCOr => k_is)
    (case aCInv => k_is)
    (case iCInv => k_is)
    (case lCInv => k_is)
    (case cCInv => k_is)
    (case kCInv => k_is)
    (case aCEq => k_is)
    (case iCEq => k_is)
    (case lCEq => k_is)
    (case cCEq => k_is)
    (case kCEq => k_is)
    (case aCPts => k_is)
    (case iCPts => k_is)
    (case lCPts => k_is)
    (case cCPts => k_is)
    (case kCPts => k_is)
    (case aQuestionReader => k_is)
    (case pgQuestionReader => k_is)
    (case hdQuestionReader => k_is)
    (case poQuestionReader => k_is)
    (case saQuestionReader => k_is)
    (case mkQuestionReader => k_is)
    (case kcQuestionReader => k_is)
    (case noQuestionReader_tokens => k_is)
    (case noQuestionReader_at => k_is)
    (case noQuestionReader_depth => k_is)
    (case aQIni => k_is)
    (case iQIni => k_is)
    (case lQIni => k_is)
    (case cQIni => k_is)
    (case kQIni => k_is)
    (case aQAcc => k_is)
    (case iQAcc => k_is)
    (case lQAcc => k_is)
    (case cQAcc => k_is)
    (case kQAcc => k_is)
    (case aQEnd => k_is)
    (case iQEnd => k_is)
    (case lQEnd => k_is)
    (case cQEnd => k_is)
    (case kQEnd => k_is)
    (case aQVal => k_is)
    (case iQVal => k_is)
    (case lQVal => k_is)
    (case cQVal => k_is)
    (case kQVal => k_is)
    (case aQAtom => k_is)
    (case iQAtom => k_is)
    (case lQAtom => k_is)
    (case cQAtom => k_is)
    (case kQAtom => k_is)
    (case aQOne => k_is)
    (case iQOne => k_is)
    (case lQOne => k_is)
    (case cQOne => k_is)
    (case kQOne => k_is)
    (case aQBoth => k_is)
    (case iQBoth => k_is)
    (case lQBoth => k_is)
    (case cQBoth => k_is)
    (case kQBoth => k_is)
    (case aQCond => k_is)
    (case iQCond => k_is)
    (case lQCond => k_is)
    (case cQCond => k_is)
    (case kQCond => k_is)
    (case n_int => k_is)
    (case n_len => k_is)
    (case n_isinstance => k_is)
    (case n_str => k_is)
    (case n_range => k_is)
    (case n_all => k_is)
    (case n_tuple => k_is)
    (case c_LETTERS => k_is)
    (case c_DIGITS => k_is)
    (case c_SIGNS => k_is)
    (case c_LONGEST => k_is)
    (case c_DEEPEST => k_is)
    (case c_KEYWORDS => k_is)
    (case l_KEYWORDS => k_is)
    (case c_VERDICTS => k_is)
    (case l_VERDICTS => k_is)
    (case c_FIELDS => k_is)
    (case l_FIELDS => k_is)
    (case sfC => k_is)
    (case xca => k_is)
    (case xcg => k_is)
    (case xct => k_is)
    (case xmo => k_is)
    (case xty => k_is)
    (case xnf => k_is)
#print axioms PySem.Challenge.cw_allornothing_k33_texts_of_conditions_holds

