import PyProof.Rows.All
import Wide.All
import OpenK.AllK
import Wide.FinOn
import HandS.ForMost
import HandS.Wide
import HandS.IsInst
import HandS.Walk
import HandS.Flow
import HandS.Property
import HandS.Star
import HandS.DictComp
import HandS.Conv
import PyProof.GenRules
import HandS.GenList
import HandS.Codes
import HandS.OwnEq
import HandS.TupLe
import PySem.Challenge.RW_allornothing_k28_safe_events
set_option Elab.async false
set_option linter.all false
set_option maxRecDepth 100000
set_option maxHeartbeats 4000000
namespace Aon
open PySem L2
def topS (i : Nat) : Stmt := PySem.Challenge.pw_allornothing_k28_safe_events.main.body.getD i (.Pass ⟨0, 0, 0, 0⟩)

/-! ### words of this text, over HandS -/
theorem bb_int : bootBuiltins "int" = some (.type "int") := by decide +kernel
theorem bb_str : bootBuiltins "str" = some (.type "str") := by decide +kernel
theorem bb_bool : bootBuiltins "bool" = some (.type "bool") := by decide +kernel
theorem bb_list : bootBuiltins "list" = some (.type "list") := by decide +kernel
theorem bb_tuple : bootBuiltins "tuple" = some (.type "tuple") := by decide +kernel
theorem bb_len : bootBuiltins "len" = some (.builtin "len") := by decide +kernel
theorem bb_all : bootBuiltins "all" = some (.builtin "all") := by decide +kernel
theorem bb_isinstance : bootBuiltins "isinstance" = some (.builtin "isinstance") := by decide +kernel
/-- a def that stands under its name: its promise, and how it is called -/
structure Has (P : Program) (w : World) (K : PySem.W.Frag) (mg : Str → Option Value) (base : Heap) (CX : CXT) (k : Nat) (x : Str) (ps : List Str) (sp : Sp) : Prop where
  ex : ∃ (f : Addr) (fd : FuncData), FnOk P w K mg base CX k f fd ps sp ∧ mg x = some (.ref f) ∧ PySem.W.keepIn K (.ref f) = true ∧ Binds K fd ps []
section
variable {X : Cx}
theorem pe_callH {CX : CXT} {k : Nat} {x : Str} {ps : List Str} {sp : Sp} {E : XK} {e : Expr} {es : List Expr} {t : TA} {p pos : Pos} (F : Has X.prog X.w X.K X.mg X.base CX k x ps sp) (hr : Room k X.A) (hg : Gl X x) (hx : Passes CX X E) (ha : PA X (e :: es) t)
    (hd : (x == ("__debug__" : Str)) = false := by decide) (he : starEach (e :: es) X.env = (false, eval e X.env) :: starEach es X.env := by rfl) (hpl : (backTo pos (starEach es X.env)).any (·.1) = false := by rfl) :
    PE X (.Call (.Name x p) (e :: es) [] pos) (tCall sp [] E t) := by
  obtain ⟨f, fd, F, m, kp, b⟩ := F.ex
  exact pe_call F hr hg m kp b .nil hx ha hd he hpl
theorem pe_callH0 {CX : CXT} {k : Nat} {x : Str} {ps : List Str} {sp : Sp} {E : XK} {p pos : Pos} (F : Has X.prog X.w X.K X.mg X.base CX k x ps sp) (hr : Room k X.A) (hg : Gl X x) (hx : Passes CX X E) (hd : (x == ("__debug__" : Str)) = false := by decide) :
    PE X (.Call (.Name x p) [] [] pos) (tCall sp [] E tNil) := by
  obtain ⟨f, fd, F, m, kp, b⟩ := F.ex
  exact pe_call0 F hr hg m kp b .nil hx hd
theorem pe_globE {x : Str} {v : V} {pos : Pos} (hg : Gl X x) (hm : ∃ u, X.mg x = some u ∧ RelV v u) (hd : (x == ("__debug__" : Str)) = false := by decide) : PE X (.Name x pos) (tC v) := by
  obtain ⟨u, m, r⟩ := hm
  exact pe_glob hg m r hd
end
/-- a method of the class at C; a class under its name -/
structure HasM (P : Program) (w : World) (K : PySem.W.Frag) (mg : Str → Option Value) (base : Heap) (CX : CXT) (k : Nat) (C : Addr) (m : Str) (ps : List Str) (sp : Sp) : Prop where
  ex : ∃ (f : Addr) (fd : FuncData), Meth K C m f ∧ FnOk P w K mg base CX k f fd ps sp ∧ Binds K fd ps []
structure HasC (P : Program) (w : World) (K : PySem.W.Frag) (mg : Str → Option Value) (base : Heap) (CX : CXT) (k : Nat) (x : Str) (C : Addr) (ps : List Str) (sp : Sp) : Prop where
  ex : ∃ (f : Addr) (fd : FuncData), Mk K C f ∧ FnOk P w K mg base CX k f fd ps sp ∧ mg x = some (.ref C) ∧ Binds K fd ps []
section
variable {X : Cx}
theorem pe_methH {CX : CXT} {k : Nat} {C : Addr} {m : Str} {ps : List Str} {sp : Sp} {E : XK} {o e : Expr} {es : List Expr} {ta : TE} {t : TA} {apos pos : Pos} {pl : Sem Bool} (he : PE X o ta) (c : Cls X.K C) (M : HasM X.prog X.w X.K X.mg X.base CX k C m ps sp) (hr : Room k X.A) (hx : Passes CX X E)
    (ha : PA X (e :: es) t) (hst : starEach (e :: es) X.env = (false, eval e X.env) :: starEach es X.env := by rfl) (hpl : (backTo pos (starEach es X.env)).any (·.1) = false := by rfl)
    (ht : eval (.Call (.Attribute o m apos) (e :: es) [] pos) X.env = (do
      let v ← eval o X.env
      standAt apos.atName
      let (g, r) ← holding [v] (getMethod v m pl)
      callWith pos g r (backTo pos (starEach (e :: es) X.env)) (backToKw pos (keywordEach [] X.env))) := by rfl) : PE X (.Call (.Attribute o m apos) (e :: es) [] pos) (tMeth C m sp [] E ta t) := by
  obtain ⟨f, fd, hm, F, b⟩ := M.ex
  exact pe_meth (pl := pl) he c hm F hr b .nil hx ha hst hpl ht
theorem pe_methH0 {CX : CXT} {k : Nat} {C : Addr} {m : Str} {ps : List Str} {sp : Sp} {E : XK} {o : Expr} {ta : TE} {apos pos : Pos} {pl : Sem Bool} (he : PE X o ta) (c : Cls X.K C) (M : HasM X.prog X.w X.K X.mg X.base CX k C m ps sp) (hr : Room k X.A) (hx : Passes CX X E)
    (ht : eval (.Call (.Attribute o m apos) [] [] pos) X.env = (do
      let v ← eval o X.env
      standAt apos.atName
      let (g, r) ← holding [v] (getMethod v m pl)
      callWith pos g r (backTo pos (starEach [] X.env)) (backToKw pos (keywordEach [] X.env))) := by rfl) : PE X (.Call (.Attribute o m apos) [] [] pos) (tMeth C m sp [] E ta tNil) := by
  obtain ⟨f, fd, hm, F, b⟩ := M.ex
  exact pe_meth0 (pl := pl) he c hm F hr b .nil hx ht
theorem pe_makeH {CX : CXT} {k : Nat} {x : Str} {C : Addr} {ps : List Str} {sp : Sp} {E : XK} {e : Expr} {es : List Expr} {t : TA} {p pos : Pos} (M : HasC X.prog X.w X.K X.mg X.base CX k x C ps sp) (hr : Room (k + 1) X.A) (hg : Gl X x) (hx : Passes CX X E) (ha : PA X (e :: es) t)
    (hd : (x == ("__debug__" : Str)) = false := by decide) (he : starEach (e :: es) X.env = (false, eval e X.env) :: starEach es X.env := by rfl) (hpl : (backTo pos (starEach es X.env)).any (·.1) = false := by rfl) :
    PE X (.Call (.Name x p) (e :: es) [] pos) (tMake C sp [] E t) := by
  obtain ⟨f, fd, mk, F, m, b⟩ := M.ex
  exact pe_make mk F hr hg m b .nil hx ha hd he hpl
theorem pe_propH {CX : CXT} {k : Nat} {C p : Addr} {f : Str} {ps : List Str} {sp : Sp} {E : XK} {e : Expr} {ta : TE} {pos : Pos} (he : PE X e ta) (c : Cls X.K C) (M : ∃ (g : Addr) (fd : FuncData), PropOf X.K C f p g ∧ FnOk X.prog X.w X.K X.mg X.base CX k g fd ps sp ∧ Binds X.K fd ps []) (hr : Room (k + 1) X.A) (hx : Passes CX X.nox E)
    (hab : attributeBase e f X.env (eval e X.env) = eval e X.env := by rfl) : PE X (.Attribute e f pos) (tProp C sp [] E ta) := by
  obtain ⟨g, fd, hp, F, b⟩ := M
  exact pe_prop he c hp F hr b .nil hx hab
end
/-- all but p and c stands -/
def But (p c : Addr) (H H' : Hp) : Prop := ∀ b o, H b = some o → b ≠ p → b ≠ c → H' b = some o
theorem But.refl {p c : Addr} {H : Hp} : But p c H H := fun _ _ e _ _ => e
theorem But.trans {p c : Addr} {H H1 H2 : Hp} (a : But p c H H1) (b : But p c H1 H2) : But p c H H2 := fun x o e h1 h2 => b x o (a x o e h1 h2) h1 h2
theorem iteE {c : Bool} {A B : Prop} (hc : c = false) (k : B) : if c = true then A else B := by
  rw [hc]
  exact iteF k
theorem iteS {c : Bool} {A B : Prop} (hc : c = true) (k : A) : if c = true then A else B := by
  rw [hc]
  exact iteT k

def dOf : V → PyData
  | .non => .none | .bl b => .bool b | .int i => .int i | .str z => .str z | _ => .none
theorem dp_flat {K : PySem.W.Frag} {H : Hp} {v : V} (h : flatV v = true) : Dp K H v (dOf v) := by
  cases v with
  | non => exact .non
  | bl b => exact .bl b
  | int i => exact .int i
  | str z => exact .str z
  | _ => cases h
theorem dpAll_flat {K : PySem.W.Frag} {H : Hp} : ∀ {xs : List V}, xs.all flatV = true → DpAll K H xs (xs.map dOf)
  | [], _ => .nil
  | x :: xs, h => by
    rw [List.all_cons, Bool.and_eq_true] at h
    exact .cons (dp_flat h.1) (dpAll_flat h.2)
/-! shapes -/
def okV : V → Bool
  | .str z => PyData.strOk z
  | _ => true
theorem lay_dOf {v : V} (h : okV v = true) : (dOf v).canLay0 = true := by
  cases v with
  | str z => simpa [dOf, PyData.canLay0, okV] using h
  | _ => simp [dOf, PyData.canLay0]
theorem layAll_dOf : ∀ {xs : List V}, xs.all okV = true → PyData.canLayAll0 (xs.map dOf) = true
  | [], _ => by simp [PyData.canLayAll0]
  | x :: xs, h => by
    rw [List.all_cons, Bool.and_eq_true] at h
    simp only [List.map_cons, PyData.canLayAll0, Bool.and_eq_true]
    exact ⟨lay_dOf h.1, layAll_dOf h.2⟩
theorem depth_dOf (v : V) : (dOf v).depth = 0 := by cases v <;> simp [dOf, PyData.depth]
theorem depthAll_dOf : ∀ xs : List V, PyData.depthAll (xs.map dOf) = 0
  | [] => by simp [PyData.depthAll]
  | x :: xs => by simp only [List.map_cons, PyData.depthAll, depth_dOf, depthAll_dOf xs]; rfl
theorem shaped_tup {xs : List V} (h : xs.all okV = true) : SeqAt.shaped (.tuple (xs.map dOf)) = true := by
  unfold SeqAt.shaped
  simp only [PyData.canLay0, PyData.depth, layAll_dOf h, depthAll_dOf, Bool.true_and]
  decide

/-! ### a run that wakes no old generator leaves them as they are -/
namespace GX
/-- no generator's frame among them -/
def Clean (fs : List Frame) : Prop := ∀ F ∈ fs, ∃ k h g l c p kp, F = Frame.ret k h g l c p kp
theorem Clean.nil : Clean [] := fun _ h => by cases h
theorem Clean.tail {F : Frame} {fs : List Frame} (h : Clean (F :: fs)) : Clean fs := fun G hG => h G (List.mem_cons_of_mem _ hG)
theorem Clean.app {fs gs : List Frame} (h : Clean fs) (k : Clean gs) : Clean (fs ++ gs) := fun F hF => (List.mem_append.mp hF).elim (h F) (k F)
theorem Clean.split : ∀ {fs : List Frame}, Clean fs → splitAtGen fs = none
  | [], _ => rfl
  | F :: fs, h => by
    obtain ⟨k, hh, g, l, c, p, kp, rfl⟩ := h F List.mem_cons_self
    show (splitAtGen fs).map _ = none
    rw [Clean.split h.tail]; rfl
def CleanEnd : End → Prop
  | .susp _ _ _ _ _ _ fs => Clean fs
  | _ => True
def CleanSt : GenState → Prop
  | .suspended _ _ _ _ fs _ => Clean fs
  | _ => True
theorem CleanEnd.st {e : End} (h : CleanEnd e) : CleanSt e.genState := by cases e <;> exact h
/-- s: the table with traps at P; r: the real one -/
structure Twin (P : Nat → Prop) (s r : Array GenState) : Prop where
  size : s.size = r.size
  old : ∀ i, P i → ∃ k l c p fs cl, r[i]? = some (.suspended k l c p fs cl) ∧ s[i]? = some (.suspended (fun _ => .unsupported "") l c p fs cl)
  new : ∀ i, ¬ P i → s[i]? = r[i]? ∧ ∀ x, s[i]? = some x → CleanSt x
theorem Twin.set {P : Nat → Prop} {s r : Array GenState} {g : Nat} {x : GenState} (T : Twin P s r) (hg : ¬ P g) (hx : CleanSt x) : Twin P (s.setIfInBounds g x) (r.setIfInBounds g x) := by
  refine ⟨by simp [T.size], fun i hi => ?_, fun i hi => ?_⟩
  · have ne : g ≠ i := fun z => hg (z ▸ hi)
    obtain ⟨k, l, c, p, fs, cl, h1, h2⟩ := T.old i hi
    exact ⟨k, l, c, p, fs, cl, by rw [Array.getElem?_setIfInBounds_ne ne]; exact h1, by rw [Array.getElem?_setIfInBounds_ne ne]; exact h2⟩
  · by_cases z : g = i
    · subst z
      rw [Array.getElem?_setIfInBounds, Array.getElem?_setIfInBounds, T.size]
      refine ⟨by rw [if_pos rfl, if_pos rfl], fun y hy => ?_⟩
      rw [if_pos rfl] at hy
      split at hy
      · cases hy; exact hx
      · cases hy
    · rw [Array.getElem?_setIfInBounds_ne z, Array.getElem?_setIfInBounds_ne z]
      exact T.new i hi
theorem Twin.push {P : Nat → Prop} {s r : Array GenState} {c : Code} (T : Twin P s r) : Twin P (s.push (.fresh c)) (r.push (.fresh c)) := by
  refine ⟨by simp [T.size], fun i hi => ?_, fun i hi => ?_⟩
  · obtain ⟨k, l, c', p, fs, cl, h1, h2⟩ := T.old i hi
    have l1 := (Array.getElem?_eq_some_iff.mp h1).1; have l2 := (Array.getElem?_eq_some_iff.mp h2).1
    exact ⟨k, l, c', p, fs, cl, by rw [Array.getElem?_push, if_neg (by omega)]; exact h1, by rw [Array.getElem?_push, if_neg (by omega)]; exact h2⟩
  · rw [Array.getElem?_push, Array.getElem?_push, T.size]
    split
    · exact ⟨rfl, fun x hx => by cases hx; exact True.intro⟩
    · exact T.new i hi
/-- an entry is the real one, or a trap -/
theorem Twin.at {P : Nat → Prop} {s r : Array GenState} {g : Nat} {x : GenState} (T : Twin P s r) (q : s[g]? = some x) :
    (¬ P g ∧ r[g]? = some x ∧ CleanSt x) ∨ ∃ k l c p fs cl, x = .suspended (fun _ => .unsupported "") l c p fs cl ∧ r[g]? = some (.suspended k l c p fs cl) := by
  by_cases hg : P g
  · obtain ⟨k, l, c, p, fs, cl, h1, h2⟩ := T.old g hg
    rw [q] at h2
    exact .inr ⟨k, l, c, p, fs, cl, Option.some.inj h2, h1⟩
  · exact .inl ⟨hg, (T.new g hg).1.symm.trans q, (T.new g hg).2 _ q⟩
theorem stuck0 {M : Model} {Γ : Ctx} {p : Pos} {w : String} {s s' : Shared} {e : End} (h : Runs M Γ p (.unsupported w) [] s e s') : False := by cases h
theorem stuck {M : Model} {Γ : Ctx} {p : Pos} {w : String} {fs : List Frame} {s s' : Shared} {e : End} (h : Runs M Γ p (.unsupported w) fs s e s') : False := by
  cases h with
  | segRet a _ => exact stuck0 a
  | segGen a _ => exact stuck0 a
  | segSuspOut _ a => exact stuck0 a
  | segSuspGen _ a _ _ => exact stuck0 a
theorem twin {M : Model} {P : Nat → Prop} {Γ : Ctx} {p : Pos} {t : Sem PySem.Fin} {fs : List Frame} {s s' : Shared} {e : End} (h : Runs M Γ p t fs s e s') : Clean fs → ∀ G, Twin P s.gens G →
    ∃ G', Runs M Γ p t fs { s with gens := G } e { s' with gens := G' } ∧ Twin P s'.gens G' ∧ (∀ i, P i → G'[i]? = G[i]?) ∧ CleanEnd e := by
  have same : ∀ {G : Array GenState} {g : Nat} {x : GenState}, ¬ P g → ∀ i, P i → (G.setIfInBounds g x)[i]? = G[i]? := fun {G g x} hg i hi => Array.getElem?_setIfInBounds_ne fun (z : g = i) => hg (z ▸ hi)
  induction h with
  | done => exact fun _ G T => ⟨G, .done, T, fun _ _ => rfl, True.intro⟩
  | raise => exact fun _ G T => ⟨G, .raise, T, fun _ _ => rfl, True.intro⟩
  | again q _ ih => intro hc G T; obtain ⟨G', r, T', o, ce⟩ := ih hc G T; exact ⟨G', .again q r, T', o, ce⟩
  | rule _ ih => intro hc G T; obtain ⟨G', r, T', o, ce⟩ := ih hc G T; exact ⟨G', .rule r, T', o, ce⟩
  | «at» _ ih => intro hc G T; obtain ⟨G', r, T', o, ce⟩ := ih hc G T; exact ⟨G', .at r, T', o, ce⟩
  | load q _ ih => intro hc G T; obtain ⟨G', r, T', o, ce⟩ := ih hc G T; exact ⟨G', .load q r, T', o, ce⟩
  | update q _ ih => intro hc G T; obtain ⟨G', r, T', o, ce⟩ := ih hc G T; exact ⟨G', .update q r, T', o, ce⟩
  | loadIfAlive _ ih => intro hc G T; obtain ⟨G', r, T', o, ce⟩ := ih hc G T; exact ⟨G', .loadIfAlive r, T', o, ce⟩
  | point _ ih => intro hc G T; obtain ⟨G', r, T', o, ce⟩ := ih hc G T; exact ⟨G', .point r, T', o, ce⟩
  | alloc _ ih => intro hc G T; obtain ⟨G', r, T', o, ce⟩ := ih hc G T; exact ⟨G', .alloc r, T', o, ce⟩
  | fresh _ ih => intro hc G T; obtain ⟨G', r, T', o, ce⟩ := ih hc G T; exact ⟨G', .fresh r, T', o, ce⟩
  | ask _ ih => intro hc G T; obtain ⟨G', r, T', o, ce⟩ := ih hc G T; exact ⟨G', .ask r, T', o, ce⟩
  | choose q _ ih => intro hc G T; obtain ⟨G', r, T', o, ce⟩ := ih hc G T; exact ⟨G', .choose q r, T', o, ce⟩
  | os _ ih => intro hc G T; obtain ⟨G', r, T', o, ce⟩ := ih hc G T; exact ⟨G', .os r, T', o, ce⟩
  | handled _ ih => intro hc G T; obtain ⟨G', r, T', o, ce⟩ := ih hc G T; exact ⟨G', .handled r, T', o, ce⟩
  | genState q _ ih =>
    intro hc G T
    obtain ⟨G', r, T', o, ce⟩ := ih hc G T
    rcases T.at q with ⟨_, q', _⟩ | ⟨k', l, c, p', fs, cl, rfl, q'⟩
    · exact ⟨G', .genState q' r, T', o, ce⟩
    · exact ⟨G', .genState (st := .suspended k' l c p' fs cl) q' r, T', o, ce⟩
  | stack _ ih => intro hc G T; obtain ⟨G', r, T', o, ce⟩ := ih hc G T; exact ⟨G', .stack r, T', o, ce⟩
  | thread _ ih => intro hc G T; obtain ⟨G', r, T', o, ce⟩ := ih hc G T; exact ⟨G', .thread r, T', o, ce⟩
  | newGen _ ih =>
    intro hc G T
    obtain ⟨G', r, T', o, ce⟩ := ih hc _ T.push
    refine ⟨G', .newGen (by rw [T.size] at r; exact r), T', fun i hi => (o i hi).trans ?_, ce⟩
    obtain ⟨_, _, _, _, _, _, h1, _⟩ := T.old i hi
    have l1 := (Array.getElem?_eq_some_iff.mp h1).1
    rw [Array.getElem?_push, if_neg (by omega)]
  | call _ _ ih1 ih2 =>
    intro hc G T
    obtain ⟨G1, r1, T1, o1, _⟩ := ih1 .nil G T
    obtain ⟨G2, r2, T2, o2, ce⟩ := ih2 hc G1 T1
    exact ⟨G2, .call r1 r2, T2, fun i hi => (o2 i hi).trans (o1 i hi), ce⟩
  | callSusp _ ih =>
    intro hc G T
    obtain ⟨G', r, T', o, ce⟩ := ih .nil G T
    exact ⟨G', .callSusp r, T', o, Clean.app ce fun F hF => by rw [List.mem_singleton.mp hF]; exact ⟨_, _, _, _, _, _, _, rfl⟩⟩
  | yield => exact fun _ G T => ⟨G, .yield, T, fun _ _ => rfl, Clean.nil⟩
  | resumeFresh q _ qt _ ih1 ih2 =>
    intro hc G T
    rcases T.at q with ⟨hg, q', _⟩ | ⟨_, _, _, _, _, _, z, _⟩
    · obtain ⟨G1, r1, T1, o1, ce1⟩ := ih1 .nil _ (T.set (x := .running) hg True.intro)
      obtain ⟨G2, r2, T2, o2, ce2⟩ := ih2 hc _ (T1.set hg ce1.st)
      exact ⟨G2, .resumeFresh q' r1 qt r2, T2, fun i hi => (o2 i hi).trans ((same hg i hi).trans ((o1 i hi).trans (same hg i hi))), ce2⟩
    · cases z
  | resumeSuspended q run qt _ ih1 ih2 =>
    intro hc G T
    rcases T.at q with ⟨hg, q', cl⟩ | ⟨_, _, _, _, _, _, z, _⟩
    · obtain ⟨G1, r1, T1, o1, ce1⟩ := ih1 cl _ (T.set (x := .running) hg True.intro)
      obtain ⟨G2, r2, T2, o2, ce2⟩ := ih2 hc _ (T1.set hg ce1.st)
      exact ⟨G2, .resumeSuspended q' r1 qt r2, T2, fun i hi => (o2 i hi).trans ((same hg i hi).trans ((o1 i hi).trans (same hg i hi))), ce2⟩
    · cases z
      exact (stuck run).elim
  | resumeJustStarted q hv _ ih =>
    intro hc G T
    obtain ⟨G', r, T', o, ce⟩ := ih hc G T
    rcases T.at q with ⟨_, q', _⟩ | ⟨_, _, _, _, _, _, z, _⟩
    · exact ⟨G', .resumeJustStarted q' hv r, T', o, ce⟩
    · cases z
  | resumeThrowFresh q _ ih =>
    intro hc G T
    rcases T.at q with ⟨hg, q', _⟩ | ⟨_, _, _, _, _, _, z, _⟩
    · obtain ⟨G', r, T', o, ce⟩ := ih hc _ (T.set (x := .finished) hg True.intro)
      exact ⟨G', .resumeThrowFresh q' r, T', fun i hi => (o i hi).trans (same hg i hi), ce⟩
    · cases z
  | resumeRunning q _ ih =>
    intro hc G T
    obtain ⟨G', r, T', o, ce⟩ := ih hc G T
    rcases T.at q with ⟨_, q', _⟩ | ⟨_, _, _, _, _, _, z, _⟩
    · exact ⟨G', .resumeRunning q' r, T', o, ce⟩
    · cases z
  | resumeFinished q _ ih =>
    intro hc G T
    obtain ⟨G', r, T', o, ce⟩ := ih hc G T
    rcases T.at q with ⟨_, q', _⟩ | ⟨_, _, _, _, _, _, z, _⟩
    · exact ⟨G', .resumeFinished q' r, T', o, ce⟩
    · cases z
  | segRet _ _ ih1 ih2 =>
    intro hc G T
    obtain ⟨G1, r1, T1, o1, _⟩ := ih1 .nil G T
    obtain ⟨G2, r2, T2, o2, ce⟩ := ih2 hc.tail G1 T1
    exact ⟨G2, .segRet r1 r2, T2, fun i hi => (o2 i hi).trans (o1 i hi), ce⟩
  | segGen _ _ _ _ =>
    intro hc G T
    obtain ⟨_, _, _, _, _, _, _, z⟩ := hc _ List.mem_cons_self
    cases z
  | segSuspOut q _ ih =>
    intro hc G T
    obtain ⟨G', r, T', o, ce⟩ := ih .nil G T
    exact ⟨G', .segSuspOut q r, T', o, Clean.app ce hc⟩
  | segSuspGen q _ _ _ _ _ =>
    intro hc G T
    rw [hc.split] at q
    cases q
end GX

namespace GX
open Sem (wp)
theorem twin_wakes {M : Model} {P : Nat → Prop} {Γ : Ctx} {p : Pos} {g : Nat} {r : Resume} {s s' : Shared} {res : GenResult} (h : Wakes M Γ p g r s res s') : ∀ G, Twin P s.gens G →
    ∃ G', Wakes M Γ p g r { s with gens := G } res { s' with gens := G' } ∧ Twin P s'.gens G' ∧ ∀ i, P i → G'[i]? = G[i]? := by
  intro G T
  have same : ∀ {G : Array GenState} {x : GenState}, ¬ P g → ∀ i, P i → (G.setIfInBounds g x)[i]? = G[i]? := fun {G x} hg i hi => Array.getElem?_setIfInBounds_ne fun (z : g = i) => hg (z ▸ hi)
  unfold Wakes at h
  cases q : s.gens[g]? with
  | none => rw [q] at h; exact h.elim
  | some x =>
    rw [q] at h
    rcases T.at q with ⟨hg, q', cl⟩ | ⟨_, _, _, _, _, _, z, _⟩
    · have run : ∀ {Γ' : Ctx} {p' : Pos} {t : Sem PySem.Fin} {fs : List Frame} {e₁ : End} {s₁ : Shared}, Clean fs → Runs M Γ' p' t fs (s.setGen g .running) e₁ s₁ → ∃ G', Runs M Γ' p' t fs (({ s with gens := G } : Shared).setGen g .running) e₁ { s₁ with gens := G' } ∧ Twin P (s₁.setGen g e₁.genState).gens (({ s₁ with gens := G' } : Shared).setGen g e₁.genState).gens ∧ ∀ i, P i → (({ s₁ with gens := G' } : Shared).setGen g e₁.genState).gens[i]? = G[i]? := fun {Γ' p' t fs e₁ s₁} hc hr => by
        obtain ⟨G', r1, T1, o1, ce⟩ := twin hr hc _ (T.set (x := .running) hg True.intro)
        exact ⟨G', r1, T1.set hg ce.st, fun i hi => (same hg i hi).trans ((o1 i hi).trans (same hg i hi))⟩
      unfold Wakes
      rw [show ({ s with gens := G } : Shared).gens[g]? = some x from q']
      cases x with
      | fresh c =>
        cases r with
        | throw e => obtain ⟨h1, rfl⟩ := h; exact ⟨_, ⟨h1, rfl⟩, T.set hg True.intro, fun i hi => same hg i hi⟩
        | send v =>
          cases v with
          | none =>
            obtain ⟨e₁, s₁, hr, qt, h1, rfl⟩ := h
            obtain ⟨G', r1, T1, o1⟩ := run .nil hr
            exact ⟨_, ⟨e₁, _, r1, qt, h1, rfl⟩, T1, o1⟩
          | _ => obtain ⟨h1, rfl⟩ := h; exact ⟨G, ⟨h1, rfl⟩, T, fun _ _ => rfl⟩
      | suspended k l c p' fs cl' =>
        obtain ⟨e₁, s₁, hr, qt, h1, rfl⟩ := h
        obtain ⟨G', r1, T1, o1⟩ := run cl hr
        exact ⟨_, ⟨e₁, _, r1, qt, h1, rfl⟩, T1, o1⟩
      | running => obtain ⟨h1, rfl⟩ := h; exact ⟨G, ⟨h1, rfl⟩, T, fun _ _ => rfl⟩
      | finished => obtain ⟨h1, rfl⟩ := h; exact ⟨G, ⟨h1, rfl⟩, T, fun _ _ => rfl⟩
    · subst z
      obtain ⟨e₁, s₁, hr, _⟩ := h
      exact (stuck hr).elim
/-- the state is s' but for the table, which is G' there; the old entries stand as in G -/
def Back (P : Nat → Prop) (G : Array GenState) (Q : Shared → Prop) (r : Shared) : Prop := ∃ (s' : Shared) (G' : Array GenState), r = { s' with gens := G' } ∧ Twin P s'.gens G' ∧ (∀ i, P i → G'[i]? = G[i]?) ∧ Q s'
theorem wp_twin {α : Type} (M : Model) (Γ : Ctx) (P : Nat → Prop) (G0 : Array GenState) (t : Sem α) : ∀ (Q : α → Pos → Shared → Prop) (E : Value → Pos → Shared → Prop) (p : Pos) (s : Shared) (G : Array GenState), Twin P s.gens G → (∀ i, P i → G[i]? = G0[i]?) → wp M Γ t Q E p s →
    wp M Γ t (fun a p' r => Back P G0 (Q a p') r) (fun e p' r => Back P G0 (E e p') r) p { s with gens := G } := by
  induction t with
  | pure a => intro Q E p s G T o h; exact ⟨s, G, rfl, T, o, h⟩
  | raise e => intro Q E p s G T o h; exact ⟨s, G, rfl, T, o, h⟩
  | unsupported _ => intro Q E p s G _ _ h; exact h
  | finish _ => intro Q E p s G _ _ h; exact h
  | rule _ k ih => intro Q E p s G T o h; exact ih () Q E p s G T o h
  | «at» p' k ih => intro Q E p s G T o h; exact ih () Q E p' s G T o h
  | load a _ k ih => intro Q E p s G T o h; obtain ⟨ob, ho, h⟩ := h; exact ⟨ob, ho, ih ob Q E p s G T o h⟩
  | update a _ f k ih => intro Q E p s G T o h; exact ⟨h.1, ih () Q E p { s with heap := s.heap.update a f } G T o h.2⟩
  | loadIfAlive a k ih => intro Q E p s G T o h; exact ih _ Q E p s G T o h
  | point _ k ih => intro Q E p s G T o h; exact ih () Q E p s G T o h
  | register _ _ => intro Q E p s G _ _ h; exact h
  | alloc ob k ih => intro Q E p s G T o h; exact ih s.heap.objs.size Q E p { s with heap := s.heap.push ob } G T o h
  | fresh k ih => intro Q E p s G T o h; exact ih s.toks Q E p { s with toks := s.toks + 1 } G T o h
  | ask k ih => intro Q E p s G T o h; exact ih _ Q E p s G T o h
  | choose src m k ih => intro Q E p s G T o h; exact ⟨h.1, ih (M.w.draws src (s.drawn.get src) % m) Q E p { s with drawn := s.drawn.bump src } G T o h.2⟩
  | os q _ k ih => intro Q E p s G T o h; exact ih (Os.step s.os q).2 Q E p { s with os := (Os.step s.os q).1 } G T o h
  | call c hd _ _ k ih =>
    intro Q E p s G T o h
    obtain ⟨r, s', hr, h⟩ := h
    obtain ⟨G', r1, T1, o1, _⟩ := twin hr .nil G T
    exact ⟨r, _, r1, ih r Q E p s' G' T1 (fun i hi => (o1 i hi).trans (o i hi)) h⟩
  | handled own k ih => intro Q E p s G T o h; exact ih _ Q E p s G T o h
  | genState g k ih =>
    intro Q E p s G T o h
    obtain ⟨st, hs, h⟩ := h
    rcases T.at hs with ⟨_, q', _⟩ | ⟨k', l, c, p', fs, cl, rfl, q'⟩
    · exact ⟨st, q', ih _ Q E p s G T o h⟩
    · exact ⟨_, q', ih _ Q E p s G T o h⟩
  | newGen c k ih =>
    intro Q E p s G T o h
    refine ih _ Q E p { s with gens := s.gens.push (.fresh c) } (G.push (.fresh c)) T.push (fun i hi => Eq.trans ?_ (o i hi)) (by
      have h' : wp M Γ (k s.gens.size) Q E p { s with gens := s.gens.push (.fresh c) } := h
      rw [T.size] at h'
      exact h')
    obtain ⟨_, _, _, _, _, _, h1, _⟩ := T.old i hi
    have l1 := (Array.getElem?_eq_some_iff.mp h1).1
    rw [Array.getElem?_push, if_neg (by omega)]
  | resume g r _ k ih =>
    intro Q E p s G T o h
    obtain ⟨res, s', hw, h⟩ := h
    obtain ⟨G', r1, T1, o1⟩ := twin_wakes hw G T
    exact ⟨res, _, r1, ih res Q E p s' G' T1 (fun i hi => (o1 i hi).trans (o i hi)) h⟩
  | yield _ _ _ _ => intro Q E p s G _ _ h; exact h
  | stack k ih => intro Q E p s G T o h; exact ih _ Q E p s G T o h
  | fork _ _ => intro Q E p s G _ _ h; exact h
  | thread k ih => intro Q E p s G T o h; exact ih _ Q E p s G T o h
  | await _ _ _ _ _ => intro Q E p s G _ _ h; exact h
theorem wpAny_twin {α : Type} {M : Model} {A : Around} {P : Nat → Prop} {t : Sem α} {Q : α → Shared → Prop} {E : Value → Shared → Prop} {s : Shared} {G : Array GenState} (T : Twin P s.gens G) (h : wpAny M A t Q E s) :
    wpAny M A t (fun a r => Back P G (Q a) r) (fun e r => Back P G (E e) r) { s with gens := G } :=
  fun Γ p hΓ => wp_twin M Γ P G t _ _ p s G T (fun _ _ => rfl) (h Γ p hΓ)
end GX

/-! ### segments with a word of the consumer's -/
namespace GX
open PySem PySem.Spec PyProof.Rows GenW L2
section
variable {Θ : Type} {M : Model}
abbrev XEnd (Θ : Type) := Θ → Result → Shared → Prop
abbrev XYld (Θ : Type) := Θ → Value → Shared → (Θ → Shared → Prop) → Prop
def SgEnd (R : XEnd Θ) (Y : XYld Θ) (go : Θ → Code → Sem PySem.Fin → List Frame → Shared → Prop) (θ : Θ) (e : End) (s' : Shared) : Prop :=
  match e with
  | .ret r => R θ r s'
  | .susp v g l k c p fs => (End.susp v g l k c p fs).quiet = true ∧ Y θ v s' fun θ' s'' => go θ' c (k (.send .none)) fs s''
def Sg (M : Model) (A : Around) (R : XEnd Θ) (Y : XYld Θ) : Nat → Θ → Code → Sem PySem.Fin → List Frame → Shared → Prop
  | 0 => fun θ c t fs s => ∀ Γ p, Γ.code = c → Γ.Woken A → ∃ e s', Runs M Γ p t fs s e s' ∧ SgEnd R Y (fun _ _ _ _ _ => False) θ e s'
  | n + 1 => fun θ c t fs s => ∀ Γ p, Γ.code = c → Γ.Woken A → ∃ e s', Runs M Γ p t fs s e s' ∧ SgEnd R Y (Sg M A R Y n) θ e s'
def Sg.nxt (M : Model) (A : Around) (R : XEnd Θ) (Y : XYld Θ) : Nat → Θ → Code → Sem PySem.Fin → List Frame → Shared → Prop
  | 0 => fun _ _ _ _ _ => False
  | n + 1 => Sg M A R Y n
theorem sg_iff {A : Around} {R : XEnd Θ} {Y : XYld Θ} {n : Nat} {θ : Θ} {c t fs s} :
    Sg M A R Y n θ c t fs s ↔ ∀ Γ p, Γ.code = c → Γ.Woken A → ∃ e s', Runs M Γ p t fs s e s' ∧ SgEnd R Y (Sg.nxt M A R Y n) θ e s' := by
  cases n <;> exact Iff.rfl
end
section
variable {Θ : Type} {M : Model} {A : Around} {R : XEnd Θ} {Y : XYld Θ} {n : Nat} {θ : Θ} {c : Code} {fs : List Frame} {s : Shared}
theorem sg_wrap {α : Type} {m : Sem α} {K : α → Sem PySem.Fin} {J : Value → Sem PySem.Fin} {gd lv}
    (h : wpAny M (A.over c fs) m (fun a s' => Sg M A R Y n θ c (K a) fs s') (fun x s' => Sg M A R Y n θ c (J x) fs s') s) : Sg M A R Y n θ c (m.wrap K J gd lv) fs s := by
  refine sg_iff.mpr fun Γ p ec hΓ => ?_
  subst ec
  exact runs_wrap_of_wp K J gd lv m (h (Γ.over fs) p (hΓ.over fs)) (fun a p' s' z => sg_iff.mp z Γ p' rfl hΓ) fun x p' s' z => sg_iff.mp z Γ p' rfl hΓ
theorem sg_bind_wrap {α β : Type} {m : Sem α} {f : α → Sem β} {K : β → Sem PySem.Fin} {J : Value → Sem PySem.Fin} {gd lv}
    (h : wpAny M (A.over c fs) m (fun a s' => Sg M A R Y n θ c ((f a).wrap K J gd lv) fs s') (fun x s' => Sg M A R Y n θ c (J x) fs s') s) : Sg M A R Y n θ c ((m >>= f).wrap K J gd lv) fs s := by
  rw [Sem.bind_eq_wrap' m f, Sem.wrap_wrap]
  exact sg_wrap h
theorem sg_at {q : Pos} {k : Unit → Sem PySem.Fin} (h : Sg M A R Y n θ c (k ()) fs s) : Sg M A R Y n θ c (.at q k) fs s :=
  sg_wrap (m := standAt q) (K := k) (J := .raise) (gd := id) (lv := id) (wpAny_standAt h)
theorem sg_point {l : List Value} {k : Unit → Sem PySem.Fin} (h : Sg M A R Y n θ c (k ()) fs s) : Sg M A R Y n θ c (.point l k) fs s :=
  sg_wrap (m := point) (K := k) (J := .raise) (gd := id) (lv := fun _ => l) (wpAny_point h)
theorem sg_call {c' : Code} {h g l} {k : Result → Sem PySem.Fin} (hc : ∀ p, Sg M A R Y n θ c' (M.den c') (.ret k h g l c p [] :: fs) s) : Sg M A R Y n θ c (.call c' h g l k) fs s := by
  refine sg_iff.mpr fun Γ p ec hΓ => ?_
  subst ec
  obtain ⟨e, s', hr, he⟩ := sg_iff.mp (hc p) (Γ.goto c') p rfl (hΓ.goto c')
  exact ⟨e, s', runs_call_seg hr, he⟩
theorem sg_leaf {k h g l c₁ p₁ kp} (r : Result) (hk : Sg M A R Y n θ c₁ (k r) fs s) : Sg M A R Y n θ c (leafOf r) (.ret k h g l c₁ p₁ kp :: fs) s := by
  refine sg_iff.mpr fun Γ p ec hΓ => ?_
  subst ec
  obtain ⟨e, s', hr, he⟩ := sg_iff.mp hk (Γ.goto c₁) p₁ rfl (hΓ.goto c₁)
  exact ⟨e, s', Runs.pop r hr, he⟩
theorem sg_again {c' : Code} (hq : c'.quiet = true) (hc : Sg M A R Y n θ c' (M.den c') fs s) : Sg M A R Y n θ c (.pure (.again c')) fs s := by
  refine sg_iff.mpr fun Γ p ec hΓ => ?_
  subst ec
  obtain ⟨e, s', hr, he⟩ := sg_iff.mp hc (Γ.goto c') p rfl (hΓ.goto c')
  exact ⟨e, s', Runs.head (c₁ := c') (fun _ _ x => .again hq x) hr, he⟩
theorem sg_end (r : Result) (h : R θ r s) : Sg M A R Y n θ c (leafOf r) [] s := by
  refine sg_iff.mpr fun Γ p ec _ => ?_
  exact ⟨.ret r, s, Runs.leaf r, h⟩
theorem sg_yield {v g l} {k : Resume → Sem PySem.Fin} (hfs : splitAtGen fs = none) (hg : g = false) (hfg : fs.any Frame.guarded = false)
    (h : Y θ v s fun θ' s'' => Sg M A R Y n θ' c (k (.send .none)) fs s'') : Sg M A R Y (n + 1) θ c (.yield v g l k) fs s := by
  refine sg_iff.mpr fun Γ p ec _ => ?_
  subst ec
  exact ⟨_, s, Runs.yield' fs hfs, And.intro (by simp [End.quiet, hg, hfg]) h⟩
end
section
variable {Θ : Type} {M : Model} {A : Around} {R : XEnd Θ} {Y : XYld Θ} {n : Nat} {θ : Θ} {c : Code} {fs : List Frame} {s : Shared} {env : Env} {K : Flow → Sem PySem.Fin} {J : Value → Sem PySem.Fin} {gd : Bool → Bool} {lv : List Value → List Value}
theorem sg_execs_cons {st : Stmt} {rest : List Stmt}
    (h : Sg M A R Y n θ c ((exec st env).wrap (fun f => match f with | .next => (execs rest env).wrap K J gd lv | f => K f) J gd lv) fs s) : Sg M A R Y n θ c ((execs (st :: rest) env).wrap K J gd lv) fs s := by
  rw [execs_cons_wrap]; exact h
theorem sg_Yield {e : Expr} {yp pos : Pos} (hfs : splitAtGen fs = none) (hgd : gd false = false) (hfg : fs.any Frame.guarded = false)
    (h : wpAny M (A.over c fs) (eval e env) (fun v s' => Y θ v s' fun θ' s'' => Sg M A R Y n θ' c (K .next) fs s'') (fun x s' => Sg M A R Y (n + 1) θ c (J x) fs s') s)
    (hco : env.scope.isCoroutine = false := by rfl) (hi : interactive env = false := by rfl) : Sg M A R Y (n + 1) θ c ((exec (.Expr (.Yield (some e) yp) pos) env).wrap K J gd lv) fs s := by
  rw [exec_Expr env _ pos hi rfl]
  show Sg M A R Y (n + 1) θ c (.at pos fun _ => ((eval e env >>= fun v => (standAt yp >>= fun _ => yieldOut env v)) >>= fun x => dropValue (.Yield (some e) yp) pos x).wrap K J gd lv) fs s
  have hy : ∀ v, yieldOut env v = yieldValue v := fun v => by simp only [yieldOut, hco, Bool.false_eq_true, if_false]
  simp only [hy]
  refine sg_at ?_
  rw [Sem.bind_eq_wrap', Sem.bind_eq_wrap', Sem.wrap_wrap, Sem.wrap_wrap]
  refine sg_wrap (wpAny_mono h (fun v s' h' => ?_) fun _ _ x => x)
  exact sg_at (sg_yield hfs hgd hfg h')
theorem sg_If {test : Expr} {body orelse : List Stmt} {pos : Pos}
    (h : wpAny M (A.over c fs) (isTrue test env (eval test env)) (fun b s' => if b = true then Sg M A R Y n θ c ((execs body env).wrap K J gd lv) fs s' else Sg M A R Y n θ c ((execs orelse env).wrap K J gd lv) fs s') (fun x s' => Sg M A R Y n θ c (J x) fs s') s) :
    Sg M A R Y n θ c ((exec (.If test body orelse pos) env).wrap K J gd lv) fs s := by
  show Sg M A R Y n θ c (.at pos fun _ => (isTrue test env (eval test env) >>= fun b => if b = true then execs body env else execs orelse env).wrap K J gd lv) fs s
  refine sg_at (sg_bind_wrap (wpAny_mono h (fun b s' hb => ?_) fun _ _ z => z))
  cases b with
  | true => exact hb
  | false => exact hb
end
end GX

namespace GX
open PySem PySem.Spec PyProof.Rows GenW L2
/-- what a generator hands out: by words γ that both sides know. rdy: it may be woken; yld: what it hands out; fin: it is over -/
structure GIt where
  Γ : Type
  rank : Γ → Nat
  rdy : Γ → Hp → Prop
  yld : Γ → Hp → V → Hp → Γ → Prop
  fin : Γ → Hp → Hp → Prop
  dec : ∀ γ H x H' γ', yld γ H x H' γ' → rank γ' < rank γ
/-- a wake: the word, the heap, the state, what is to be left alone -/
structure Th (J : GIt) where
  γ : J.Γ
  H : Hp
  s : Shared
  xp : List (Addr × Obj)
def cutH (L : Nat) (h : Heap) : Heap := ⟨h.objs.extract 0 L, h.life⟩
theorem cutH_size {L : Nat} {h : Heap} (hl : L ≤ h.objs.size) : (cutH L h).objs.size = L := by
  show (h.objs.extract 0 L).size = L
  rw [Array.size_extract]; omega
theorem cutH_le {L : Nat} {h : Heap} : (cutH L h).objs.size ≤ L := by
  show (h.objs.extract 0 L).size ≤ L
  rw [Array.size_extract]; omega
theorem cutH_lt {L b : Nat} {h : Heap} {o : Obj} (q : (cutH L h).get? b = some o) : b < L := Nat.lt_of_lt_of_le (Heap.lt_size q) cutH_le
theorem cutH_at {L b : Nat} {h : Heap} (hb : b < L) : (cutH L h).get? b = h.get? b := by
  have e : (cutH L h).objs[b]? = h.objs[b]? := by
    show (h.objs.extract 0 L)[b]? = _
    rw [Array.getElem?_extract]
    by_cases z : b < min L h.objs.size - 0
    · rw [if_pos z, Nat.zero_add]
    · rw [if_neg z, Array.getElem?_eq_none (by omega)]
  unfold Heap.get?
  rw [e]
theorem cutH_of {L b : Nat} {h : Heap} {o : Obj} (q : h.get? b = some o) (hb : b < L) : (cutH L h).get? b = some o := (cutH_at hb).trans q
theorem cutH_up {L b : Nat} {h : Heap} {o : Obj} (q : (cutH L h).get? b = some o) : h.get? b = some o := (cutH_at (cutH_lt q)).symm.trans q
abbrev reX {J : GIt} (X : Cx) (θ : Th J) : Cx := { X with s_0 := { θ.s with heap := cutH X.env.locals θ.s.heap }, H_0 := θ.H }
/-- awake -/
structure Wk {J : GIt} (X : Cx) (θ : Th J) (ip : List (Addr × Obj)) (σ : L2.St) (H : Hp) (s : Shared) : Prop where
  inv : Inv (reX X θ) (θ.xp ++ ip) σ H s
  own : ∀ q ∈ ip, X.env.locals ≤ q.1 ∧ ∀ p ∈ θ.xp, p.1 ≠ q.1
  sz : X.env.locals ≤ θ.s.heap.objs.size
def YX {J : GIt} (X : Cx) : XYld (Th J) := fun θ v s kap => ∃ x H1 γ' ip σ, RelV x v ∧ J.yld θ.γ θ.H x H1 γ' ∧ Wk X θ ip σ H1 s ∧ ∀ (θ' : Th J) (s' : Shared), θ'.γ = γ' → J.rdy γ' θ'.H → Wk X θ' ip σ θ'.H s' → kap θ' s'
def RX {J : GIt} (X : Cx) : XEnd (Th J) := fun θ r s => (r = .ok (.ret .none) ∨ r = .ok .next) ∧ ∃ H1 ip σ, J.fin θ.γ θ.H H1 ∧ Wk X θ ip σ H1 s
/-- what is wanted behind a statement: by the word and the heap of the last wake -/
structure GEn (J : GIt) where
  nx : J.Γ → Hp → L2.St → Hp → Prop
  rt : J.Γ → Hp → VK
  bk : J.Γ → Hp → L2.St → Hp → Prop := fun _ _ _ _ => False
  ct : J.Γ → Hp → L2.St → Hp → Prop := fun _ _ _ _ => False
abbrev TX (J : GIt) := GEn J → J.Γ → Hp → L2.St → Hp → Prop
def GEn.on {J : GIt} (D : GEn J) (γ : J.Γ) (Hw : Hp) : Ends := { nx := D.nx γ Hw, rt := D.rt γ Hw, bk := D.bk γ Hw, ct := D.ct γ Hw }
structure XC (X : Cx) (A : Around) (c : Code) (fs : List Frame) (gd : Bool → Bool) : Prop where
  over : A.over c fs = X.A
  split : splitAtGen fs = none
  guard : fs.any Frame.guarded = false
  gd : gd false = false
  nox : ∀ e s, ¬ X.xe e s
  ex : X.ex = []
  calm : X.calm = true
def XP {J : GIt} (X : Cx) (θ : Th J) (ip : List (Addr × Obj)) (D : GEn J) (f : Flow) (s : Shared) : Prop :=
  match f with
  | .next => ∃ σ H, Wk X θ ip σ H s ∧ D.nx θ.γ θ.H σ H
  | .brk => ∃ σ H, Wk X θ ip σ H s ∧ D.bk θ.γ θ.H σ H
  | .cont => ∃ σ H, Wk X θ ip σ H s ∧ D.ct θ.γ θ.H σ H
  | .ret u => ∃ v σ H, Wk X θ ip σ H s ∧ RelV v u ∧ D.rt θ.γ θ.H v H
def XKo {J : GIt} (X : Cx) (ip : List (Addr × Obj)) (A : Around) (c : Code) (fs : List Frame) (K : Flow → Sem PySem.Fin) (D : GEn J) : Prop :=
  ∀ (n : Nat) (θ : Th J) (s : Shared) (f : Flow), J.rank θ.γ ≤ n → XP X θ ip D f s → Sg (model X.prog X.w) A (RX X) (YX X) n θ c (K f) fs s
structure XS {J : GIt} (X : Cx) (st : Stmt) (t : TX J) : Prop where
  run : ∀ (A : Around) (ip : List (Addr × Obj)) (n : Nat) (θ : Th J) (c : Code) (fs : List Frame) (K : Flow → Sem PySem.Fin) (Jx : Value → Sem PySem.Fin) (gd : Bool → Bool) (lv : List Value → List Value) (s : Shared) (σ : L2.St) (H : Hp) (D : GEn J),
    XC X A c fs gd → J.rank θ.γ ≤ n → XKo X ip A c fs K D → Wk X θ ip σ H s → t D θ.γ θ.H σ H → Sg (model X.prog X.w) A (RX X) (YX X) n θ c ((exec st X.env).wrap K Jx gd lv) fs s
structure XSs {J : GIt} (X : Cx) (st : List Stmt) (t : TX J) : Prop where
  run : ∀ (A : Around) (ip : List (Addr × Obj)) (n : Nat) (θ : Th J) (c : Code) (fs : List Frame) (K : Flow → Sem PySem.Fin) (Jx : Value → Sem PySem.Fin) (gd : Bool → Bool) (lv : List Value → List Value) (s : Shared) (σ : L2.St) (H : Hp) (D : GEn J),
    XC X A c fs gd → J.rank θ.γ ≤ n → XKo X ip A c fs K D → Wk X θ ip σ H s → t D θ.γ θ.H σ H → Sg (model X.prog X.w) A (RX X) (YX X) n θ c ((execs st X.env).wrap K Jx gd lv) fs s
section
variable {J : GIt} {X : Cx} {st : Stmt} {rest : List Stmt}
theorem sp_xp {θ : Th J} {ip : List (Addr × Obj)} {s : Shared} {D : GEn J} {f : Flow} (ow : ∀ q ∈ ip, X.env.locals ≤ q.1 ∧ ∀ p ∈ θ.xp, p.1 ≠ q.1) (sz : X.env.locals ≤ θ.s.heap.objs.size) (h : SP (reX X θ) (θ.xp ++ ip) (D.on θ.γ θ.H) f s) : XP X θ ip D f s := by
  cases f with
  | next => obtain ⟨σ, H, I, q⟩ := h; exact ⟨σ, H, ⟨I, ow, sz⟩, q⟩
  | brk => obtain ⟨σ, H, I, q⟩ := h; exact ⟨σ, H, ⟨I, ow, sz⟩, q⟩
  | cont => obtain ⟨σ, H, I, q⟩ := h; exact ⟨σ, H, ⟨I, ow, sz⟩, q⟩
  | ret u => obtain ⟨v, σ, H, I, r1, q⟩ := h; exact ⟨v, σ, H, ⟨I, ow, sz⟩, r1, q⟩
/-- a statement that hands out nothing -/
def tPl (t : Th J → TS) : TX J := fun D γ Hw σ H => ∀ θ : Th J, t θ (D.on γ Hw) σ H
theorem xs_ps {t : Th J → TS} (h : ∀ θ : Th J, PS (reX X θ) st (t θ)) : XS (J := J) X st (tPl t) := by
  refine ⟨fun A ip n θ c fs K Jx gd lv s σ H D g hn k hI ht => sg_wrap ?_⟩
  rw [g.over]
  exact wpAny_mono ((h θ).run _ s σ H (D.on θ.γ θ.H) hI.inv (ht θ)) (fun f s' hs => k n θ s' f hn (sp_xp hI.own hI.sz hs)) fun x s' hx => (g.nox x s' hx).elim
theorem xss_pss {t : Th J → TS} (h : ∀ θ : Th J, PSs (reX X θ) rest (t θ)) : XSs (J := J) X rest (tPl t) := by
  refine ⟨fun A ip n θ c fs K Jx gd lv s σ H D g hn k hI ht => sg_wrap ?_⟩
  rw [g.over]
  exact wpAny_mono ((h θ).run _ s σ H (D.on θ.γ θ.H) hI.inv (ht θ)) (fun f s' hs => k n θ s' f hn (sp_xp hI.own hI.sz hs)) fun x s' hx => (g.nox x s' hx).elim
def tX0 : TX J := fun D γ Hw σ H => D.nx γ Hw σ H
theorem xss_nil : XSs (J := J) X [] tX0 :=
  ⟨fun A ip n θ c fs K Jx gd lv s σ H D g hn k hI ht => k n θ s .next hn ⟨σ, H, hI, ht⟩⟩
def tXThen (t u : TX J) : TX J := fun D γ Hw σ H => t { D with nx := u D } γ Hw σ H
theorem xss_cons {t u : TX J} (a : XS X st t) (b : XSs X rest u) : XSs X (st :: rest) (tXThen t u) := by
  refine ⟨fun A ip n θ c fs K Jx gd lv s σ H D g hn k hI ht => sg_execs_cons ?_⟩
  refine a.run A ip n θ c fs _ Jx gd lv s σ H { D with nx := u D } g hn (fun n' θ' s' f hn' hs => ?_) hI ht
  cases f with
  | next =>
    obtain ⟨σ', H', I', q⟩ := hs
    exact b.run A ip n' θ' c fs K Jx gd lv s' σ' H' D g hn' k I' q
  | brk => exact k n' θ' s' .brk hn' hs
  | cont => exact k n' θ' s' .cont hn' hs
  | ret u => exact k n' θ' s' (.ret u) hn' hs
theorem xss_one {t : TX J} (a : XS X st t) : XSs X [st] (tXThen t tX0) := xss_cons a xss_nil
def tXIf (tc : Th J → TT) (t u : TX J) : TX J := fun D γ Hw σ H => ∀ θ : Th J, tc θ σ H fun b H1 => if b = true then t D γ Hw σ H1 else u D γ Hw σ H1
theorem xs_if {test : Expr} {body orelse : List Stmt} {pos : Pos} {tc : Th J → TT} {t u : TX J} (hc : ∀ θ : Th J, PT (reX X θ) test (tc θ)) (ht : XSs X body t) (hu : XSs X orelse u) : XS X (.If test body orelse pos) (tXIf tc t u) := by
  refine ⟨fun A ip n θ c fs K Jx gd lv s σ H D g hn k hI hq => sg_If ?_⟩
  rw [g.over]
  refine wpAny_mono ((hc θ).run _ s σ H _ hI.inv (hq θ)) (fun b s' hs => ?_) fun x s' hx => (g.nox x s' hx).elim
  obtain ⟨H1, I1, q⟩ := hs
  cases b with
  | true =>
    rw [if_pos rfl] at q ⊢
    exact ht.run A ip n θ c fs K Jx gd lv s' σ H1 D g hn k ⟨I1, hI.own, hI.sz⟩ q
  | false =>
    rw [if_neg Bool.false_ne_true] at q ⊢
    exact hu.run A ip n θ c fs K Jx gd lv s' σ H1 D g hn k ⟨I1, hI.own, hI.sz⟩ q
/-! ### yield -/
def tXYield (te : Th J → TE) : TX J := fun D γ Hw σ H => ∀ θ : Th J, te θ σ H fun x H1 => ∃ γ', J.yld γ Hw x H1 γ' ∧ ∀ H2, J.rdy γ' H2 → D.nx γ' H2 σ H2
theorem xs_yield {e : Expr} {yp pos : Pos} {te : Th J → TE} (he : ∀ θ : Th J, PE (reX X θ) e (te θ)) (hco : X.env.scope.isCoroutine = false := by rfl) (hi : interactive X.env = false := by rfl) : XS X (.Expr (.Yield (some e) yp) pos) (tXYield (J := J) te) := by
  refine ⟨fun A ip n θ c fs K Jx gd lv s σ H D g hn k hI ht => ?_⟩
  cases n with
  | zero =>
    -- no rank is left: nothing is handed out
    rw [exec_Expr X.env _ pos hi rfl]
    show Sg _ A (RX X) (YX X) 0 θ c (.at pos fun _ => ((eval e X.env >>= fun v => (standAt yp >>= fun _ => yieldOut X.env v)) >>= fun x => dropValue (.Yield (some e) yp) pos x).wrap K Jx gd lv) fs s
    refine sg_at ?_
    rw [Sem.bind_eq_wrap', Sem.bind_eq_wrap', Sem.wrap_wrap, Sem.wrap_wrap]
    refine sg_wrap ?_
    rw [g.over]
    refine wpAny_mono ((he θ).run _ s σ H _ hI.inv (ht θ)) (fun v s' hv => ?_) fun x s' hx => (g.nox x s' hx).elim
    obtain ⟨x, H1, I1, rv, γ', hy, hq⟩ := hv
    exact absurd (J.dec _ _ _ _ _ hy) (by omega)
  | succ n =>
    refine sg_Yield g.split g.gd g.guard ?_ hco hi
    rw [g.over]
    refine wpAny_mono ((he θ).run _ s σ H _ hI.inv (ht θ)) (fun v s' hv => ?_) fun x s' hx => (g.nox x s' hx).elim
    obtain ⟨x, H1, I1, rv, γ', hy, hq⟩ := hv
    refine ⟨x, H1, γ', ip, σ, rv, hy, ⟨I1, hI.own, hI.sz⟩, fun θ' s'' eγ hr hW => ?_⟩
    have hlt := J.dec _ _ _ _ _ hy
    exact k n θ' s'' .next (by rw [eγ]; omega) ⟨σ, θ'.H, hW, by rw [eγ]; exact hq _ hr⟩
end
end GX

namespace GX
open PySem PySem.Spec PyProof.Rows GenW L2
section
variable {Θ : Type} {M : Model} {A : Around} {R : XEnd Θ} {Y : XYld Θ} {n : Nat} {θ : Θ} {c : Code} {fs : List Frame} {s : Shared} {env : Env} {K : Flow → Sem PySem.Fin} {J : Value → Sem PySem.Fin} {gd : Bool → Bool} {lv : List Value → List Value}
theorem sg_For {tg iter : Expr} {body orelse : List Stmt} {pos : Pos}
    (h : wpAny M (A.over c fs) (eval iter env) (fun x s1 => wpAny M (A.over c fs) (pyIter x) (fun it s2 => ∀ p, Sg M A R Y n θ (.forLoop tg it body orelse env) (M.den (.forLoop tg it body orelse env))
      (.ret (fun r => ((match r with | .ok f => (.pure f : Sem Flow) | .error e => .raise e).onRaise (cameBack env)).wrap K J gd lv) none (gd false) (lv []) c p [] :: fs) s2) (fun x s' => Sg M A R Y n θ c (J x) fs s') s1) (fun x s' => Sg M A R Y n θ c (J x) fs s') s)
    (hs : ∀ x, foldedSetIterable iter env x = pure x := by intro _; rfl) : Sg M A R Y n θ c ((exec (.For tg iter body orelse pos) env).wrap K J gd lv) fs s := by
  rw [exec_For]
  refine sg_bind_wrap (wpAny_standAt (sg_bind_wrap (wpAny_mono h (fun x s1 h1 => ?_) fun _ _ z => z)))
  refine sg_bind_wrap (wpAny_of_eq (hs x) (sg_bind_wrap (wpAny_standAt (sg_bind_wrap (wpAny_holding (wpAny_mono h1 (fun it s2 h2 => ?_) fun _ _ z => z))))))
  exact sg_call h2
end
section
variable {Θ : Type} {prog : Program} {w : World} {A : Around} {R : XEnd Θ} {Y : XYld Θ} {n : Nat} {θ : Θ} {fs : List Frame} {s : Shared} {env : Env}
/-- one turn -/
theorem sg_forLoop {tg : Expr} {it : Value} {body orelse : List Stmt}
    (h : wpAny (model prog w) (A.over (.forLoop tg it body orelse env) fs) (pyNext it) (fun r s1 => match r with
        | none => Sg (model prog w) A R Y n θ (.forLoop tg it body orelse env) (.pure (.again (.block orelse env))) fs s1
        | some v => wpAny (model prog w) (A.over (.forLoop tg it body orelse env) fs) (letOwnedTupleGo tg it v) (fun _ s2 => wpAny (model prog w) (A.over (.forLoop tg it body orelse env) fs) (assign tg env v) (fun _ s3 =>
            Sg (model prog w) A R Y n θ (.forLoop tg it body orelse env) ((execs body env).wrap (fun f => match f with
              | .next | .cont => .pure (.again (.forLoop tg it body orelse env))
              | .brk => .pure (.done .next)
              | .ret v => .pure (.done (.ret v))) (fun e => (do noteFrame e env; theTreesLotGoes e : Sem Unit).wrap (fun _ => .raise e) .raise id id) id id) fs s3) (fun _ _ => False) s2) (fun _ _ => False) s1) (fun _ _ => False) s) :
    Sg (model prog w) A R Y n θ (.forLoop tg it body orelse env) ((model prog w).den (.forLoop tg it body orelse env)) fs s := by
  show Sg _ A R Y n θ _ ((forTurn tg it body orelse env).onRaise (fun x => do noteFrame x env; theTreesLotGoes x)) fs s
  unfold forTurn
  rw [Sem.onRaise_eq_wrap]
  refine sg_bind_wrap (wpAny_standAt (sg_bind_wrap (wpAny_onRaise (wpAny_mono h (fun r s1 h1 => ?_) fun _ _ z => z.elim))))
  cases r with
  | none => exact h1
  | some v =>
    refine sg_bind_wrap (wpAny_mono h1 (fun _ s2 h2 => sg_bind_wrap (wpAny_mono h2 (fun _ s3 h3 => ?_) fun _ _ z => z.elim)) fun _ _ z => z.elim)
    rw [Sem.bind_eq_wrap', Sem.wrap_wrap]
    rw [Sem.wrap_congr (execs body env) _ _ (K' := fun f => match f with
              | .next | .cont => .pure (.again (.forLoop tg it body orelse env))
              | .brk => .pure (.done .next)
              | .ret v => .pure (.done (.ret v))) (H' := fun e => (do noteFrame e env; theTreesLotGoes e : Sem Unit).wrap (fun _ => .raise e) .raise id id) (fun f => by cases f <;> rfl)
        (fun e => by first | exact Sem.bind_eq_wrap _ _ | (show (do noteFrame e env; theTreesLotGoes e : Sem Unit).bind (fun _ => .raise e) = _; rw [Sem.bind_eq_wrap]))]
    exact h3
theorem sg_block0 {c : Code} (h : Sg (model prog w) A R Y n θ (.block [] env) (.pure (.done .next)) fs s) : Sg (model prog w) A R Y n θ c (.pure (.again (.block [] env))) fs s := sg_again rfl h
end
end GX

namespace GX
open PySem PySem.Spec PyProof.Rows GenW L2
section
variable {J : GIt} {X : Cx} {st : Stmt} {rest : List Stmt}
theorem xc_loop {A : Around} {c c' : Code} {fs : List Frame} {gd : Bool → Bool} {k : Result → Sem PySem.Fin} {l kp : List Value} {p : Pos} (g : XC X A c fs gd) (hw : c'.weight = 0) (hu : c'.cUnits = 0) : XC X A c' (.ret k none (gd false) l c p kp :: fs) id where
  over := (over_loop hw hu).trans g.over
  split := by show (splitAtGen fs).map _ = none; rw [g.split]; rfl
  guard := by show (gd false || fs.any Frame.guarded) = false; rw [g.gd, g.guard]; rfl
  gd := rfl
  nox := g.nox
  ex := g.ex
  calm := g.calm
theorem Wk.size {θ : Th J} {ip : List (Addr × Obj)} {σ : L2.St} {H : Hp} {s : Shared} (h : Wk X θ ip σ H s) : (reX X θ).s_0.heap.objs.size = X.env.locals := cutH_size h.sz
/-- fewer pins -/
theorem Wk.less {θ : Th J} {ip jp : List (Addr × Obj)} {σ : L2.St} {H : Hp} {s : Shared} (h : Wk X θ (ip ++ jp) σ H s) : Wk X θ ip σ H s :=
  ⟨h.inv.pins_of fun p hp => h.inv.pin p (List.mem_append_right _ (by rw [← List.append_assoc]; exact List.mem_append_left _ hp)), fun q hq => h.own q (List.mem_append_left _ hq), h.sz⟩
def tXFor (wi : Th J → TI) (g : Th J → TG) (tb : TX J) : TX J := fun D γ Hw σ H => ∀ θ : Th J, wi θ σ H fun It H1 => ∃ W : Nat → Nat → J.Γ → Hp → L2.St → Hp → Prop, (∃ m, W 0 m γ Hw σ H1) ∧ ∀ i m γ Hw σ H, W i m γ Hw σ H →
  (It.stop i H ∧ D.nx γ Hw σ H) ∨ (It.go i H ∧ ∃ N : J.Γ → Hp → L2.St → Hp → Prop, (∀ γ' Hw' σ' H', N γ' Hw' σ' H' → ∃ m', m' < m ∧ W (i + 1) m' γ' Hw' σ' H') ∧ ∀ x H', It.yld i H x H' → ∀ θ : Th J, g θ x σ H' fun σ2 H2 => tb { D with nx := N, ct := N, bk := D.nx } γ Hw σ2 H2)
theorem xs_for {tg iter : Expr} {body : List Stmt} {pos : Pos} {wi : Th J → TI} {tg' : Th J → TG} {tb : TX J} (hi : ∀ θ : Th J, PI (reX X θ) tg iter (wi θ)) (hg : ∀ θ : Th J, PG (reX X θ) tg (tg' θ)) (hb : XSs X body tb)
    (hs : ∀ x, foldedSetIterable iter X.env x = pure x := by intro _; rfl) : XS X (.For tg iter body [] pos) (tXFor wi tg' tb) := by
  refine ⟨fun A ip n θ c fs K Jx gd lv s σ H D g hn k hI ht => sg_For ?_ hs⟩
  rw [g.over]
  refine wpAny_mono ((hi θ).run _ s σ H _ hI.inv (ht θ)) (fun v s1 h1 => wpAny_mono h1 (fun itv s2 h2 => ?_) fun x s' hx => (g.nox x s' hx).elim) fun x s' hx => (g.nox x s' hx).elim
  obtain ⟨it, fp, tn, It, H2, e, I2, T, st2, f2, W, ⟨m0, w0⟩, turn⟩ := h2
  subst e
  intro p
  have gl := fun (kk : Result → Sem PySem.Fin) => xc_loop (k := kk) (c' := .forLoop tg (.ref it) body [] X.env) (l := lv []) (kp := []) (p := p) g rfl rfl
  have loop : ∀ (m n i : Nat) (θ : Th J) (s : Shared) (σ : L2.St) (H : Hp), J.rank θ.γ ≤ n → W i m θ.γ θ.H σ H → Wk X θ ip σ H s → tn i s.heap → (∀ b ∈ fp, FpOk (reX X θ) (θ.xp ++ ip) H b) →
      Sg (model X.prog X.w) A (RX X) (YX X) n θ (.forLoop tg (.ref it) body [] X.env) ((model X.prog X.w).den (.forLoop tg (.ref it) body [] X.env))
        (.ret (fun r => ((match r with | .ok f => (.pure f : Sem Flow) | .error e => .raise e).onRaise (cameBack X.env)).wrap K Jx gd lv) none (gd false) (lv []) c p [] :: fs) s := by
    intro m
    induction m using Nat.strongRecOn with
    | ind m ih =>
      intro n i θ s σ H hn w hI st hfp
      refine sg_forLoop ?_
      rw [(gl _).over]
      rcases turn i m θ.γ θ.H σ H w with ⟨stop, q⟩ | ⟨go, N, hN, step⟩
      · refine wpAny_mono (T.done (reX X θ) rfl rfl rfl g.calm i _ s σ H (fun _ _ => False) hI.inv hfp st stop) (fun r s4 hq => ?_) fun _ _ z => z
        obtain ⟨hr, I4⟩ := hq
        subst hr
        exact sg_block0 (sg_leaf (.ok .next) (k n θ s4 .next hn ⟨σ, H, ⟨I4, hI.own, hI.sz⟩, q⟩))
      · refine wpAny_mono (T.item (reX X θ) rfl rfl rfl g.calm i _ s σ H (fun _ _ => False) hI.inv hfp st go) (fun r s4 hq => ?_) fun _ _ z => z
        obtain ⟨u, hr, h4⟩ := hq
        subst hr
        refine wpAny_mono h4 (fun _ s5 hq => ?_) fun _ _ z => z
        obtain ⟨x, H5, I5, r5, y5, st5, n5⟩ := hq
        have f5 : ∀ b ∈ fp, FpOk (reX X θ) (θ.xp ++ ip) H5 b := fun b hb => ⟨n5 b hb, (hfp b hb).2⟩
        have I5' := I5.pinned f5 (T.obj _ _ st5)
        refine wpAny_mono ((hg θ).run _ s5 σ H5 x u _ I5' r5 (step x H5 y5 θ)) (fun _ s6 hq => ?_) fun x s' hx => g.nox x s' hx
        obtain ⟨σ6, H6, I6, q6⟩ := hq
        rw [List.append_assoc] at I6
        have ow : ∀ q ∈ ip ++ pinsAt fp s5.heap, X.env.locals ≤ q.1 ∧ ∀ p ∈ θ.xp, p.1 ≠ q.1 := fun q hq => by
          rcases List.mem_append.mp hq with z | z
          · exact hI.own q z
          · obtain ⟨hb, _⟩ := of_pinsAt z
            obtain ⟨_, _, _, f3, _, f4⟩ := f5 q.1 hb
            refine ⟨?_, fun p hp => f4 p (List.mem_append_right _ (List.mem_append_left _ hp))⟩
            rcases f3 with y | y
            · have y' : q.1 ∈ X.ex := y
              rw [g.ex] at y'; cases y'
            · rw [hI.size] at y; exact y
        refine hb.run A (ip ++ pinsAt fp s5.heap) n θ _ _ _ _ id id s6 σ6 H6 { D with nx := N, ct := N, bk := D.nx } (gl _) hn (fun n' θ' s7 f hn' hs7 => ?_) ⟨I6, ow, hI.sz⟩ q6
        have again : ∀ {σ7 : L2.St} {H7 : Hp}, Wk X θ' (ip ++ pinsAt fp s5.heap) σ7 H7 s7 → N θ'.γ θ'.H σ7 H7 → Sg (model X.prog X.w) A (RX X) (YX X) n' θ' (.forLoop tg (.ref it) body [] X.env) (.pure (.again (.forLoop tg (.ref it) body [] X.env)))
            (.ret (fun r => ((match r with | .ok f => (.pure f : Sem Flow) | .error e => .raise e).onRaise (cameBack X.env)).wrap K Jx gd lv) none (gd false) (lv []) c p [] :: fs) s7 := fun {σ7 H7} hW n7 => by
          obtain ⟨m', hm, w7⟩ := hN _ _ σ7 H7 n7
          have pin7 : ∀ b ∈ fp, ∀ o, s5.heap.get? b = some o → s7.heap.get? b = some o ∧ H7 b = none := fun b hb o e =>
            let z := hW.inv.pin (b, o) (List.mem_append_right _ (List.mem_append_right _ (List.mem_append_right _ (mem_pinsAt hb e))))
            ⟨z.1, z.2.1⟩
          refine sg_again rfl (ih m' hm n' (i + 1) θ' s7 σ7 H7 hn' w7 hW.less (T.keep _ _ _ st5 fun b hb o e => (pin7 b hb o e).1) fun b hb => ?_)
          obtain ⟨o, e, d⟩ := T.obj _ _ st5 b hb
          obtain ⟨_, f1, f2, f3, f4, f5'⟩ := f5 b hb
          refine ⟨(pin7 b hb o e).2, f1, f2, ?_, f4, fun p hp => ?_⟩
          · rcases f3 with y | y
            · exact .inl y
            · rw [hI.size] at y
              exact .inr (by rw [hW.size]; exact y)
          · rcases List.mem_append.mp hp with z | z
            · exact f5' p (List.mem_append_left _ z)
            · rcases List.mem_append.mp z with z | z
              · exact (hW.own (b, o) (List.mem_append_right _ (mem_pinsAt hb e))).2 p z
              · exact f5' p (List.mem_append_right _ (List.mem_append_right _ z))
        cases f with
        | next => obtain ⟨σ7, H7, hW, n7⟩ := hs7; exact again hW n7
        | cont => obtain ⟨σ7, H7, hW, n7⟩ := hs7; exact again hW n7
        | brk => obtain ⟨σ7, H7, hW, q7⟩ := hs7; exact sg_leaf (.ok .next) (k n' θ' s7 .next hn' ⟨σ7, H7, hW.less, q7⟩)
        | ret v => obtain ⟨x7, σ7, H7, hW, r7, q7⟩ := hs7; exact sg_leaf (.ok (.ret v)) (k n' θ' s7 (.ret v) hn' ⟨x7, σ7, H7, hW.less, r7, q7⟩)
  exact loop m0 n 0 θ s2 σ H2 hn w0 ⟨I2, hI.own, hI.sz⟩ st2 f2
end
end GX

namespace GX
open PySem PySem.Spec PyProof.Rows GenW L2
/-- the generator's context: what never changes -/
structure GenOk (P : Program) (w : World) (K : PySem.W.Frag) (mg : Str → Option Value) (base : Heap) (A : Around) (outer : List Env) (L a : Addr) (go : Obj) (X : Cx) : Prop where
  progE : X.prog = P
  wE : X.w = w
  KE : X.K = K
  mgE : X.mg = mg
  baseE : X.base = base
  loc : X.env.locals = L
  outerE : X.outer = outer
  stack : X.stack = X.env :: outer
  frame : X.env.frame = some L
  cells : X.env.cells = []
  nocell : ∀ x, X.env.kindOf x ≠ some .cell ∧ X.env.kindOf x ≠ some .free
  kind : X.env.scope.kind = .function
  glob : X.env.globals = mainGlobals
  blt : X.env.builtins = builtinsNs
  ex : X.ex = []
  calm : X.calm = true
  here : X.A = A.deeper X.env
  pn : X.pn = [(a, go)]
  hd : A.handled = none
  fr : A.frames = some outer
  bsz : base.objs.size ≤ L
  frL : ∀ b ∈ frs outer, b < L
  lt : L < a
  gd : ∀ v, go.data ≠ .cell v
  nox : ∀ e s, ¬ X.xe e s
/-- the consumer -/
structure Con (P : Program) (w : World) (K : PySem.W.Frag) (mg : Str → Option Value) (base : Heap) (outer : List Env) (L : Addr) (X : Cx) : Prop where
  progE : X.prog = P
  wE : X.w = w
  KE : X.K = K
  mgE : X.mg = mg
  baseE : X.base = base
  stack : X.stack = outer
  cell : ∀ x c, X.env.cells.lookup x = some c → c < L
  young : ∀ b, L ≤ b → b < X.s_0.heap.objs.size → b ∈ X.ex
def LocOk (X : Cx) (σ : L2.St) (ol : Obj) : Prop := ∃ m : Str → Option Value, (∃ es ep, ol.data = .dict es ep ∧ StrKeys es ∧ ∀ name, nsFind es name = m name) ∧
  ∀ (i : Nat) (x : Str) (v : V), X.N[i]? = some x → σ[i]? = some (some v) → Vis X.env.scope x → ∃ u, RelV v u ∧ X.env.kindOf x = some .local ∧ m x = some u
theorem funs_cut {h base : Heap} {L : Nat} : ∀ {l : List Env}, h.FunFrames base l → (∀ b ∈ frs l, b < L) → (cutH L h).FunFrames base l
  | [], _, _ => True.intro
  | env :: rest, ⟨hk, ⟨F, o, hf, hn, ho, hd⟩, hr⟩, hb => by
    have e : frs (env :: rest) = F :: frs rest := by unfold frs; rw [List.filterMap_cons, hf]
    refine ⟨hk, ⟨F, o, hf, hn, cutH_of ho (hb F (by rw [e]; exact List.mem_cons_self)), hd⟩, funs_cut hr fun b z => hb b (by rw [e]; exact List.mem_cons_of_mem _ z)⟩
def xpOf (L : Addr) (X : Cx) (pins : List (Addr × Obj)) (s : Shared) : List (Addr × Obj) := ((X.pn ++ pins) ++ pinsAt [X.env.locals] s.heap).filter fun p => decide (L ≤ p.1)
section
variable {P : Program} {w : World} {K : PySem.W.Frag} {mg : Str → Option Value} {base : Heap} {A : Around} {outer : List Env} {L a : Addr} {go ol : Obj} {X Xc : Cx} {J : GIt} {γ : J.Γ} {pins ip : List (Addr × Obj)} {σ σc : L2.St} {H H1 : Hp} {s s1 : Shared}
theorem xp_mem (I : Inv Xc pins σc H s) {p : Addr × Obj} (hp : p ∈ xpOf L Xc pins s) : (p ∈ Xc.pn ++ pins ∨ p.1 = Xc.env.locals) ∧ L ≤ p.1 ∧ s.heap.get? p.1 = some p.2 ∧ H p.1 = none ∧ ∀ v, p.2.data ≠ .cell v := by
  obtain ⟨h1, h2⟩ := List.mem_filter.mp hp
  have h2 := of_decide_eq_true h2
  rcases List.mem_append.mp h1 with z | z
  · obtain ⟨q1, q2, _, _, q5⟩ := I.pin p z
    exact ⟨.inl z, h2, q1, q2, q5⟩
  · obtain ⟨z1, z2⟩ := of_pinsAt z
    have e : p.1 = Xc.env.locals := List.mem_singleton.mp z1
    refine ⟨.inr e, h2, z2, by rw [e]; exact I.free, fun v q => ?_⟩
    obtain ⟨m, ⟨o, es, ep, ho, hd, _⟩, _⟩ := I.loc
    rw [e, ho] at z2
    rw [← Option.some.inj z2, hd] at q
    cases q
theorem Wk.locOk {θ : Th J} {ip : List (Addr × Obj)} (G : GenOk P w K mg base A outer L a go X) (W : Wk X θ ip σ H s) : ∃ ol, s.heap.get? L = some ol ∧ (∀ v, ol.data ≠ .cell v) ∧ LocOk X σ ol := by
  obtain ⟨m, ⟨o, es, ep, ho, hd, hk, hf⟩, hl⟩ := W.inv.loc
  refine ⟨o, (by rw [← G.loc]; exact ho), (fun v q => by rw [hd] at q; cases q), m, ⟨es, ep, hd, hk, hf⟩, fun i x v e1 e2 e3 => ?_⟩
  obtain ⟨u, r, q⟩ := hl i x v e1 e2 e3
  rcases q with ⟨q1, q2⟩ | ⟨q1, _⟩
  · exact ⟨u, r, q1, q2⟩
  · rcases q1 with z | z
    · exact absurd z (G.nocell x).1
    · exact absurd z (G.nocell x).2
theorem wake (γ : J.Γ) (G : GenOk P w K mg base A outer L a go X) (C : Con P w K mg base outer L Xc) (I : Inv Xc pins σc H s) (hL : s.heap.get? L = some ol) (ha : s.heap.get? a = some go)
    (hip : ∀ p ∈ ip, s.heap.get? p.1 = some p.2 ∧ L ≤ p.1 ∧ p.1 ≠ L ∧ ∀ v, p.2.data ≠ .cell v) (fL : FpOk Xc pins H L) (fa : FpOk Xc pins H a) (fi : ∀ p ∈ ip, FpOk Xc pins H p.1) (lo : LocOk X σ ol) (ln : σ.length = X.N.length) :
    Wk X ⟨γ, H, s, xpOf L Xc pins s⟩ ip σ H s := by
  have hLs : L ≤ s.heap.objs.size := Nat.le_of_lt (Heap.lt_size hL)
  have bb : ∀ b o, X.base.get? b = some o → b < L := fun b o e => Nat.lt_of_lt_of_le (Heap.lt_size e) (by rw [G.baseE]; exact G.bsz)
  have nfr : ∀ b, L ≤ b → b ∉ frs X.outer := fun b hb z => by rw [G.outerE] at z; exact absurd (Nat.lt_of_le_of_lt hb (G.frL b z)) (Nat.lt_irrefl _)
  have eb : X.base = Xc.base := G.baseE.trans C.baseE.symm
  have est : X.outer = Xc.stack := G.outerE.trans C.stack.symm
  have ok : (reX X (⟨γ, H, s, xpOf L Xc pins s⟩ : Th J)).Ok := by
    refine ⟨?_, G.kind, G.glob, G.blt, cutH_le, fun x y c h => ?_, fun x h => ?_, fun x c _ h => ?_, fun _ => ?_, ?_, .inr ⟨?_, ?_⟩, fun b z => ?_, fun b o e => ?_, ?_, fun b o _ z => ?_, fun b z => ?_, ?_, fun b hb => ?_⟩
    · show Mod X.K X.mg X.base
      rw [G.KE, G.mgE, G.baseE, ← C.KE, ← C.mgE, ← C.baseE]; exact I.mod
    · have h : X.env.cells.lookup x = some c := h
      rw [G.cells] at h; cases h
    · rcases h with h | h
      · exact absurd h (G.nocell x).1
      · exact absurd h (G.nocell x).2
    · have h : X.env.cells.lookup x = some c := h
      rw [G.cells] at h; cases h
    · show X.A.handled = none
      rw [G.here]; exact G.hd
    · show X.A.frames = some X.stack
      rw [G.here, G.stack]; exact Around.frames_deeper G.fr
    · show X.stack = X.env :: X.outer
      rw [G.stack, G.outerE]
    · show X.env.frame = some X.env.locals
      rw [G.frame, G.loc]
    · have z : b ∈ X.ex := z
      rw [G.ex] at z; cases z
    · have e : X.base.get? b = some o := e
      refine ⟨?_, ?_⟩
      · show (cutH X.env.locals s.heap).get? b = some o
        rw [G.loc]
        exact cutH_of (I.bk b o (by rw [← eb]; exact e)) (bb b o e)
      · exact (I.bs b o (by rw [← eb]; exact e)).2
    · show X.base.objs.size ≤ (cutH X.env.locals s.heap).objs.size
      rw [G.loc, cutH_size hLs, G.baseE]; exact G.bsz
    · have z : b ∈ X.ex := z
      rw [G.ex] at z; cases z
    · have z : b ∈ X.ex := z
      rw [G.ex] at z; cases z
    · show (cutH X.env.locals s.heap).FunFrames X.base X.outer
      rw [G.loc, est, eb]
      exact funs_cut I.stack fun b hb => G.frL b (by rw [← C.stack]; exact hb)
    · have hb : b ∈ frs X.outer := hb
      rw [est] at hb
      exact I.stkFree b hb
  refine ⟨⟨ok, rfl, I.bare, Un.kept fun b o e => cutH_up e, ?_, fun x c h => ?_, ?_, fun x c h => ?_, fun p hp => ?_, ?_, ln⟩, fun q hq => ⟨by rw [G.loc]; exact (hip q hq).2.1, fun p hp => ?_⟩, by rw [G.loc]; exact hLs⟩
  · obtain ⟨m, ⟨es, ep, hd, hk, hf⟩, hl⟩ := lo
    refine ⟨m, ⟨ol, es, ep, ?_, hd, hk, hf⟩, fun i x v e1 e2 e3 => ?_⟩
    · show s.heap.get? X.env.locals = some ol
      rw [G.loc]; exact hL
    · obtain ⟨u, r, q1, q2⟩ := hl i x v e1 e2 e3
      exact ⟨u, r, .inl ⟨q1, q2⟩⟩
  · have h : X.env.cells.lookup x = some c := h
    rw [G.cells] at h; cases h
  · show H X.env.locals = none
    rw [G.loc]; exact fL.1
  · have h : X.env.cells.lookup x = some c := h
    rw [G.cells] at h; cases h
  · have hp : p ∈ X.pn ++ (xpOf L Xc pins s ++ ip) := hp
    show s.heap.get? p.1 = some p.2 ∧ H p.1 = none ∧ p.1 ≠ X.env.locals ∧ p.1 ∉ frs X.outer ∧ _
    rw [G.pn] at hp
    rcases List.mem_append.mp hp with z | z
    · rw [List.mem_singleton.mp z, G.loc]
      exact ⟨ha, fa.1, Nat.ne_of_gt G.lt, nfr a (Nat.le_of_lt G.lt), G.gd⟩
    · rcases List.mem_append.mp z with z | z
      · obtain ⟨q0, q1, q2, q3, q4⟩ := xp_mem I z
        refine ⟨q2, q3, ?_, nfr _ q1, q4⟩
        rw [G.loc]
        rcases q0 with y | y
        · exact fL.2.2.2.2.2 p y
        · rw [y]; exact Ne.symm fL.2.1
      · obtain ⟨q1, q2, q3, q4⟩ := hip p z
        exact ⟨q1, (fi p z).1, by rw [G.loc]; exact q3, nfr _ q2, q4⟩
  · show HOk X.prog X.w H s.heap
    rw [G.progE, G.wE, ← C.progE, ← C.wE]; exact I.hok
  · obtain ⟨q0, _⟩ := xp_mem I hp
    rcases q0 with y | y
    · exact (fi q hq).2.2.2.2.2 p y
    · rw [y]; exact Ne.symm (fi q hq).2.1
theorem back {θ : Th J} (G : GenOk P w K mg base A outer L a go X) (C : Con P w K mg base outer L Xc) (I : Inv Xc pins σc H s) (fL : FpOk Xc pins H L) (fa : FpOk Xc pins H a) (eH : θ.H = H) (es : θ.s = s) (ex : θ.xp = xpOf L Xc pins s) (W : Wk X θ ip σ H1 s1) :
    Inv Xc pins σc H1 s1 ∧ FpOk Xc pins H1 L ∧ FpOk Xc pins H1 a ∧ ∀ p ∈ ip, FpOk Xc pins H1 p.1 := by
  subst eH es
  have un : Un (frs X.outer) X.ex θ.H H1 (cutH X.env.locals θ.s.heap) s1.heap := W.inv.base
  rw [G.outerE, G.ex, G.loc] at un
  have xin : ∀ p ∈ Xc.pn ++ pins, L ≤ p.1 → p ∈ xpOf L Xc pins θ.s := fun p hp hl => List.mem_filter.mpr ⟨List.mem_append_left _ hp, decide_eq_true hl⟩
  have xloc : L ≤ Xc.env.locals → ∃ o, (Xc.env.locals, o) ∈ xpOf L Xc pins θ.s := fun hl => by
    obtain ⟨m, ⟨o, _, _, ho, _⟩, _⟩ := I.loc
    exact ⟨o, List.mem_filter.mpr ⟨List.mem_append_right _ (mem_pinsAt List.mem_cons_self ho), decide_eq_true hl⟩⟩
  have kept : ∀ p ∈ xpOf L Xc pins θ.s, s1.heap.get? p.1 = some p.2 ∧ H1 p.1 = none := fun p hp => by
    obtain ⟨q1, q2, _⟩ := W.inv.pin p (List.mem_append_right _ (List.mem_append_left _ (by rw [ex]; exact hp)))
    exact ⟨q1, q2⟩
  have inx : ∀ b o, θ.s.heap.get? b = some o → L ≤ b → b ∉ ((List.range θ.s.heap.objs.size).filter fun b => decide (L ≤ b) && decide (b ∉ (xpOf L Xc pins θ.s).map (·.1))) → ∃ p ∈ xpOf L Xc pins θ.s, p.1 = b := fun b o e hl hc => by
    by_cases z : b ∈ (xpOf L Xc pins θ.s).map (·.1)
    · obtain ⟨p, hp, e⟩ := List.mem_map.mp z
      exact ⟨p, hp, e⟩
    · exact absurd (List.mem_filter.mpr ⟨List.mem_range.mpr (Heap.lt_size e), by rw [decide_eq_true hl, decide_eq_true z]; rfl⟩) hc
  have I1 : Inv Xc pins σc H1 s1 := by
    refine I.call' (ch := (List.range θ.s.heap.objs.size).filter fun b => decide (L ≤ b) && decide (b ∉ (xpOf L Xc pins θ.s).map (·.1))) W.inv.os ⟨fun b o e n hb hc => ?_, fun b o e n hb hc => ?_, fun b o e n hc => ?_, fun b o e hc => ?_, un.tups, un.frzs, un.tbls⟩ ?_ W.inv.bare fun b hb => ?_
    · by_cases hl : b < L
      · exact un.keep b o (cutH_of e hl) n (by rw [← C.stack]; exact hb) (by simp)
      · obtain ⟨p, hp, ep⟩ := inx b o e (Nat.le_of_not_lt hl) hc
        obtain ⟨_, _, q, _⟩ := xp_mem I hp
        rw [ep, e] at q
        rw [← ep, (kept p hp).1, ← Option.some.inj q]
    · rw [C.stack] at hb
      exact un.slot b o (cutH_of e (G.frL b hb)) n hb (by simp)
    · by_cases hl : b < L
      · exact un.free b o (cutH_of e hl) n (by simp)
      · obtain ⟨p, hp, ep⟩ := inx b o e (Nat.le_of_not_lt hl) hc
        rw [← ep]; exact (kept p hp).2
    · by_cases hl : b < L
      · exact un.there b o (cutH_of e hl) (by simp)
      · obtain ⟨p, hp, ep⟩ := inx b o e (Nat.le_of_not_lt hl) hc
        rw [← ep]; exact ⟨_, (kept p hp).1⟩
    · have q := W.inv.hok
      have q : HOk X.prog X.w H1 s1.heap := q
      rw [C.progE, C.wE, ← G.progE, ← G.wE]; exact q
    · obtain ⟨h1, h2⟩ := List.mem_filter.mp hb
      rw [Bool.and_eq_true] at h2
      have hl := of_decide_eq_true h2.1
      have hx := of_decide_eq_true h2.2
      refine ⟨?_, fun z => ?_, fun x c e z => ?_, fun p hp z => ?_⟩
      · by_cases q : b < Xc.s_0.heap.objs.size
        · exact .inl (C.young b hl q)
        · exact .inr (Nat.le_of_not_lt q)
      · obtain ⟨o, ho⟩ := xloc (by rw [← z]; exact hl)
        exact hx (List.mem_map.mpr ⟨_, ho, z.symm⟩)
      · have q := C.cell x c e
        rw [z] at q
        exact absurd (Nat.lt_of_le_of_lt hl q) (Nat.lt_irrefl _)
      · exact hx (List.mem_map.mpr ⟨p, xin p hp (by rw [z]; exact hl), z⟩)
  have fL1 : H1 L = none := by
    have z := W.inv.free
    have z : H1 X.env.locals = none := z
    rw [G.loc] at z; exact z
  have fa1 : H1 a = none := (W.inv.pin (a, go) (List.mem_append_left _ (by show (a, go) ∈ X.pn; rw [G.pn]; exact List.mem_cons_self))).2.1
  refine ⟨I1, ⟨fL1, fL.2⟩, ⟨fa1, fa.2⟩, fun p hp => ?_⟩
  obtain ⟨hl, hd⟩ := W.own p hp
  rw [G.loc] at hl
  rw [ex] at hd
  refine ⟨(W.inv.pin p (List.mem_append_right _ (List.mem_append_right _ hp))).2.1, fun z => ?_, fun z => ?_, ?_, fun x c e z => ?_, fun q hq z => ?_⟩
  · obtain ⟨o, ho⟩ := xloc (by rw [← z]; exact hl)
    exact hd _ ho z.symm
  · have z2 : p.1 ∈ frs outer := by
      rw [← C.stack]
      rcases I.ok.stk with e | ⟨e, _⟩
      · rw [e]; exact z
      · rw [e]
        unfold frs
        rw [List.filterMap_cons]
        cases Xc.env.frame with
        | none => exact z
        | some _ => exact List.mem_cons_of_mem _ z
    exact absurd (Nat.lt_of_le_of_lt hl (G.frL _ z2)) (Nat.lt_irrefl _)
  · by_cases q : p.1 < Xc.s_0.heap.objs.size
    · exact .inl (C.young _ hl q)
    · exact .inr (Nat.le_of_not_lt q)
  · have q := C.cell x c e
    rw [z] at q
    exact absurd (Nat.lt_of_le_of_lt hl q) (Nat.lt_irrefl _)
  · exact hd q (xin q hq (by rw [z]; exact hl)) z
end
end GX

namespace GX
open PySem PySem.Spec PyProof.Rows GenW L2
def Susp (gs : GenState) : Prop := ∃ k l c p fs cl, gs = .suspended k l c p fs cl
section
variable {Θ : Type} {M : Model}
def GoesX (M : Model) (A : Around) (R : XEnd Θ) (Y : XYld Θ) (n : Nat) (gs : GenState) (θ : Θ) (s : Shared) : Prop :=
  match gs with
  | .fresh c => Sg M A R Y n θ c (M.den c) [] s
  | .suspended k _ c _ fs _ => Sg M A R Y n θ c (k (.send .none)) fs s
  | _ => False
def GoN (M : Model) (A : Around) (R : XEnd Θ) (Y : XYld Θ) (gs : GenState) : Nat → Θ → Shared → Prop
  | 0 => fun _ _ => False
  | m + 1 => GoesX M A R Y m gs
theorem wpAny_resumeX {A : Around} {R : XEnd Θ} {Y : XYld Θ} {n : Nat} {θ : Θ} {E : Value → Shared → Prop} {s : Shared} {g : Nat} {gs : GenState} {l : List Value} {α : Type} {k : GenResult → Sem α} {Q : α → Shared → Prop} (hg : s.gens[g]? = some gs)
    (hgo : GoesX M A R Y n gs θ (s.setGen g .running))
    (hR : ∀ x s₁, R θ x s₁ → wpAny M A (k (End.ret x).result) Q E (s₁.setGen g .finished))
    (hY : ∀ v s₁ gs', gs'.bare = true → Susp gs' → Y θ v s₁ (GoN M A R Y gs' n) → wpAny M A (k (.yielded v)) Q E (s₁.setGen g gs')) :
    wpAny M A (.resume g (.send .none) l k) Q E s := by
  intro Γ p hΓ
  rw [Sem.wp_resume]
  have hB : ∀ c, (Γ.wake c p).Woken A := fun c => hΓ.wake c p
  have fin : ∀ e₁ s₁, SgEnd R Y (Sg.nxt M A R Y n) θ e₁ s₁ → Sem.wp M Γ (k e₁.result) (fun a _ s' => Q a s') (fun e _ s' => E e s') p (s₁.setGen g e₁.genState) := fun e₁ s₁ he => by
    cases e₁ with
    | ret x => exact hR x s₁ he Γ p hΓ
    | susp v g₀ l₀ k₀ c₀ p₀ fs₀ =>
      refine hY v s₁ _ (End.bare_of_quiet he.1) ⟨_, _, _, _, _, _, rfl⟩ ?_ Γ p hΓ
      cases n with
      | zero => exact he.2
      | succ m => exact he.2
  have hqt : ∀ e₁ s₁, SgEnd R Y (Sg.nxt M A R Y n) θ e₁ s₁ → e₁.quiet = true := fun e₁ s₁ he => by
    cases e₁ with
    | ret x => rfl
    | susp v g₀ l₀ k₀ c₀ p₀ fs₀ => exact he.1
  cases gs with
  | fresh c =>
    obtain ⟨e₁, s₁, hr, he⟩ := sg_iff.mp hgo (Γ.wake c p) p rfl (hB c)
    exact ⟨_, _, by unfold Wakes; rw [hg]; exact ⟨e₁, s₁, hr, hqt e₁ s₁ he, rfl, rfl⟩, fin e₁ s₁ he⟩
  | suspended k₀ l₀ c₀ p₀ fs₀ cl =>
    obtain ⟨e₁, s₁, hr, he⟩ := sg_iff.mp hgo (Γ.wake c₀ p) p₀ rfl (hB c₀)
    exact ⟨_, _, by unfold Wakes; rw [hg]; exact ⟨e₁, s₁, hr, hqt e₁ s₁ he, rfl, rfl⟩, fin e₁ s₁ he⟩
  | running => exact hgo.elim
  | finished => exact hgo.elim
end
section
variable {P : Program} {w : World} {A : Around} {E : Value → Shared → Prop} {s : Shared}
theorem next_genX {Θ : Type} {a : Addr} {g n : Nat} {gs : GenState} {R : XEnd Θ} {Y : XYld Θ} {θ : Θ} {Q : Option Value → Shared → Prop} (hh : A.handled = none)
    (hl : s.heap.NoLimit) (hroom : A.depth < recursionLimit) (hg : s.heap.IsGen a g) (hgs : s.gens[g]? = some gs)
    (hgo : GoesX (model P w) A.in1 R Y n gs θ (s.setGen g .running))
    (hRR : ∀ r s₁, R θ r s₁ → r = .ok (.ret .none) ∨ r = .ok .next)
    (hY : ∀ v s₁ gs', gs'.bare = true → Susp gs' → Y θ v s₁ (GoN (model P w) A.in1 R Y gs' n) → Q (some v) (s₁.setGen g gs'))
    (hP : ∀ r s₁, R θ r s₁ → ∀ h', (∀ b o, s₁.heap.get? b = some o → h'.get? b = some o) → Q none { s₁.setGen g .finished with heap := h' }) :
    wpAny (model P w) A (pyNext (.ref a)) Q E s := by
  unfold pyNext
  refine wpAny_bind (wpAny_attempt (wpAny_callSpecial?_slot (name := Str.ofString "__next__") hg.typeIs slot_gen_next
    (wpAny_call_entry slot_gen_next hg.typeIs entry_gen_next ?_ (args_gen_next _))))
  show wpAny _ A.in1 (Builtin.Generator.genWake (.ref a) (.send .none)) _ _ s
  unfold Builtin.Generator.genWake
  refine wpAny_bind (wpAny_holding (wpAny_genNumber hg (wpAny_bind (wpAny_genState hgs ?_))))
  cases gs with
  | running => exact hgo.elim
  | finished => exact hgo.elim
  | _ =>
    refine wpAny_bind (wpAny_roomToWake hl hroom ?_)
    show wpAny _ A.in1 (.resume g (.send .none) [] _) _ _ s
    refine wpAny_resumeX hgs hgo (fun x s₁ hx => ?_) (fun v s₁ gs' hb hsu hv => ?_)
    · have hres : End.result (.ret x) = .returned .none := by
        rcases hRR x s₁ hx with hr | hr <;> rw [hr] <;> rfl
      first | rw [hres] | simp only [hres]
      show wpAny _ A.in1 (newExc (.type "StopIteration") [] >>= _) _ _ _
      refine wpAny_bind ?_
      simp only [newExc, newTuple]
      refine wpAny_bind (wpAny_newObj_type ?_ (by size_fits))
      refine wpAny_bind (m := firstArgMember _ _) (wpAny_of_eq (a := Value.none) (by first | rfl | (simp only [firstArgMember]; rfl)) ?_)
      refine wpAny_newObj_type ?_ (by size_fits)
      simp only [raiseNew]
      refine wpAny_bind (wpAny_bind (wpAny_handled ?_))
      first | rw [show A.in1.handled = none from hh] | rw [hh]
      refine wpAny_throw ?_
      refine wpAny_bind (wpAny_isInstance (T := "StopIteration") (b := true) ⟨_, Heap.get?_push_size _ rfl, rfl⟩ isSubtype_stop ?_)
      exact wpAny_pure (hP x s₁ hx _ fun b o hb => Heap.get?_push_of_some _ (Heap.get?_push_of_some _ hb))
    · exact wpAny_pure ⟨v, rfl, wpAny_pure (hY v s₁ gs' hb hsu hv)⟩
end
/-- the generator sleeps (or has not begun): where it stands -/
def Slp {J : GIt} (L a : Addr) (g : Nat) (go : Obj) (A : Around) (X : Cx) (γ : J.Γ) (fp : List Addr) (s : Shared) : Prop :=
  ∃ (σ : L2.St) (ip : List (Addr × Obj)) (ol : Obj) (gs : GenState) (n : Nat), fp = L :: a :: ip.map (·.1) ∧ s.heap.get? L = some ol ∧ s.heap.get? a = some go ∧ (∀ p ∈ ip, s.heap.get? p.1 = some p.2 ∧ L ≤ p.1 ∧ p.1 ≠ L ∧ ∀ v, p.2.data ≠ .cell v) ∧
    (∀ v, ol.data ≠ .cell v) ∧ LocOk X σ ol ∧ σ.length = X.N.length ∧ s.gens[g]? = some gs ∧ ∀ (θ : Th J) (s'' : Shared), θ.γ = γ → J.rdy γ θ.H → Wk X θ ip σ θ.H s'' → GoesX (model X.prog X.w) A (RX X) (YX X) n gs θ s''
theorem Slp.obj {J : GIt} {L a : Addr} {g : Nat} {go : Obj} {A : Around} {X : Cx} {γ : J.Γ} {fp : List Addr} {s : Shared} (hgd : ∀ v, go.data ≠ .cell v) (h : Slp L a g go A X γ fp s) : ∀ b ∈ fp, ∃ o, s.heap.get? b = some o ∧ ∀ v, o.data ≠ .cell v := by
  obtain ⟨σ, ip, ol, gs, n, rfl, h1, h2, h3, h4, _⟩ := h
  intro b hb
  rcases List.mem_cons.mp hb with z | z
  · exact ⟨ol, by rw [z]; exact h1, h4⟩
  · rcases List.mem_cons.mp z with z | z
    · exact ⟨go, by rw [z]; exact h2, hgd⟩
    · obtain ⟨p, hp, e⟩ := List.mem_map.mp z
      exact ⟨p.2, by rw [← e]; exact (h3 p hp).1, (h3 p hp).2.2.2⟩
theorem Slp.keep {J : GIt} {L a : Addr} {g : Nat} {go : Obj} {A : Around} {X : Cx} {γ : J.Γ} {fp : List Addr} {s s' : Shared} (h : Slp L a g go A X γ fp s) (hk : ∀ b ∈ fp, ∀ o, s.heap.get? b = some o → s'.heap.get? b = some o) (hg : s'.gens[g]? = s.gens[g]?) : Slp L a g go A X γ fp s' := by
  obtain ⟨σ, ip, ol, gs, n, rfl, h1, h2, h3, h4, h5, h6, h7, h8⟩ := h
  exact ⟨σ, ip, ol, gs, n, rfl, hk L List.mem_cons_self ol h1, hk a (List.mem_cons_of_mem _ List.mem_cons_self) go h2,
    fun p hp => ⟨hk p.1 (List.mem_cons_of_mem _ (List.mem_cons_of_mem _ (List.mem_map.mpr ⟨p, hp, rfl⟩))) p.2 (h3 p hp).1, (h3 p hp).2⟩, h4, h5, h6, by rw [hg]; exact h7, h8⟩
section
variable {P : Program} {w : World} {K : PySem.W.Frag} {mg : Str → Option Value} {base : Heap} {outer : List Env} {L a : Addr} {g : Nat} {go : Obj} {X Xc : Cx} {J : GIt} {γ : J.Γ} {pins : List (Addr × Obj)} {σc : L2.St} {H : Hp} {s : Shared} {fp : List Addr} {E : Value → Shared → Prop}
/-- one item, from the consumer's side -/
theorem next_x (G : GenOk P w K mg base Xc.A.in1 outer L a go X) (hgen : ∀ h : Heap, h.get? a = some go → h.IsGen a g) (C : Con P w K mg base outer L Xc) (hc : Xc.A.handled = none) (hdp : Xc.A.depth < recursionLimit) (I : Inv Xc pins σc H s) (S : Slp L a g go Xc.A.in1 X γ fp s)
    (hf : ∀ b ∈ fp, FpOk Xc pins H b) (hrdy : J.rdy γ H) :
    wpAny (model P w) Xc.A (pyNext (.ref a)) (fun r s1 => (r = none ∧ ∃ H', J.fin γ H H' ∧ Inv Xc pins σc H' s1) ∨
      ∃ u x H' γ' fp', r = some u ∧ RelV x u ∧ J.yld γ H x H' γ' ∧ Inv Xc pins σc H' s1 ∧ Slp L a g go Xc.A.in1 X γ' fp' s1 ∧ (∀ b ∈ fp', FpOk Xc pins H' b) ∧ ∃ gs, s1.gens[g]? = some gs ∧ Susp gs) E s := by
  obtain ⟨σ, ip, ol, gs, n, rfl, h1, h2, h3, h4, h5, h6, h7, h8⟩ := S
  have fL := hf L List.mem_cons_self
  have fa := hf a (List.mem_cons_of_mem _ List.mem_cons_self)
  have fi : ∀ p ∈ ip, FpOk Xc pins H p.1 := fun p hp => hf p.1 (List.mem_cons_of_mem _ (List.mem_cons_of_mem _ (List.mem_map.mpr ⟨p, hp, rfl⟩)))
  have Ir : Inv Xc pins σc H (s.setGen g .running) := by
    have z := I.call' (s' := s.setGen g .running) (ch := []) rfl (Un.refl (h := s.heap)) I.hok (allBare_setGen I.bare rfl) fun b hb => by simp at hb
    exact z
  have W0 := wake (s := s.setGen g .running) γ G C Ir h1 h2 h3 fL fa fi h5 h6
  have hgl : g < s.gens.size := (Array.getElem?_eq_some_iff.mp h7).1
  have go0 := h8 _ _ rfl hrdy W0
  rw [G.progE, G.wE] at go0
  refine wpAny_gsz (n := g + 1) hgl (next_genX hc I.nolimit hdp (hgen _ h2) h7 go0 (fun r s₁ hr => hr.1) (fun v s₁ gs' hb hsu hv => ?_) fun r s₁ hr h' hk => ?_)
  · intro hsz
    obtain ⟨x, H1, γ', ip', σ', rv, hy, W, kap⟩ := hv
    obtain ⟨I1, bL, ba, bi⟩ := back G C Ir fL fa rfl rfl rfl W
    obtain ⟨ol', e1, e2, e3⟩ := W.locOk G
    have ga : s₁.heap.get? a = some go := (W.inv.pin (a, go) (List.mem_append_left _ (by show (a, go) ∈ X.pn; rw [G.pn]; exact List.mem_cons_self))).1
    have hsz1 : g < s₁.gens.size := by
      have q : (s₁.setGen g gs').gens.size = s₁.gens.size := setGen_size _ _ _
      have hsz' : g + 1 ≤ (s₁.setGen g gs').gens.size := hsz
      omega
    have I2 : Inv Xc pins σc H1 (s₁.setGen g gs') := by
      have z := I1.call' (s' := s₁.setGen g gs') (ch := []) rfl (Un.refl (h := s₁.heap)) I1.hok (allBare_setGen I1.bare hb) fun b hb => by simp at hb
      exact z
    refine .inr ⟨v, x, H1, γ', L :: a :: ip'.map (·.1), rfl, rv, hy, I2, ?_, fun b hb => ?_, gs', setGen_at hsz1, hsu⟩
    · cases n with
      | zero =>
        refine ⟨σ', ip', ol', gs', 0, rfl, e1, ga, fun p hp => ?_, e2, e3, W.inv.len, setGen_at hsz1, fun θ s'' q1 q2 q3 => (kap θ s'' q1 q2 q3).elim⟩
        obtain ⟨y1, _, y3, _, y5⟩ := W.inv.pin p (List.mem_append_right _ (List.mem_append_right _ hp))
        exact ⟨y1, by rw [← G.loc]; exact (W.own p hp).1, by rw [← G.loc]; exact y3, y5⟩
      | succ m =>
        refine ⟨σ', ip', ol', gs', m, rfl, e1, ga, fun p hp => ?_, e2, e3, W.inv.len, setGen_at hsz1, fun θ s'' q1 q2 q3 => ?_⟩
        · obtain ⟨y1, _, y3, _, y5⟩ := W.inv.pin p (List.mem_append_right _ (List.mem_append_right _ hp))
          exact ⟨y1, by rw [← G.loc]; exact (W.own p hp).1, by rw [← G.loc]; exact y3, y5⟩
        · have q := kap θ s'' q1 q2 q3
          rw [G.progE, G.wE]
          exact q
    · rcases List.mem_cons.mp hb with z | z
      · rw [z]; exact bL
      · rcases List.mem_cons.mp z with z | z
        · rw [z]; exact ba
        · obtain ⟨p, hp, e⟩ := List.mem_map.mp z
          rw [← e]; exact bi p hp
  · intro _
    obtain ⟨_, H1, ip', σ', hfin, W⟩ := hr
    obtain ⟨I1, _⟩ := back G C Ir fL fa rfl rfl rfl W
    refine .inl ⟨rfl, H1, hfin, ?_⟩
    exact I1.call' (s' := { s₁.setGen g .finished with heap := h' }) (ch := []) rfl (Un.kept hk) (I1.hok.kept hk) (allBare_setGen I1.bare rfl) fun b hb => by simp at hb
end
end GX

namespace GX
open PySem PySem.Spec PyProof.Rows GenW L2
/-! ### the consumer runs; what sleeps stays asleep -/
def trapS : GenState → GenState
  | .suspended _ l c p fs cl => .suspended (fun _ => .unsupported "") l c p fs cl
  | x => x
theorem trapS_bare {x : GenState} : (trapS x).bare = x.bare := by cases x <;> rfl
theorem twin_trap (G : Array GenState) : Twin (fun i => ∃ x, G[i]? = some x ∧ Susp x) (G.map trapS) G := by
  refine ⟨by simp, fun i hi => ?_, fun i hi => ?_⟩
  · obtain ⟨x, hx, k, l, c, p, fs, cl, e⟩ := hi
    refine ⟨k, l, c, p, fs, cl, by rw [hx, e], ?_⟩
    rw [Array.getElem?_map, hx, e]; rfl
  · rw [Array.getElem?_map]
    cases q : G[i]? with
    | none => exact ⟨rfl, fun x hx => by cases hx⟩
    | some y =>
      have ny : ¬ Susp y := fun z => hi ⟨y, q, z⟩
      cases y with
      | suspended k l c p fs cl => exact absurd ⟨k, l, c, p, fs, cl, rfl⟩ ny
      | _ => exact ⟨rfl, fun x hx => by cases hx; exact True.intro⟩
theorem bare_trap {G : Array GenState} (h : AllBare G) : AllBare (G.map trapS) := fun y hy => by
  obtain ⟨x, hx, rfl⟩ := Array.mem_map.mp hy
  rw [trapS_bare]; exact h x hx
section
variable {X : Cx} {pins : List (Addr × Obj)} {σ : L2.St} {H : Hp} {s : Shared}
theorem Inv_gens {G : Array GenState} (I : Inv X pins σ H s) (hb : AllBare G) : Inv X pins σ H { s with gens := G } :=
  ⟨I.ok, I.os, hb, I.base, I.loc, I.cell, I.free, I.freeC, I.pin, I.hok, I.len⟩
/-- a run of the consumer's code: by what it does where all sleepers are traps -/
theorem run_twin {α : Type} {A : Around} {t : Sem α} {Q : α → Shared → Prop} {E : Value → Shared → Prop} {g : Nat} {gs : GenState} (hg : s.gens[g]? = some gs) (hs : Susp gs) (I : Inv X pins σ H s)
    (h : ∀ s', Inv X pins σ H s' → wpAny (model X.prog X.w) A t Q (fun _ _ => False) s') :
    wpAny (model X.prog X.w) A t (fun a r => r.gens[g]? = some gs ∧ ∃ s', Q a s' ∧ ∃ G, r = { s' with gens := G } ∧ (AllBare s'.gens → AllBare G)) E s := by
  have z := wpAny_twin (twin_trap s.gens) (h { s with gens := s.gens.map trapS } (Inv_gens I (bare_trap I.bare)))
  refine wpAny_mono (show wpAny (model X.prog X.w) A t _ _ s from z) (fun a r hr => ?_) fun e r hr => ?_
  · obtain ⟨s', G', rfl, T, old, q⟩ := hr
    refine ⟨(old g ⟨gs, hg, hs⟩).trans hg, s', q, G', rfl, fun hb y hy => ?_⟩
    obtain ⟨i, hi, e⟩ := Array.mem_iff_getElem.mp hy
    have e' : G'[i]? = some y := by rw [Array.getElem?_eq_getElem hi, e]
    by_cases p : ∃ x, s.gens[i]? = some x ∧ Susp x
    · have q2 := old i p
      rw [e'] at q2
      exact I.bare y (Array.mem_of_getElem? q2.symm)
    · have q2 := (T.new i p).1
      rw [e'] at q2
      exact hb y (Array.mem_of_getElem? q2)
  · obtain ⟨_, _, _, _, _, q⟩ := hr
    exact q.elim
theorem pg_twin {tg : Expr} {t : TG} {g : Nat} {gs : GenState} {x : V} {u : Value} {Q : L2.St → Hp → Prop} {E : Value → Shared → Prop} (hp : PG X tg t) (hx : ∀ e s, ¬ X.xe e s) (hg : s.gens[g]? = some gs) (hs : Susp gs) (I : Inv X pins σ H s) (r : RelV x u) (ht : t x σ H Q) :
    wpAny (model X.prog X.w) X.A (assign tg X.env u) (fun _ s' => s'.gens[g]? = some gs ∧ ∃ σ' H', Inv X pins σ' H' s' ∧ Q σ' H') E s := by
  refine wpAny_mono (run_twin (Q := fun _ s' => ∃ σ' H', Inv X pins σ' H' s' ∧ Q σ' H') hg hs I fun s' I' => wpAny_mono (hp.run _ s' σ H x u _ I' r ht) (fun _ _ z => z) fun e s z => hx e s z) (fun _ r hr => ?_) fun _ _ z => z
  obtain ⟨h1, s', ⟨σ', H', I', q⟩, G, rfl, hb⟩ := hr
  exact ⟨h1, σ', H', Inv_gens I' (hb I'.bare), q⟩
theorem pe_twin {e : Expr} {t : TE} {g : Nat} {gs : GenState} {Q : VK} {E : Value → Shared → Prop} (hp : PE X e t) (hx : ∀ e s, ¬ X.xe e s) (hg : s.gens[g]? = some gs) (hs : Susp gs) (I : Inv X pins σ H s) (ht : t σ H Q) :
    wpAny (model X.prog X.w) X.A (eval e X.env) (fun u s' => s'.gens[g]? = some gs ∧ EP X pins σ Q u s') E s := by
  refine wpAny_mono (run_twin (Q := fun u s' => EP X pins σ Q u s') hg hs I fun s' I' => wpAny_mono (hp.run _ s' σ H _ I' ht) (fun _ _ z => z) fun e s z => hx e s z) (fun _ r hr => ?_) fun _ _ z => z
  obtain ⟨h1, s', ⟨v, H', I', rv, q⟩, G, rfl, hb⟩ := hr
  exact ⟨h1, v, H', Inv_gens I' (hb I'.bare), rv, q⟩
theorem pts_twin {es : List Expr} {t : TT} {g : Nat} {gs : GenState} {Q : Bool → Hp → Prop} {E : Value → Shared → Prop} (hp : PTs X es t) (hx : ∀ e s, ¬ X.xe e s) (hg : s.gens[g]? = some gs) (hs : Susp gs) (I : Inv X pins σ H s) (ht : t σ H Q) :
    wpAny (model X.prog X.w) X.A (forIn es true fun c r => if r = true then do let ok ← isTrue c X.env (eval c X.env); pure (ForInStep.yield ok) else pure (ForInStep.yield r)) (fun b s' => s'.gens[g]? = some gs ∧ TP X pins σ Q b s') E s := by
  refine wpAny_mono (run_twin (Q := fun b s' => TP X pins σ Q b s') hg hs I fun s' I' => wpAny_mono (hp.run _ s' σ H _ I' ht) (fun _ _ z => z) fun e s z => hx e s z) (fun _ r hr => ?_) fun _ _ z => z
  obtain ⟨h1, s', ⟨H', I', q⟩, G, rfl, hb⟩ := hr
  exact ⟨h1, H', Inv_gens I' (hb I'.bare), q⟩
theorem pss_twin {b : List Stmt} {t : TS} {g : Nat} {gs : GenState} {D : Ends} {E : Value → Shared → Prop} (hp : PSs X b t) (hx : ∀ e s, ¬ X.xe e s) (hg : s.gens[g]? = some gs) (hs : Susp gs) (I : Inv X pins σ H s) (ht : t D σ H) :
    wpAny (model X.prog X.w) X.A (execs b X.env) (fun f s' => s'.gens[g]? = some gs ∧ SP X pins D f s') E s := by
  refine wpAny_mono (run_twin (Q := fun f s' => SP X pins D f s') hg hs I fun s' I' => wpAny_mono (hp.run _ s' σ H _ I' ht) (fun _ _ z => z) fun e s z => hx e s z) (fun f r hr => ?_) fun _ _ z => z
  obtain ⟨h1, s', q, G, rfl, hb⟩ := hr
  refine ⟨h1, ?_⟩
  cases f with
  | next => obtain ⟨σ', H', I', q⟩ := q; exact ⟨σ', H', Inv_gens I' (hb I'.bare), q⟩
  | brk => obtain ⟨σ', H', I', q⟩ := q; exact ⟨σ', H', Inv_gens I' (hb I'.bare), q⟩
  | cont => obtain ⟨σ', H', I', q⟩ := q; exact ⟨σ', H', Inv_gens I' (hb I'.bare), q⟩
  | ret v => obtain ⟨x, σ', H', I', rv, q⟩ := q; exact ⟨x, σ', H', Inv_gens I' (hb I'.bare), rv, q⟩
end
/-! ### a generator def -/
section
variable {Θ : Type} {prog : Program} {w : World} {A : Around} {R : XEnd Θ} {Y : XYld Θ} {n : Nat} {θ : Θ} {fs : List Frame} {s : Shared} {env : Env}
theorem sg_func {body : List Stmt}
    (h : Sg (model prog w) A R Y n θ (.func body env) ((execs body env).wrap (fun f => .pure (.done (.ret (match f with | .ret v => v | _ => .none)))) (fun e => (leaving env e).wrap (fun _ => .raise e) .raise id id) id id) fs s) :
    Sg (model prog w) A R Y n θ (.func body env) ((model prog w).den (.func body env)) fs s := by
  show Sg _ A R Y n θ _ (.point [] fun _ => ((execs body env).onRaise (leaving env)) >>= _) fs s
  refine sg_point ?_
  rw [Sem.onRaise_eq_wrap, Sem.bind_eq_wrap', Sem.wrap_wrap]
  rw [Sem.wrap_congr (execs body env) _ _ (K' := fun f => .pure (.done (.ret (match f with | .ret v => v | _ => .none))))
    (H' := fun e => (leaving env e).wrap (fun _ => .raise e) .raise id id) (fun f => by cases f <;> rfl) (fun e => by rw [Sem.bind_eq_wrap, Sem.wrap_wrap]; rfl)]
  exact h
end
abbrev gX (P : Program) (w : World) (K : PySem.W.Frag) (mg : Str → Option Value) (base : Heap) (N : List Str) (qual : Str) (scope : Scope) (f : Addr) (cd : Value) (A : Around) (outer : List Env) (s : Shared) (H : Hp) (pn : List (Addr × Obj)) : Cx :=
  { cxOf CX0 P w K mg base N qual scope f cd A outer s H (fun _ _ _ => False) with pn := pn, xe := fun _ _ => False }
/-- a generator that has not begun -/
def XMade (P : Program) (w : World) (K : PySem.W.Frag) (mg : Str → Option Value) (base : Heap) (k : Nat) (outer : List Env) (H : Hp) (s : Shared) (J : GIt) (γ : J.Γ) (u : Value) (s' : Shared) : Prop :=
  ∃ (a : Addr) (g : Nat) (go : Obj), u = .ref a ∧ s.heap.objs.size < a ∧ s'.heap.objs.size = a + 1 ∧ (∀ h : Heap, h.get? a = some go → h.IsGen a g) ∧ s'.os = s.os ∧ AllBare s'.gens ∧ (∀ b o, s.heap.get? b = some o → s'.heap.get? b = some o) ∧
    ∀ Aw : Around, Room k Aw → Aw.frames = some outer → ∃ X, GenOk P w K mg base Aw outer s.heap.objs.size a go X ∧ Slp s.heap.objs.size a g go Aw X γ [s.heap.objs.size, a] s'
abbrev SpX := List V → Hp → (J : GIt) → J.Γ → Prop
structure XFn (P : Program) (w : World) (K : PySem.W.Frag) (mg : Str → Option Value) (base : Heap) (k : Nat) (f : Addr) (fd : FuncData) (ps : List Str) (sp : SpX) : Prop where
  len : ∀ vs H J γ, sp vs H J γ → vs.length = ps.length
  run : ∀ (A : Around) (outer : List Env) (s : Shared) (H : Hp) (args : Args) (us : List Value) (vs : List V) (J : GIt) (γ : J.Γ), Room k A → Env0 P w K mg base A outer s H → BindsTo s fd args (ps.zip us) → Vals vs us → sp vs H J γ →
    codeAny (model P w) A (.call (.ref f) args) (fun r s' => match r with | .ok (.ret u) => XMade P w K mg base k outer H s J γ u s' | _ => False) s
theorem cellsFrom_nil : ∀ (names : List (Str × NameKind)) (n : Nat), (∀ y ∈ names, y.2 ≠ .cell) → cellsFrom n names [] = []
  | [], _, _ => rfl
  | (x, k) :: r, n, h => by
    unfold cellsFrom
    have hk : ¬ ((k == NameKind.cell) = true) := fun z => h (x, k) List.mem_cons_self (by simpa using z)
    rw [if_neg hk]
    exact cellsFrom_nil r n fun y hy => h y (List.mem_cons_of_mem _ hy)
theorem xfn_of {P : Program} {w : World} {K : PySem.W.Frag} {mg : Str → Option Value} {base : Heap} {k : Nat} {f : Addr} {name qual : Str} {params : Arguments} {body : List Stmt} {scope : Scope} {dV kV doc pm cdv ct oc : Value} {an od : Option Addr}
    {osl : Array (Option Value)} {N ps : List Str} {sp : SpX} (lk : K.lookup f = some ⟨oc, od, .func (PySem.W.fnOf name qual params body scope dV kV doc pm an cdv ct), osl⟩) (hcd : PySem.W.codeIn K cdv qual = true) (S : GScope N ps scope) (hnc : ∀ y ∈ scope.names, y.2 ≠ .cell)
    (len : ∀ vs H J γ, sp vs H J γ → vs.length = ps.length)
    (hbody : ∀ (A : Around) (outer : List Env) (s : Shared) (H : Hp) (vs : List V) (J : GIt) (γ : J.Γ) (pn : List (Addr × Obj)), Room k (A.deeper (envOfC qual scope s.heap.objs.size f cdv)) → sp vs H J γ →
      ∃ t : TX J, XSs (gX P w K mg base N qual scope f cdv A outer s H pn) body t ∧ ∀ H2, J.rdy γ H2 → t { nx := fun γ Hw _ H' => J.fin γ Hw H', rt := fun γ Hw v H' => v = .non ∧ J.fin γ Hw H' } γ H2 (start N vs) H2) :
    XFn P w K mg base (k + 1) f (PySem.W.fnOf name qual params body scope dV kV doc pm an cdv ct) ps sp := by
  refine ⟨len, fun A outer s H args us vs J γ hr e0 hb r hsp => ?_⟩
  have hl := len _ _ _ _ hsp
  have KX : K.In s.heap := e0.mod.kin.keeps fun b o e => (e0.bs b o e).1
  have lim : s.heap.NoLimit := e0.mod.nolimit.keeps fun b o e => (e0.bs b o e).1
  have hkind : ∀ y ∈ ps.zip us, scope.names.lookup y.1 = some .local ∨ (scope.names.lookup y.1 = some .cell ∧ ((cellsFrom (s.heap.objs.size + 1) scope.names []).lookup y.1).isSome = true) := fun ⟨n, v⟩ hy => by
    rcases S.par n (List.of_mem_zip hy).1 with q | q
    · exact .inl q
    · exact absurd rfl (hnc (n, .cell) (PySem.mem_of_lookup q))
  refine codeAny_call_generator hr.depth (KX _ _ lk) rfl S.co S.gen rfl (PySem.W.codeRec_of KX hcd) (hb _ _ _ _ ?_)
  refine wpAny_newFunctionEnv_cells S.kind hkind fun env he s1 x => ?_
  subst he
  have lim1 : s1.heap.NoLimit := lim.keeps x.toInCall.keep
  refine ⟨lim1, ?_⟩
  obtain ⟨h1, tk, es1, hk1⟩ := x.done
  have os1 : s1.os = s.os := by rw [es1]
  have gen1 : s1.gens = s.gens := by rw [es1]
  have lt1 : s.heap.objs.size < s1.heap.objs.size := x.toInCall.ns.lt
  have kp1 : ∀ b o, s.heap.get? b = some o → s1.heap.get? b = some o := x.toInCall.keep
  have main : ∀ (go : Obj) (nm qn : Value) (tk2 : Nat), go.cls = .type "generator" → go.data = .fields #[.int s1.gens.size 0, nm, qn] → go.slots = #[] → (∀ h : Heap, (h.push go).get? h.objs.size = some go) →
      XMade P w K mg base (k + 1) outer H s J γ (.ref s1.heap.objs.size) { s1 with gens := s1.gens.push (.fresh (.func body (envOfC qual scope s.heap.objs.size f cdv))), toks := tk2, heap := s1.heap.push go } := by
    intro go nm qn tk2 hgc hgd0 hgs hgp
    have hgd : ∀ v, go.data ≠ .cell v := fun v q => by rw [hgd0] at q; cases q
    refine ⟨s1.heap.objs.size, s1.gens.size, go, rfl, lt1, Heap.size_push .., fun h e => ⟨go, nm, qn, e, hgc, hgd0, hgs⟩, os1, ?_, fun b o e => Heap.get?_push_of_some _ (kp1 b o e), fun Aw hrw hfr => ?_⟩
    · exact AllBare.push (by rw [gen1]; exact e0.bare) rfl
    have e0w : Env0 P w K mg base Aw outer s H := ⟨hfr, e0.mod, e0.bs, e0.bsz, e0.funs, e0.frf, e0.hok, e0.bare⟩
    have I1 : Inv (gcxOf P w K mg base N qual scope f cdv Aw outer s H (fun _ _ _ => False) []) [] (start N vs) H s1 := inv_startG S hrw.hd e0w hl r x
    obtain ⟨t, ht, hq⟩ := hbody Aw outer s H vs J γ [(s1.heap.objs.size, go)] (hrw.deeper _) hsp
    have hcl : cellsFrom (s.heap.objs.size + 1) scope.names [] = [] := cellsFrom_nil _ _ hnc
    have nocell : ∀ y, (envOfC qual scope s.heap.objs.size f cdv).kindOf y ≠ some .cell ∧ (envOfC qual scope s.heap.objs.size f cdv).kindOf y ≠ some .free := fun y => by
      refine ⟨fun z => ?_, fun z => ?_⟩
      · exact hnc (y, .cell) (PySem.mem_of_lookup (show scope.names.lookup y = some .cell from z)) rfl
      · exact S.nofree (y, .free) (PySem.mem_of_lookup (show scope.names.lookup y = some .free from z)) rfl
    have G : GenOk P w K mg base Aw outer s.heap.objs.size s1.heap.objs.size go (gX P w K mg base N qual scope f cdv Aw outer s H [(s1.heap.objs.size, go)]) := by
      refine ⟨rfl, rfl, rfl, rfl, rfl, rfl, rfl, rfl, rfl, hcl, nocell, S.kind, rfl, rfl, rfl, rfl, rfl, rfl, hrw.hd, hfr, e0.bsz, fun b hb => ?_, lt1, hgd, fun _ _ z => z⟩
      obtain ⟨_, o, ho, _⟩ := e0.funs.mem hb
      exact Heap.lt_size ho
    refine ⟨_, G, ?_⟩
    obtain ⟨m, ⟨ol, es, ep, ho, hd, hk, hf⟩, hlc⟩ := I1.loc
    refine ⟨start N vs, [], ol, _, J.rank γ, rfl, Heap.get?_push_of_some _ ho, hgp _, fun p hp => (by simp at hp), (fun v q => by rw [hd] at q; cases q), ⟨m, ⟨es, ep, hd, hk, hf⟩, fun i y v e1 e2 e3 => ?_⟩, I1.len, Array.getElem?_push_size .., fun θ s'' eγ hrd hW => ?_⟩
    · obtain ⟨u, rv, q⟩ := hlc i y v e1 e2 e3
      rcases q with ⟨q1, q2⟩ | ⟨q1, _⟩
      · exact ⟨u, rv, q1, q2⟩
      · rcases q1 with z | z
        · exact absurd z (nocell y).1
        · exact absurd z (nocell y).2
    · show Sg (model P w) Aw _ _ _ θ (.func body (envOfC qual scope s.heap.objs.size f cdv)) ((model P w).den (.func body (envOfC qual scope s.heap.objs.size f cdv))) [] s''
      refine sg_func ?_
      refine ht.run Aw [] (J.rank γ) θ _ [] _ _ id id s'' (start N vs) θ.H _ ⟨over_func, rfl, rfl, rfl, fun _ _ z => z, rfl, rfl⟩ (by rw [eγ]; exact Nat.le_refl _) (fun n' θ' s' fl hn' hs => ?_) hW (by rw [eγ]; exact hq _ hrd)
      cases fl with
      | next =>
        obtain ⟨σ', H', hW', hQ⟩ := hs
        exact sg_end (.ok (.ret .none)) ⟨.inl rfl, H', [], σ', hQ, hW'⟩
      | brk => obtain ⟨_, _, _, q⟩ := hs; exact False.elim q
      | cont => obtain ⟨_, _, _, q⟩ := hs; exact False.elim q
      | ret u =>
        obtain ⟨v, σ', H', hW', rv, ev, hQ⟩ := hs
        subst ev
        have eu : u = Value.none := rv
        subst eu
        exact sg_end (.ok (.ret .none)) ⟨.inl rfl, H', [], σ', hQ, hW'⟩
  exact main _ _ _ _ rfl rfl rfl fun h => Heap.get?_push_size _ rfl
end GX

namespace GX
open PySem PySem.Spec PyProof.Rows GenW L2
/-! ### expressions that make a generator -/
abbrev TGX := L2.St → Hp → ((J : GIt) → J.Γ → Hp → Prop) → Prop
structure PGX (X : Cx) (k : Nat) (e : Expr) (tg : TGX) : Prop where
  run : ∀ (pins : List (Addr × Obj)) (s : Shared) (σ : L2.St) (H : Hp) (cont : (J : GIt) → J.Γ → Hp → Prop), Inv X pins σ H s → tg σ H cont → wpAny (model X.prog X.w) X.A (eval e X.env)
    (fun u s' => ∃ (H1 : Hp) (sc : Shared) (J : GIt) (γ : J.Γ), Inv X pins σ H1 sc ∧ XMade X.prog X.w X.K X.mg X.base k X.stack H1 sc J γ u s' ∧ cont J γ H1) X.xe s
section
variable {X : Cx} {k : Nat} {f C : Addr} {fd : FuncData} {ps : List Str} {sp : SpX} {x m : Str} {p pos pos' apos : Pos} {o : Expr} {ta : TE}
theorem run_xfn {pins : List (Addr × Obj)} {σ : L2.St} {H : Hp} {s : Shared} {us : List Value} {vs : List V} {J : GIt} {γ : J.Γ} {cont : (J : GIt) → J.Γ → Hp → Prop} {E1 : Value → Shared → Prop} (F : XFn X.prog X.w X.K X.mg X.base k f fd ps sp) (hr : Room k X.A) (hb : Binds X.K fd ps [])
    (I : Inv X pins σ H s) (r : Vals vs us) (h : sp vs H J γ) (hc : cont J γ H) :
    wpAny (model X.prog X.w) X.A (call (.ref f) us) (fun u s' => ∃ (H1 : Hp) (sc : Shared) (J : GIt) (γ : J.Γ), Inv X pins σ H1 sc ∧ XMade X.prog X.w X.K X.mg X.base k X.stack H1 sc J γ u s' ∧ cont J γ H1) E1 s := by
  have hl2 : us.length = ps.length := by rw [← r.length]; exact F.len _ _ _ _ h
  have hb' := hb s us I.kIn (by rw [List.append_nil]; exact hl2)
  rw [List.append_nil] at hb'
  refine wpAny_call (codeAny_mono (F.run X.A X.stack s H ⟨us, []⟩ us vs J γ hr I.env0 hb' r h) fun r s' hq => ?_)
  cases r with
  | error e => exact False.elim hq
  | ok fl =>
    cases fl with
    | ret u => exact ⟨H, s, J, γ, I, hq, hc⟩
    | next => exact False.elim hq
    | brk => exact False.elim hq
    | cont => exact False.elim hq
def tMethX (C : Addr) (m : Str) (sp : SpX) (ta : TE) (t : TA) : TGX := fun σ H cont => ta σ H fun x H1 => ∃ a dx fs, x = .ref a ∧ H1 a = some (.ins C dx fs) ∧ fs.lookup m = none ∧
  t σ H1 fun vs H2 => ∃ (J : GIt) (γ : J.Γ), sp (x :: vs) H2 J γ ∧ cont J γ H2
theorem pgx_meth0 {pl : Sem Bool} (he : PE X o ta) (c : Cls X.K C) (hm : Meth X.K C m f) (F : XFn X.prog X.w X.K X.mg X.base k f fd ps sp) (hr : Room k X.A) (hb : Binds X.K fd ps [])
    (ht : eval (.Call (.Attribute o m apos) [] [] pos') X.env = (do
      let ov ← eval o X.env
      standAt apos.atName
      let (f, first) ← holding [ov] (getMethod ov m pl)
      callWith pos' f first (backTo pos' (starEach [] X.env)) (backToKw pos' (keywordEach [] X.env))) := by rfl) :
    PGX X k (.Call (.Attribute o m apos) [] [] pos') (tMethX C m sp ta tNil) := by
  refine ⟨fun pins s σ H cont I h => ?_⟩
  refine PySem.W.methodCall_KW (pl := pl) (thn (he.run pins s σ H _ I h) fun u s1 ⟨x, H1, I1, rx, a, dx, fs, ex, ea, l, q⟩ => ?_) ht
  subst ex
  obtain rfl : u = Value.ref a := rx
  obtain ⟨J, γ, q1, q2⟩ := q
  refine getmeth_ok I1 ea c hm l ?_
  exact PySem.W.callWith_K0 (first := [.ref a]) I1.kIn hm.kp (run_xfn (us := [.ref a]) (vs := [.ref a]) F hr hb I1 (.cons rfl .nil) q1 q2)
theorem pgx_meth {pl : Sem Bool} {e : Expr} {es : List Expr} {t : TA} (he : PE X o ta) (c : Cls X.K C) (hm : Meth X.K C m f) (F : XFn X.prog X.w X.K X.mg X.base k f fd ps sp) (hr : Room k X.A) (hb : Binds X.K fd ps []) (ha : PA X (e :: es) t)
    (hst : starEach (e :: es) X.env = (false, eval e X.env) :: starEach es X.env := by rfl) (hpl : (backTo pos' (starEach es X.env)).any (·.1) = false := by rfl)
    (ht : eval (.Call (.Attribute o m apos) (e :: es) [] pos') X.env = (do
      let ov ← eval o X.env
      standAt apos.atName
      let (f, first) ← holding [ov] (getMethod ov m pl)
      callWith pos' f first (backTo pos' (starEach (e :: es) X.env)) (backToKw pos' (keywordEach [] X.env))) := by rfl) :
    PGX X k (.Call (.Attribute o m apos) (e :: es) [] pos') (tMethX C m sp ta t) := by
  refine ⟨fun pins s σ H cont I h => ?_⟩
  refine PySem.W.methodCall_KW (pl := pl) (thn (he.run pins s σ H _ I h) fun u s1 ⟨x, H1, I1, rx, a, dx, fs, ex, ea, l, q⟩ => ?_) ht
  subst ex
  obtain rfl : u = Value.ref a := rx
  refine getmeth_ok I1 ea c hm l ?_
  refine PySem.W.callWith_K (first := [.ref a]) (h₀ := X.base) I.ok.mod.kin hm.kp (thn (ha.run pos' pins s1 σ H1 _ I1 q) fun us s2 ⟨vs, H2, I2, r, q2⟩ => ⟨I2.kIn, ?_⟩) hst hpl
  obtain ⟨J, γ, q3, q4⟩ := q2
  exact run_xfn (us := .ref a :: us) (vs := .ref a :: vs) F hr hb I2 (.cons rfl r) q3 q4
end
/-! ### for over a generator -/
def tForX (tg : TGX) (g : TG) (tb : TS) : TS := fun D σ H => tg σ H fun J γ H1 => ∃ W : J.Γ → L2.St → Hp → Prop, W γ σ H1 ∧ ∀ γ σ H, W γ σ H →
  J.rdy γ H ∧ (∀ H', J.fin γ H H' → D.nx σ H') ∧ ∀ x H' γ', J.yld γ H x H' γ' → g x σ H' fun σ2 H2 => tb { D with nx := W γ', ct := W γ', bk := D.nx } σ2 H2
section
variable {X : Cx} {k : Nat}
theorem go_gen {M : Model} {A : Around} {E : Value → Shared → Prop} {s : Shared} {tg : Expr} {a : Addr} {g : Nat} {u : Value} {Q : Unit → Shared → Prop} (h : s.heap.IsGen a g) (hQ : Q () s) : wpAny M A (letOwnedTupleGo tg (.ref a) u) Q E s := by
  obtain ⟨o, nm, qn, ho, hc, hd, _⟩ := h
  exact go_of ho hc hd (by decide) hQ
theorem room_in1 {A : Around} (h : Room (k + 1) A) : Room k A.in1 := by
  refine ⟨h.hd, ?_, ?_⟩
  · have := h.dp
    show A.depth + 3 * k + 5 < _
    omega
  · have := h.un
    show A.units + 1 + 16 * k + 200 < _
    omega
theorem ps_forX {tgt iter : Expr} {body : List Stmt} {pos : Pos} {tg : TGX} {g : TG} {tb : TS} (hx : ∀ e s, ¬ X.xe e s) (hc : X.calm = true) (hr : Room (k + 1) X.A) (hi : PGX X k iter tg) (hg : PG X tgt g) (hb : PSs X body tb)
    (hs : ∀ x, foldedSetIterable iter X.env x = pure x := by intro _; rfl) : PS X (.For tgt iter body [] pos) (tForX tg g tb) := by
  refine ⟨fun pins s σ H D I h => ?_⟩
  refine wpAny_For (thn (hi.run pins s σ H _ I h) fun v s1 h1 => ?_) hs
  obtain ⟨H1, sc, J, γ, Ic, ⟨a, gi, go, rfl, hLa, hsz, hgen, hos, hba, hkp, mk⟩, W, w0, turn⟩ := h1
  obtain ⟨Xg, G, S0⟩ := mk X.A.in1 (room_in1 hr) Ic.ok.frames
  have I1 : Inv X pins σ H1 s1 := Ic.call' (ch := []) hos (Un.kept hkp) (Ic.hok.kept hkp) hba fun b z => by simp at z
  have hga : s1.heap.get? a = some go := by
    obtain ⟨_, _, _, _, _, _, _, h2, _⟩ := S0
    exact h2
  refine wpAny_pyIter_gen (hgen _ hga) ?_
  have C : Con X.prog X.w X.K X.mg X.base X.stack sc.heap.objs.size X := by
    refine ⟨rfl, rfl, rfl, rfl, rfl, rfl, fun x c e => ?_, fun b h1 h2 => ?_⟩
    · obtain ⟨v, q⟩ := Ic.cell x c e
      exact q.lt
    · exact absurd (Nat.lt_of_lt_of_le h2 (Nat.le_trans Ic.sz h1)) (Nat.lt_irrefl _)
  have hd : X.A.handled = none := Ic.ok.hd hc
  have hdp : X.A.depth < recursionLimit := by have := hr.dp; omega
  have f0 : ∀ b ∈ [sc.heap.objs.size, a], FpOk X pins H1 b := fun b hb => by
    have hle : sc.heap.objs.size ≤ b := by
      rcases List.mem_cons.mp hb with z | z
      · rw [z]; exact Nat.le_refl _
      · rw [List.mem_singleton.mp z]; exact Nat.le_of_lt hLa
    exact Ic.fpOk hle (Ic.hok.fresh hle)
  refine codeAny_forLoop_any (fun n s' => ∃ (γ : J.Γ) (σ' : L2.St) (H' : Hp) (fp : List Addr), n = J.rank γ ∧ Inv X pins σ' H' s' ∧ Slp sc.heap.objs.size a gi go X.A.in1 Xg γ fp s' ∧ (∀ b ∈ fp, FpOk X pins H' b) ∧ W γ σ' H') ?_ (J.rank γ) ⟨γ, σ, H1, _, rfl, I1, S0, f0, w0⟩
  rintro n s3 ⟨γ3, σ3, H3, fp3, rfl, I3, S3, f3, w3⟩
  obtain ⟨rd, fin, step⟩ := turn γ3 σ3 H3 w3
  refine thnF (next_x (E := fun _ _ => False) G hgen C hd hdp I3 S3 f3 rd) fun r s4 h4 => ?_
  rcases h4 with ⟨hr4, H4, hf4, I4⟩ | ⟨u, x, H4, γ4, fp4, hr4, rv, hy, I4, S4, f4, gs, hgs, hsu⟩
  · subst hr4
    exact wpAny_execs_nil ⟨σ3, H4, I4, fin H4 hf4⟩
  · subst hr4
    have hga4 : s4.heap.get? a = some go := by
      obtain ⟨_, _, _, _, _, _, _, h2, _⟩ := S4
      exact h2
    refine go_gen (hgen _ hga4) ?_
    have I4' := I4.pinned f4 (S4.obj G.gd)
    refine thnF (pg_twin (E := fun _ _ => False) hg hx hgs hsu I4' rv (step x H4 γ4 hy)) fun _ s6 ⟨hg6, σ6, H6, I6, q6⟩ => ?_
    refine thnF (pss_twin (E := fun _ _ => False) hb hx hg6 hsu I6 q6) fun f s7 ⟨hg7, q7⟩ => ?_
    have again : ∀ {σ7 : L2.St} {H7 : Hp}, Inv X (pins ++ pinsAt fp4 s4.heap) σ7 H7 s7 → W γ4 σ7 H7 → ∃ m, m < J.rank γ3 ∧ ∃ (γ : J.Γ) (σ' : L2.St) (H' : Hp) (fp : List Addr), m = J.rank γ ∧ Inv X pins σ' H' s7 ∧ Slp sc.heap.objs.size a gi go X.A.in1 Xg γ fp s7 ∧ (∀ b ∈ fp, FpOk X pins H' b) ∧ W γ σ' H' := fun {σ7 H7} I7 w7 => by
      have pin7 : ∀ b ∈ fp4, ∀ o, s4.heap.get? b = some o → s7.heap.get? b = some o ∧ H7 b = none := fun b hb o e =>
        let z := I7.pin (b, o) (List.mem_append_right _ (List.mem_append_right _ (mem_pinsAt hb e)))
        ⟨z.1, z.2.1⟩
      refine ⟨J.rank γ4, J.dec _ _ _ _ _ hy, γ4, σ7, H7, fp4, rfl, I7.unpinned, S4.keep (fun b hb o e => (pin7 b hb o e).1) (by rw [hg7, hgs]), fun b hb => ?_, w7⟩
      obtain ⟨o, e, _⟩ := S4.obj G.gd b hb
      exact ⟨(pin7 b hb o e).2, (f4 b hb).2⟩
    cases f with
    | next => obtain ⟨σ7, H7, I7, w7⟩ := q7; exact again I7 w7
    | cont => obtain ⟨σ7, H7, I7, w7⟩ := q7; exact again I7 w7
    | brk => obtain ⟨σ7, H7, I7, q7⟩ := q7; exact ⟨σ7, H7, I7.unpinned, q7⟩
    | ret v => obtain ⟨x7, σ7, H7, I7, r7, q7⟩ := q7; exact ⟨x7, σ7, H7, I7.unpinned, r7, q7⟩
end
end GX

namespace GX
open PySem PySem.Spec PyProof.Rows GenW L2
/-- [elt for target in generator if ..] -/
def tLcX (tg : TGX) (g : TG) (tt : TT) (te : TE) (vs : List Nat) : TE := fun σ H Q => tg σ H fun J γ H1 => ∀ D, H1 D = none → ∃ W : J.Γ → Hp → Prop, W γ (upd H1 D (.lst [])) ∧ ∀ γ H, W γ H →
  J.rdy γ H ∧ (∀ H', J.fin γ H H' → Q (.ref D) H') ∧ ∀ x H' γ', J.yld γ H x H' γ' → g x (wipe σ vs) H' fun σ2 H2 => wipe σ2 vs = wipe σ vs ∧ tt σ2 H2 fun b H3 =>
    if b = true then te σ2 H3 fun y H4 => ∃ acc, H4 D = some (.lst acc) ∧ acc.length < sizeLine ∧ W γ' (upd H4 D (.lst (acc ++ [y]))) else W γ' H3
section
variable {X : Cx} {k : Nat}
/-- the block's context may begin ahead of the list -/
theorem blk_back {s2 s3 s : Shared} {H2 H3 H : Hp} {scope : Scope} {ce : Env} {ex : List Addr} {pins pins' : List (Addr × Obj)} {σ σ' : L2.St} (I2 : Inv X pins σ H2 s2) (hos : s3.os = s2.os) (u : Un (frs X.stack) ex H2 H3 s2.heap s3.heap) (hsz : s2.heap.objs.size ≤ s3.heap.objs.size) (I : Inv (X.blk s3 H3 scope ce ex) pins' σ' H s) :
    Inv (X.blk s2 H2 scope ce ex) pins' σ' H s := by
  refine ⟨⟨I.ok.mod, I.ok.kind, I.ok.glob, I.ok.blt, Nat.le_trans hsz I.ok.above, I.ok.inj, I.ok.has, fun x c h1 h2 => Nat.le_trans hsz (I.ok.cab x c h1 h2), I.ok.hd, I.ok.frames, I.ok.stk, I.ok.exf, I2.bs, Nat.le_trans I2.ok.bsz I2.sz, I.ok.noex, I.ok.exfs, I2.stack, I2.stkFree⟩,
    I.os.trans hos, I.bare, u.trans I.base, I.loc, I.cell, I.free, I.freeC, I.pin, I.hok, I.len⟩
theorem lcX_core {pins : List (Addr × Obj)} {s : Shared} {σ : L2.St} {H : Hp} {Q : VK} {elt tgt iter : Expr} {ifs : List Expr} {scope : Scope} {own : List (Str × Nat)} {pos pos' : Pos} {tg : TGX} {g : TG} {tt : TT} {te : TE} {use : Option (Value → Sem Unit)} {Qf : Value → Shared → Prop}
    (hc : X.calm = true) (hr : Room (k + 1) X.A) (hN : X.N.Nodup) (I : Inv X pins σ H s) (hi : PGX X k iter tg) (ok : BlkOk X.N X.env.scope scope own) (hnc : ∀ y ∈ scope.names, y.2 ≠ .cell)
    (hg : ∀ (s : Shared) (H : Hp) (C : Addr) (cl : List (Str × Addr)) (fp : List Addr), PG (X.blk s H scope (compEnvC scope cl C X.env) fp) tgt g) (ht : ∀ (s : Shared) (H : Hp) (C : Addr) (cl : List (Str × Addr)) (fp : List Addr), PTs (X.blk s H scope (compEnvC scope cl C X.env) fp) ifs tt)
    (he : ∀ (s : Shared) (H : Hp) (C : Addr) (cl : List (Str × Addr)) (fp : List Addr), PE (X.blk s H scope (compEnvC scope cl C X.env) fp) elt te) (hs : ∀ x, foldedSetIterable iter X.env x = pure x)
    (h : tLcX tg g tt te (own.map (·.2)) σ H Q)
    (hRR : ∀ D C s' m H', Inv X pins σ H' s' → Q (.ref D) H' → s'.heap.Ns C m → FpOk X pins H' C → compPost (model X.prog X.w) X.A X.xe use Qf (.ref D) C (.ok .next) s') :
    wpAny (model X.prog X.w) X.A (comprehension (.ListComp elt [⟨tgt, iter, ifs, 0⟩] scope pos) scope X.env pos' (newList []) false (eval iter X.env) use) Qf X.xe s := by
  have hfree : ∀ y ∈ scope.names, y.2 = .free → ∃ c, X.env.cells.lookup y.1 = some c := fun y hy e => by
    rcases ok.free y hy e with k | k
    · exact I.ok.has _ (.inl k)
    · exact I.ok.has _ (.inr k)
  refine wpAny_comprehension_free (use := use) rfl hs (closure_ok hfree) ok.kind (fun y hy e => by rw [ok.uniq y hy, e])
    (thn (hi.run pins s σ H _ I h) fun xv s2 hx => ?_)
  obtain ⟨H2, sc, J, γ, Ic, ⟨a, gi, go, rfl, hLa, hsz, hgen, hos, hba, hkp, mk⟩, q⟩ := hx
  obtain ⟨Xg, G, S0⟩ := mk X.A.in1 (room_in1 hr) Ic.ok.frames
  have I2 : Inv X pins σ H2 s2 := Ic.call' (ch := []) hos (Un.kept hkp) (Ic.hok.kept hkp) hba fun b z => by simp at z
  have hga : s2.heap.get? a = some go := by
    obtain ⟨_, _, _, _, _, _, _, h2, _⟩ := S0
    exact h2
  refine wpAny_pyIter_gen (hgen _ hga) ?_
  refine wpAny_newObj_type (newEnv_comp ?_) (by show 0 ≤ sizeLine; decide)
  generalize hD : s2.heap.objs.size = D
  have hDn : H2 D = none := I2.hok.fresh (Nat.le_of_eq hD)
  obtain ⟨W, w0, turn⟩ := q D hDn
  generalize hs3 : ({ s2 with heap := s2.heap.push { cls := .type "list", data := .seq ([] : List Value).toArray } } : Shared) = s3
  have h3 : s3.heap = s2.heap.push { cls := .type "list", data := .seq ([] : List Value).toArray } := by rw [← hs3]
  have kp3 : ∀ b o, s2.heap.get? b = some o → s3.heap.get? b = some o := fun b o e => by rw [h3]; exact Heap.get?_push_of_some _ e
  have I3 : Inv X pins σ (upd H2 D (.lst [])) s3 := by
    rw [← hs3]
    refine I2.laid (t' := s2.toks) (fun b o e => Heap.get?_push_of_some _ e) (Nat.le_of_eq hD) ⟨Nat.zero_le _, [], 0, .nil, ?_⟩
    rw [← hD]
    exact Heap.get?_push_size _ rfl
  -- all that came with the generator
  generalize hex : (List.range (a + 1)).filter (fun b => decide (sc.heap.objs.size ≤ b)) = ex
  have exm : ∀ b, b ∈ ex ↔ b < a + 1 ∧ sc.heap.objs.size ≤ b := fun b => by
    rw [← hex, List.mem_filter, List.mem_range]
    exact ⟨fun ⟨h1, h2⟩ => ⟨h1, of_decide_eq_true h2⟩, fun ⟨h1, h2⟩ => ⟨h1, decide_eq_true h2⟩⟩
  have fx : ∀ b ∈ ex, FpOk X pins H2 b := fun b hb => Ic.fpOk ((exm b).mp hb).2 (Ic.hok.fresh ((exm b).mp hb).2)
  have f3 : ∀ b ∈ ex, FpOk X pins (upd H2 D (.lst [])) b ∧ b < s3.heap.objs.size := fun b hb => by
    have hlt : b < s2.heap.objs.size := by rw [hsz]; exact ((exm b).mp hb).1
    refine ⟨⟨?_, (fx b hb).2⟩, by rw [h3, Heap.size_push]; exact Nat.lt_succ_of_lt hlt⟩
    rw [upd_ne (by rw [← hD]; exact Nat.ne_of_lt hlt)]
    exact (fx b hb).1
  have I4 := block_start I3 ok hN f3
  have pg := hg s2 H2 s3.heap.objs.size (cellsFrom (s3.heap.objs.size + 1) scope.names (cloFrom X.env.cells scope.names [])) ex
  have pt := ht s2 H2 s3.heap.objs.size (cellsFrom (s3.heap.objs.size + 1) scope.names (cloFrom X.env.cells scope.names [])) ex
  have pe := he s2 H2 s3.heap.objs.size (cellsFrom (s3.heap.objs.size + 1) scope.names (cloFrom X.env.cells scope.names [])) ex
  show codeAny _ _ (.compStart (.ListComp elt [⟨tgt, iter, ifs, 0⟩] scope pos) 0 (.ref a) (.ref D) (compEnvC scope (cellsFrom (s3.heap.objs.size + 1) scope.names (cloFrom X.env.cells scope.names [])) s3.heap.objs.size X.env)) (compPost (model X.prog X.w) X.A X.xe use Qf (.ref D) s3.heap.objs.size) { s3 with heap := pushCells (s3.heap.push { cls := .type "dict", data := .dict #[] }) scope.names }
  have cellsB : ∀ x c, (cellsFrom (s3.heap.objs.size + 1) scope.names (cloFrom X.env.cells scope.names [])).lookup x = some c → c < sc.heap.objs.size := fun x c e => by
    rw [← Heap.size_push s3.heap { cls := .type "dict", data := .dict #[] }] at e
    rcases cells_mem (PySem.mem_of_lookup e) with z | ⟨z, _⟩
    · rcases cloFrom_mem z with y | ⟨y1, y2⟩
      · cases y
      · obtain ⟨c', e'⟩ := hfree _ y1 rfl
        have e' : X.env.cells.lookup x = some c' := e'
        rw [y2, e']
        obtain ⟨v, q⟩ := Ic.cell x c' e'
        exact q.lt
    · exact absurd rfl (hnc _ z)
  generalize hce : compEnvC scope (cellsFrom (s3.heap.objs.size + 1) scope.names (cloFrom X.env.cells scope.names [])) s3.heap.objs.size X.env = ce at I4 pg pt pe ⊢
  have cL : ce.locals = s3.heap.objs.size := by subst hce; rfl
  have cC : ∀ x c, ce.cells.lookup x = some c → c < sc.heap.objs.size := by subst hce; exact cellsB
  generalize hH3 : upd H2 D (.lst []) = H3 at I3 I4 w0 f3
  generalize hs4 : ({ s3 with heap := pushCells (s3.heap.push { cls := .type "dict", data := .dict #[] }) scope.names } : Shared) = s4 at I4 ⊢
  have u23 : Un (frs X.stack) ex H2 H3 s2.heap s3.heap := by rw [← hH3]; exact Un.laid kp3 (Nat.le_of_eq hD) hDn
  have I4' := blk_back I2 (by rw [← hs3]) u23 (by rw [h3, Heap.size_push]; exact Nat.le_succ _) I4
  have kp4 : ∀ b o, s2.heap.get? b = some o → s4.heap.get? b = some o := fun b o e => by rw [← hs4]; exact pushCells_keeps _ _ _ _ (Heap.get?_push_of_some _ (kp3 b o e))
  have S4 : Slp sc.heap.objs.size a gi go X.A.in1 Xg γ [sc.heap.objs.size, a] s4 := S0.keep (fun b _ o e => kp4 b o e) (by rw [← hs4, ← hs3])
  have stat : ∀ {H' : Hp} {σ' : L2.St} {s' : Shared} {pn : List (Addr × Obj)}, Inv (X.blk s2 H2 scope ce ex) pn σ' H' s' → ∀ b ∈ ex, H' b = none → (∀ p ∈ pn, p.1 ≠ b) → FpOk (X.blk s2 H2 scope ce ex) pn H' b := fun {H' σ' s' pn} I' b hb hn hp =>
    ⟨hn, (I'.ok.exf b hb).1, I'.ok.exfs b hb, .inl hb, fun x c e => (I'.ok.exf b hb).2 x c e, fun p hq => hp p (by simpa using hq)⟩
  have f4 : ∀ b ∈ [sc.heap.objs.size, a], FpOk (X.blk s2 H2 scope ce ex) [] H3 b := fun b hb => by
    have hbx : b ∈ ex := (exm b).mpr (by
      rcases List.mem_cons.mp hb with z | z
      · rw [z]; exact ⟨Nat.lt_succ_of_lt hLa, Nat.le_refl _⟩
      · rw [List.mem_singleton.mp z]; exact ⟨Nat.lt_succ_self _, Nat.le_of_lt hLa⟩)
    exact stat I4' b hbx (f3 b hbx).1.1 fun p hp => by simp at hp
  have C : Con X.prog X.w X.K X.mg X.base X.stack sc.heap.objs.size (X.blk s2 H2 scope ce ex) := by
    refine ⟨rfl, rfl, rfl, rfl, rfl, rfl, cC, fun b h1 h2 => (exm b).mpr ⟨?_, h1⟩⟩
    have h2 : b < s2.heap.objs.size := h2
    rw [hsz] at h2; exact h2
  have hd : X.A.handled = none := Ic.ok.hd hc
  have hdp : X.A.depth < recursionLimit := by have := hr.dp; omega
  have nx : ∀ e s, ¬ (X.blk s2 H2 scope ce ex).xe e s := fun _ _ z => z
  have loop : codeAny (model X.prog X.w) X.A (.compLoop (.ListComp elt [⟨tgt, iter, ifs, 0⟩] scope pos) 0 (.ref a) (.ref D) ce) (compPost (model X.prog X.w) X.A X.xe use Qf (.ref D) s3.heap.objs.size) s4 := by
    refine compLoop_any (fun n s' => ∃ (γ : J.Γ) (H' : Hp) (fp : List Addr), n = J.rank γ ∧ Inv (X.blk s2 H2 scope ce ex) [] (wipe σ (own.map (·.2))) H' s' ∧ Slp sc.heap.objs.size a gi go X.A.in1 Xg γ fp s' ∧ (∀ b ∈ fp, FpOk (X.blk s2 H2 scope ce ex) [] H' b) ∧ W γ H') ?_ (J.rank γ) ⟨γ, H3, _, rfl, I4', S4, f4, w0⟩
    rintro n s5 ⟨γ5, H5, fp5, rfl, I5, S5, f5, w5⟩
    obtain ⟨rd, fin, step⟩ := turn γ5 H5 w5
    refine thnF (next_x (Xc := X.blk s2 H2 scope ce ex) (E := fun _ _ => False) G hgen C hd hdp I5 S5 f5 rd) fun r s6 h6 => ?_
    rcases h6 with ⟨hr6, H6, hf6, I6⟩ | ⟨u, x, H6, γ6, fp6, hr6, rv, hy, I6, S6, f6, gs, hgs, hsu⟩
    · subst hr6
      have I7 : Inv X pins σ H6 s6 := I2.call' (ch := ex) I6.os I6.base I6.hok I6.bare fun b hb => ⟨(fx b hb).2.2.2.1, (fx b hb).2.1, (fx b hb).2.2.2.2.1, (fx b hb).2.2.2.2.2⟩
      have nC : H6 s3.heap.objs.size = none := by
        have z : H6 ce.locals = none := I6.free
        rw [cL] at z
        exact z
      obtain ⟨m, hn, _⟩ := I6.loc
      have hn : s6.heap.Ns ce.locals m := hn
      rw [cL] at hn
      exact hRR D s3.heap.objs.size s6 m H6 I7 (fin H6 hf6) hn (I3.fpOk (Nat.le_refl _) nC)
    · subst hr6
      have hga6 : s6.heap.get? a = some go := by
        obtain ⟨_, _, _, _, _, _, _, h2, _⟩ := S6
        exact h2
      refine go_gen (hgen _ hga6) ?_
      have I6' := I6.pinned f6 (S6.obj G.gd)
      refine thnF (pg_twin (E := fun _ _ => False) pg nx hgs hsu I6' rv (step x H6 γ6 hy)) fun _ s8 ⟨hg8, σ8, H8, I8, hw8, q8⟩ => ?_
      refine thnF (pts_twin (E := fun _ _ => False) pt nx hg8 hsu I8 q8) fun b s9 ⟨hg9, H9, I9, q9⟩ => ?_
      have fin : ∀ {s' : Shared} {H' : Hp}, s'.gens[gi]? = some gs → Inv (X.blk s2 H2 scope ce ex) ([] ++ pinsAt fp6 s6.heap) σ8 H' s' → W γ6 H' → ∃ m, m < J.rank γ5 ∧ ∃ (γ : J.Γ) (H' : Hp) (fp : List Addr), m = J.rank γ ∧ Inv (X.blk s2 H2 scope ce ex) [] (wipe σ (own.map (·.2))) H' s' ∧ Slp sc.heap.objs.size a gi go X.A.in1 Xg γ fp s' ∧ (∀ b ∈ fp, FpOk (X.blk s2 H2 scope ce ex) [] H' b) ∧ W γ H' := fun {s' H'} hg' I' w' => by
        have pin' : ∀ b ∈ fp6, ∀ o, s6.heap.get? b = some o → s'.heap.get? b = some o ∧ H' b = none := fun b hb o e =>
          let z := I'.pin (b, o) (List.mem_append_right _ (List.mem_append_right _ (mem_pinsAt hb e)))
          ⟨z.1, z.2.1⟩
        have hl : (wipe σ (own.map (·.2))).length = σ8.length := by rw [← hw8, wipe_length]
        refine ⟨J.rank γ6, J.dec _ _ _ _ _ hy, γ6, H', fp6, rfl, (I'.unpinned (pins := [])).weak hl (fun j v e => ?_), S6.keep (fun b hb o e => (pin' b hb o e).1) (by rw [hg', hgs]), fun b hb => ?_, w'⟩
        · rw [← hw8] at e
          exact (wipe_some e).1
        · obtain ⟨o, e, _⟩ := S6.obj G.gd b hb
          exact ⟨(pin' b hb o e).2, (f6 b hb).2⟩
      cases b with
      | false =>
        simp only [Bool.false_eq_true, if_false] at q9 ⊢
        exact fin hg9 I9 q9
      | true =>
        simp only [if_true] at q9 ⊢
        refine thnF (pe_twin (E := fun _ _ => False) pe nx hg9 hsu I9 q9) fun z s10 ⟨hg10, yv, H10, I10, r10, acc, hD10, hz10, nxt⟩ => ?_
        refine thnF (run_twin (X := X.blk s2 H2 scope ce ex) (Q := fun _ s' => Inv (X.blk s2 H2 scope ce ex) ([] ++ pinsAt fp6 s6.heap) σ8 (upd H10 D (.lst (acc ++ [yv]))) s') (E := fun _ _ => False) hg10 hsu I10 fun s' I' => app_ok (X := X.blk s2 H2 scope ce ex) I' hD10 hz10 r10 fun s11 I11 => I11) fun _ s11 ⟨hg11, s', I', Gg, e11, hb11⟩ => ?_
        subst e11
        exact fin hg11 (Inv_gens I' (hb11 I'.bare)) nxt
  exact codeAny_compStart_list loop (wpAny_pyIter_gen (hgen _ (kp4 a go hga)) loop)
theorem pe_lcX {elt tgt iter : Expr} {ifs : List Expr} {scope : Scope} {own : List (Str × Nat)} {pos : Pos} {tg : TGX} {g : TG} {tt : TT} {te : TE} (hc : X.calm = true) (hr : Room (k + 1) X.A) (hN : X.N.Nodup) (hi : PGX X k iter tg) (ok : BlkOk X.N X.env.scope scope own) (hnc : ∀ y ∈ scope.names, y.2 ≠ .cell)
    (hg : ∀ (s : Shared) (H : Hp) (C : Addr) (cl : List (Str × Addr)) (fp : List Addr), PG (X.blk s H scope (compEnvC scope cl C X.env) fp) tgt g) (ht : ∀ (s : Shared) (H : Hp) (C : Addr) (cl : List (Str × Addr)) (fp : List Addr), PTs (X.blk s H scope (compEnvC scope cl C X.env) fp) ifs tt)
    (he : ∀ (s : Shared) (H : Hp) (C : Addr) (cl : List (Str × Addr)) (fp : List Addr), PE (X.blk s H scope (compEnvC scope cl C X.env) fp) elt te) (hs : ∀ x, foldedSetIterable iter X.env x = pure x := by intro _; rfl) :
    PE X (.ListComp elt [⟨tgt, iter, ifs, 0⟩] scope pos) (tLcX tg g tt te (own.map (·.2))) := by
  refine ⟨fun pins s σ H Q I h => ?_⟩
  rw [eval_ListComp]
  refine lcX_core hc hr hN I hi ok hnc hg ht he hs h fun D C s' m H' I' q hn f => ⟨m, hn, fun h'' sb => ?_⟩
  obtain ⟨f0, f1, f2, f3, f4, f5⟩ := f
  exact ⟨.ref D, H', I'.turned (t' := s'.toks) (fun b o hb e => (sb.2 b hb).trans e) f0 f1 f3 f4 f5, rfl, q⟩
theorem ps_setLcX {i : Nat} {y : Str} {py : Pos} {elt tgt iter : Expr} {ifs : List Expr} {scope : Scope} {own : List (Str × Nat)} {pos spos : Pos} {tg : TGX} {g : TG} {tt : TT} {te : TE} (hc : X.calm = true) (hr : Room (k + 1) X.A) (hN : X.N.Nodup) (hy : X.N[i]? = some y) (hyl : X.env.scope.names.lookup y = some .local)
    (hsw : swapsWith (.ListComp elt [⟨tgt, iter, ifs, 0⟩] scope pos) (some (.Name y py)) spos.line X.env = pure true) (hi : PGX X k iter tg) (ok : BlkOk X.N X.env.scope scope own) (hnc : ∀ y ∈ scope.names, y.2 ≠ .cell)
    (hg : ∀ (s : Shared) (H : Hp) (C : Addr) (cl : List (Str × Addr)) (fp : List Addr), PG (X.blk s H scope (compEnvC scope cl C X.env) fp) tgt g) (ht : ∀ (s : Shared) (H : Hp) (C : Addr) (cl : List (Str × Addr)) (fp : List Addr), PTs (X.blk s H scope (compEnvC scope cl C X.env) fp) ifs tt)
    (he : ∀ (s : Shared) (H : Hp) (C : Addr) (cl : List (Str × Addr)) (fp : List Addr), PE (X.blk s H scope (compEnvC scope cl C X.env) fp) elt te) (hs : ∀ x, foldedSetIterable iter X.env x = pure x := by intro _; rfl) :
    PS X (.Assign [.Name y py] (.ListComp elt [⟨tgt, iter, ifs, 0⟩] scope pos) spos) (tAsg (tLcX tg g tt te (own.map (·.2))) (gName i)) := by
  refine ⟨fun pins s σ H D I h => ?_⟩
  rw [exec_Assign_Name_used _ _ _ _ hsw]
  refine wpAny_bind (wpAny_standAt (wpAny_bind ?_))
  show wpAny _ X.A (do let _ ← comprehension (.ListComp elt [⟨tgt, iter, ifs, 0⟩] scope pos) scope X.env (firstIterPos [⟨tgt, iter, ifs, 0⟩] pos) (newList []) false (eval iter X.env) (some (assign (.Name y py) X.env))) _ _ s
  have h : tLcX tg g tt te (own.map (·.2)) σ H (fun x H1 => gName i x σ H1 D.nx) := h
  refine wpAny_bind (thn (lcX_core (Qf := fun _ s' => SP X pins D .next s') hc hr hN I hi ok hnc hg ht he hs h fun L C s' m H' I' q hn f => ?_) fun _ s' hq => wpAny_pure (wpAny_pure hq))
  show wpAny _ _ (assign (.Name y py) X.env (.ref L)) _ _ _
  refine wpAny_assign_Name (store_ok2 (v := V.ref L) I' hN hy (.inl hyl) rfl (fun s2 I2 ⟨a, sb, ha⟩ => ?_) (.inr hyl))
  obtain ⟨f0, f1, f2, f3, f4, f5⟩ := f
  have haC : C ≠ a := by
    rcases ha with z | z
    · rw [z]; exact f1
    · exact fun e => f4 y a z e.symm
  refine ⟨m, hn.sameBut sb haC, fun h3 sb3 => ?_⟩
  exact ⟨_, H', I2.turned (t' := s2.toks) (fun b o hb e => (sb3.2 b hb).trans e) f0 f1 f3 f4 f5, q⟩
end
end GX

/-! ### {**d, k: v}: the rule -/
section
variable {prog : Program} {w : World} {A : Around} {E : Value → Shared → Prop} {s : Shared}
theorem dput_ok {d : Addr} {kvs : List (Key × Value)} {k : Key} {key v : Value} {Q : Unit → Shared → Prop} (hkey : (mixKind prog w).is k key = true) (hm : s.heap.DictOf (mixKind prog w) d kvs) (hz : kvs.length ≤ sizeLine)
    (hQ : ∀ h', h'.DictOf (mixKind prog w) d (stored kvs k v) → Heap.SameBut d s.heap h' → Q () { s with heap := h' }) :
    wpAny (model prog w) A (dictPut d ((mixKind prog w).hash k) key v) Q E s := by
  obtain ⟨ob, es, ep, e1, e2, e3, e4, e5, e6⟩ := hm
  have z1 : es.size ≤ sizeLine := by
    have q1 := e5.length
    rw [Array.length_toList] at q1
    omega
  have fe : (es.findIdx? fun e => (mixKind prog w).is k e.key) = kvs.findIdx? fun kv => decide (kv.1 = k) := by
    rw [← e5.findIdx k]
    cases es with
    | mk l => simp
  unfold dictPut
  refine wpAny_bind (wpAny_dictFind_of hkey e1 e3 e4 ?_)
  cases fi : es.findIdx? fun e => (mixKind prog w).is k e.key with
  | some i =>
    have an : (kvs.any fun kv => decide (kv.1 = k)) = true := any_of_findIdx_some (fe ▸ fi)
    refine wpAny_updateDict e1 e3 (hQ _ ⟨_, _, ep, Heap.get?_update_self _ e1 (Obj.isFreed_of_dict (Obj.data_mapDict e3 _)), e2.mapDict _, Obj.data_mapDict e3 _, e4.modify _ _, ?_, ?_⟩ (Heap.SameBut.update ..))
    · unfold stored
      rw [if_pos an]
      have fl : (es.toList.findIdx? fun e => (mixKind prog w).is k e.key) = some i := by
        rw [← fi]
        cases es with
        | mk l => simp
      have r := e5.modify e6 fl v
      cases es with
      | mk l => simpa using r
    · unfold stored
      rw [if_pos an, keys_map_store]
      exact e6
  | none =>
    have nm : k ∉ kvs.map (·.1) := not_mem_of_findIdx_none (fe ▸ fi)
    have an : ¬ (kvs.any fun kv => decide (kv.1 = k)) = true := fun z => by
      obtain ⟨kv, m, q⟩ := List.any_eq_true.mp z
      exact nm (List.mem_map.mpr ⟨kv, m, of_decide_eq_true q⟩)
    refine wpAny_updateDictKeys (hz := z1) e1 e3 (hQ _ ⟨_, _, ep + 1, Heap.get?_update_self _ e1 (Obj.isFreed_of_dict (Obj.data_mapDictKeys e3 _)), e2.mapDictKeys _, Obj.data_mapDictKeys e3 _, e4.push hkey _, ?_, ?_⟩ (Heap.SameBut.update ..))
    · unfold stored
      rw [if_neg an]
      have r := e5.append hkey ((mixKind prog w).hash k) v
      cases es with
      | mk l => simpa using r
    · unfold stored
      rw [if_neg an, List.map_append, List.nodup_append]
      exact ⟨e6, by simp, fun a ha b hb z => nm (by
        have : b = k := by simpa using hb
        rw [← this, ← z]
        exact ha)⟩
theorem noref_loop {es : Array DictEntry} (hk : KeysOf (mixKind prog w) es) {f : DictEntry → PUnit → Sem (ForInStep PUnit)} (hf : ∀ e u, (∀ a, e.key ≠ .ref a) → f e u = pure (.yield PUnit.unit)) {Q : PUnit → Shared → Prop} (h : Q PUnit.unit s) :
    wpAny (model prog w) A (forIn es PUnit.unit f) Q E s := by
  rw [← Array.forIn_toList]
  have all : ∀ e ∈ es.toList, ∀ a, e.key ≠ Value.ref a := fun e he a z => by
    obtain ⟨k, q, _⟩ := hk e (by simpa using he)
    rcases keyIs_shape (k := k) (v := e.key) q with ⟨_, _, _, q⟩ | ⟨_, _, _, q⟩ <;> (rw [z] at q; cases q)
  refine wpAny_forIn_list f (fun rest _ s' => (∀ e ∈ rest, ∀ a, e.key ≠ Value.ref a) ∧ s' = s) Q ?_ ?_ es.toList PUnit.unit ⟨all, rfl⟩
  · rintro e rest b s' ⟨ha, rfl⟩
    rw [hf e b (ha e (List.mem_cons_self ..))]
    exact wpAny_pure ⟨fun x hx => ha x (List.mem_cons_of_mem _ hx), rfl⟩
  · rintro b s' ⟨_, rfl⟩
    exact h
theorem mergeMap_ok {d o : Addr} {kvs more : List (Key × Value)} {Q : Unit → Shared → Prop} (hdo : d ≠ o) (hoS : (o == sysModules) = false) (hd : s.heap.DictOf (mixKind prog w) d kvs) (ho : s.heap.DictOf (mixKind prog w) o more)
    (hz : kvs.length + more.length ≤ sizeLine) (hQ : ∀ h', h'.DictOf (mixKind prog w) d (merged kvs more) → Heap.SameBut d s.heap h' → Q () { s with heap := h' }) :
    wpAny (model prog w) A (mergeMapping d (.ref o) false) Q E s := by
  have ty := ho.typeIs
  obtain ⟨od, esd, epd, d1, d2, d3, d4, d5, d6⟩ := id hd
  obtain ⟨oo, es, ep, o1, o2, o3, o4, o5, o6⟩ := id ho
  have hlen : more.length = es.size := by rw [← o5.length]; simp
  unfold mergeMapping
  refine wpAny_bind (wpAny_isInstance ty isSubtype_dict_dict ?_)
  simp only [if_true]
  refine wpAny_bind (wpAny_specialOf ty F.slot_dict_iter.lookup ?_)
  simp only [beq_self_eq_true, Bool.false_eq_true, if_false]
  refine wpAny_bind (wpAny_pure ?_)
  dsimp only
  rw [if_neg (by rw [hoS]; exact Bool.false_ne_true)]
  refine wpAny_bind (wpAny_dictEntries d1 d3 ?_)
  have loop : wpAny (model prog w) A (do
      let l ← dictEntries o
      let epoch ← dictEpoch o
      forIn (List.range l.size) PUnit.unit fun i _ => (do
          let l' ← dictEntries o
          match l'[i]? with
            | some e => do
              holding [e.key, e.val] (dictPut d e.hash e.key e.val)
              let ep' ← dictEpoch o
              if (ep' != epoch) = true then do
                  (unsupported "dict.changed-during-merge" : Sem PUnit)
                  pure (ForInStep.yield PUnit.unit)
                else pure (ForInStep.yield PUnit.unit)
            | _ => do
              (unsupported "dict.changed-during-merge" : Sem PUnit)
              pure (ForInStep.yield PUnit.unit) : Sem (ForInStep PUnit))
      pure ()) Q E s := by
    refine wpAny_bind (wpAny_dictEntries o1 o3 (wpAny_bind (wpAny_dictEpoch o1 o3 (wpAny_bind ?_))))
    refine wpAny_forIn_list _ (fun rest _ s' => ∃ (h' : Heap) (i : Nat), s' = { s with heap := h' } ∧ rest = (List.range es.size).drop i ∧ i ≤ es.size ∧ h'.DictOf (mixKind prog w) d (merged kvs (more.take i)) ∧ h'.get? o = some oo ∧ Heap.SameBut d s.heap h') _ ?_ ?_ _ _
      ⟨s.heap, 0, rfl, rfl, Nat.zero_le _, by simpa [merged] using hd, o1, Heap.SameBut.refl _ _⟩
    · rintro x rest b s' ⟨h', i, rfl, hr, hi, hd', ho', hs'⟩
      have hlt : i < es.size := by
        rcases Nat.lt_or_ge i es.size with q | q
        · exact q
        · rw [List.drop_of_length_le (by simpa using q)] at hr
          cases hr
      rw [List.drop_eq_getElem_cons (by simpa using hlt), List.getElem_range] at hr
      injection hr with hx hr
      subst hx
      refine wpAny_bind (wpAny_dictEntries ho' o3 ?_)
      rw [Array.getElem?_eq_getElem hlt]
      obtain ⟨⟨k, v⟩, hkv⟩ : ∃ kv, more[x]? = some kv := ⟨more[x]'(by omega), by simp [hlen, hlt]⟩
      obtain ⟨hkey, hval⟩ := o5.get? (e := es[x]) (by simp [hlt]) hkv
      obtain ⟨k', hkey', hhash⟩ := o4 es[x] (Array.getElem_mem hlt)
      obtain rfl : k' = k := (mixKind prog w).inj _ _ _ hkey' hkey
      show wpAny _ _ (holding [es[x].key, es[x].val] (dictPut d es[x].hash es[x].key es[x].val) >>= _) _ _ _
      rw [hhash, hval]
      have q1 := merged_length_le kvs (more.take x)
      have q2 : (more.take x).length ≤ more.length := by rw [List.length_take]; omega
      refine wpAny_bind (wpAny_holding (dput_ok hkey hd' (by omega) fun h2 hd2 hs2 => ?_))
      have ho2 : h2.get? o = some oo := (hs2.2 o (Ne.symm hdo)).trans ho'
      refine wpAny_bind (wpAny_dictEpoch ho2 o3 ?_)
      rw [if_neg (by simp)]
      exact wpAny_pure ⟨h2, x + 1, rfl, hr, hlt, by rw [merged_take_succ kvs more x (k', v) hkv]; exact hd2, ho2, hs'.trans hs2⟩
    · rintro b s' ⟨h', i, rfl, hr, hi, hd', ho', hs'⟩
      have e : i = es.size := by
        rcases Nat.lt_or_ge i es.size with q | q
        · rw [List.drop_eq_getElem_cons (by simpa using q)] at hr
          cases hr
        · omega
      rw [e, ← hlen, List.take_length] at hd'
      exact wpAny_pure (hQ h' hd' hs')
  split
  · refine wpAny_bind (wpAny_dictEntries o1 o3 (wpAny_bind (noref_loop o4 (fun e u hne => ?_) loop)))
    split
    · rename_i a q
      exact absurd q (hne a)
    · rfl
  · exact loop
end
/-- what is asked of the mapping and the pair; the new dict stands at p -/
def tDstar (td tk tv : TE) : TE := fun σ H Q => ∀ p, H p = none → td σ (upd H p (.dK [])) fun x H1 => ∃ (a : Addr) (kvs : List (Key × V)), x = .ref a ∧ a ≠ p ∧ Rd H1 a (.dK kvs) ∧ H1 p = some (.dK []) ∧ kvs.length ≤ 1000 ∧
  ∀ q, H1 q = none → tk σ (upd (upd H1 p (.dK kvs)) q (.dK [])) fun y H2 => tv σ H2 fun z H3 => ∃ k : Key, y = kV k ∧ H3 p = some (.dK kvs) ∧ H3 q = some (.dK []) ∧ Q (.ref p) (upd (upd H3 q (.dK [(k, z)])) p (.dK (putK kvs k z)))
section
variable {X : Cx}
theorem dictDisplay_star (m k v : Sem Value) : dictDisplay [(none, m), (some k, v)] = (do
    let d ← alloc { cls := .type "dict", data := .dict #[] }
    let x ← holding [.ref d] m
    (((holding [.ref d, x] (mergeMapping d x false)).onRaise fun y => do let _ ← holding [.ref d, x, y] (runValue (.builtin "proto.let_go" {}))).tryCatch fun e => do
        if ← isInstance e (.type "AttributeError") then
          rule "dict.display.not-a-mapping"; raiseError "TypeError" s!"'{← typeNameOf x}' object is not a mapping"
        throw e).onRaise fun y => do let _ ← holding [.ref d, y] (runValue (.builtin "proto.let_go" {}))
    let sub ← holding [.ref d] (subDict [(k, v)])
    (holding [.ref d, .ref sub] (mergeMapping d (.ref sub) false)).onRaise fun y => do let _ ← holding [.ref d, y] (runValue (.builtin "proto.let_go" {}))
    pure (.ref d)) := by
  unfold dictDisplay
  simp [List.forIn_cons, List.forIn_nil]
theorem stored_nodup {kvs : List (Key × Value)} : (kvs.map (·.1)).Nodup → merged ([] : List (Key × Value)) kvs = kvs := merged_nil_of_nodup kvs
theorem kv_put {kvs : List (Key × V)} {vs : List (Key × Value)} (r : KV kvs vs) (k : Key) {z : V} {u : Value} (rz : RelV z u) : KV (putK kvs k z) (stored vs k u) := r.put k rz
theorem pe_dstar {d k v : Expr} {td tk tv : TE} {pos : Pos} (hd : PE X d td) (hk : PE X k tk) (hv : PE X v tv) : PE X (.Dict [none, some k] [d, v] pos) (tDstar td tk tv) := by
  refine ⟨fun pins s σ H Q I h => ?_⟩
  rw [arm_eval_Dict]
  refine wpAny_bind (wpAny_standAt ?_)
  show wpAny _ _ (dictDisplay [(none, do let x ← eval d X.env; standAt pos; pure x), (some (eval k X.env), do let x ← eval v X.env; standAt pos; pure x)]) _ _ _
  rw [dictDisplay_star]
  refine wpAny_bind (wpAny_alloc ?_)
  have hn := I.hok.fresh (Nat.le_refl s.heap.objs.size)
  have I1 := I.laid (a := s.heap.objs.size) (o := .dK []) (h' := s.heap.push { cls := .type "dict", data := .dict #[] }) (t' := s.toks) (fun _ _ q => Heap.get?_push_of_some _ q) (Nat.le_refl _) (dk_empty s.heap I.big)
  refine wpAny_bind (wpAny_holding (wpAny_bind (thn (hd.run pins _ σ _ _ I1 (h _ hn)) fun xv s1 hh => ?_)))
  obtain ⟨x, H1, J1, rx, a, kvs, ex, nap, ea, ep, hl, hq⟩ := hh
  subst ex
  obtain rfl : xv = Value.ref a := rx
  refine wpAny_bind (wpAny_standAt (wpAny_pure ?_))
  obtain ⟨_, ma, va, ra, da⟩ := dk_rd J1.hok ea
  obtain ⟨_, mp, vp, rp, dp⟩ := dk_of J1.hok ep
  cases rp
  have lva : va.length ≤ 1000 := by rw [← ra.length]; exact hl
  have ndv : (va.map (·.1)).Nodup := by
    obtain ⟨_, _, _, _, _, _, _, _, nd⟩ := da
    exact nd
  refine wpAny_bind (wpAny_onRaise (wpAny_tryCatch (wpAny_onRaise (wpAny_holding (mergeMap_ok (Ne.symm nap) ma dp da (by rw [sizeLine_eq, List.length_nil]; omega) fun h2 d2 s2 => ?_)))))
  rw [stored_nodup ndv] at d2
  have kz : kvs.length ≤ sizeLine := by rw [sizeLine_eq]; omega
  have J2 : Inv X pins σ (upd H1 s.heap.objs.size (.dK kvs)) { s1 with heap := h2, toks := s1.toks } :=
    d_write J1 (by rw [ep]; exact True.intro) s2 (let ⟨q, _, _, hq, _⟩ := d2; ⟨q, hq⟩) (dk_new kz mp ra d2)
  have hq2 : H1 h2.objs.size = none := by
    have f2 := J2.hok.fresh (Nat.le_refl h2.objs.size)
    have ne : h2.objs.size ≠ s.heap.objs.size := fun z => by
      rw [z, upd_same] at f2
      cases f2
    rw [upd_ne ne] at f2
    exact f2
  have J3 := J2.laid (a := h2.objs.size) (o := .dK []) (h' := h2.push { cls := .type "dict", data := .dict #[] }) (t' := s1.toks) (fun _ _ q => Heap.get?_push_of_some _ q) (Nat.le_refl _) (dk_empty h2 J2.big)
  refine wpAny_bind (wpAny_holding (wpAny_subDict (knd := mixKind X.prog X.w) (show 1 ≤ 15 by decide) ?_))
  unfold evalPairs
  refine wpAny_bind (thn (hk.run pins _ σ _ _ J3 (hq _ hq2)) fun kv s4 hh => ?_)
  obtain ⟨y, H4, J4, ry, hv4⟩ := hh
  refine wpAny_bind (wpAny_holding (wpAny_bind (thn (hv.run pins s4 σ H4 _ J4 hv4) fun vv s5 hh => ?_)))
  obtain ⟨z, H5, J5, rz, ky, ey, e5p, e5q, fin⟩ := hh
  subst ey
  refine wpAny_bind (wpAny_standAt (wpAny_pure (wpAny_bind ?_)))
  unfold evalPairs
  refine wpAny_holding (wpAny_pure (wpAny_pure ?_))
  obtain ⟨_, mq, vq, rq, dq⟩ := dk_of J5.hok e5q
  cases rq
  refine ⟨[(ky, vv)], ⟨kV_is ry, rfl, trivial⟩, dq, fun h6 d6 s6 => ?_⟩
  have d6' : h6.DictOf (mixKind X.prog X.w) h2.objs.size [(ky, vv)] := d6
  have J6 : Inv X pins σ (upd H5 h2.objs.size (.dK [(ky, z)])) { s5 with heap := h6, toks := s5.toks + 1 } :=
    d_write J5 (by rw [e5q]; exact True.intro) s6 (let ⟨q, _, _, hq, _⟩ := d6; ⟨q, hq⟩) (dk_new (by show 1 ≤ sizeLine; decide) mq (Paired.cons ⟨rfl, rz⟩ Paired.nil) d6')
  have npq : s.heap.objs.size ≠ h2.objs.size := fun z => by
    rw [z] at e5p
    have q := e5p.symm.trans e5q
    have f2 := J2.hok.fresh (Nat.le_refl h2.objs.size)
    rw [z, upd_same] at f2
    cases f2
  have e6p : upd H5 h2.objs.size (.dK [(ky, z)]) s.heap.objs.size = some (.dK kvs) := by rw [upd_ne npq]; exact e5p
  obtain ⟨_, mp6, v6, r6, d6p⟩ := dk_of J6.hok e6p
  refine wpAny_bind (wpAny_onRaise (wpAny_holding (mergeMap_ok npq mq d6p d6' (by rw [← r6.length, sizeLine_eq]; show kvs.length + 1 ≤ _; omega) fun h7 d7 s7 => ?_)))
  have pl : (putK kvs ky z).length ≤ sizeLine := by
    have := length_putK kvs ky z
    rw [sizeLine_eq]
    omega
  have J7 : Inv X pins σ (upd (upd H5 h2.objs.size (.dK [(ky, z)])) s.heap.objs.size (.dK (putK kvs ky z))) { s5 with heap := h7, toks := s5.toks + 1 } :=
    d_write (s := { s5 with heap := h6, toks := s5.toks + 1 }) (t' := s5.toks + 1) J6 (by rw [e6p]; exact True.intro) s7 (let ⟨q, _, _, hq, _⟩ := d7; ⟨q, hq⟩) (dk_new pl mp6 (kv_put r6 ky rz) d7)
  exact wpAny_pure ⟨.ref s.heap.objs.size, _, J7, rfl, fin⟩
theorem call_dictOf : CallR X (.type "dict") (fun xs H Q => ∃ (a : Addr) (kvs : List (Key × V)), xs = [.ref a] ∧ Rd H a (.dK kvs) ∧ ∀ p, H p = none → Q (.ref p) (upd H p (.dK kvs))) := by
  intro pins s σ H xs us Q I r h
  obtain ⟨a, kvs, rfl, ea, q⟩ := h
  obtain ⟨u, rfl, ru⟩ := vals1 r
  obtain rfl : u = Value.ref a := ru
  exact d_copyOf I ea fun p s' hp I' => ⟨.ref p, _, I', rfl, q p hp⟩
end

/-! ### the pool: _law_pool, _law_mixed, _law_draw -/
abbrev sMixed : Stmt := topS 20
abbrev NMixed : List Str := ["_law_number", "_law_count", "_law_many"]
abbrev PMixed : List Str := ["_law_number", "_law_count", "_law_many"]
theorem scMixed : FnScope NMixed PMixed (defScope sMixed) := ⟨rfl, rfl, rfl, by decide +kernel, rfl, by decide +kernel, by decide +kernel⟩
abbrev sDraw : Stmt := topS 21
abbrev NDraw : List Str := ["_law_pool_here", "_law_many", "_law_at", "_law_cells", "_law_cell"]
abbrev PDraw : List Str := ["_law_pool_here", "_law_many"]
theorem scDraw : FnScope NDraw PDraw (defScope sDraw) := ⟨rfl, rfl, rfl, by decide +kernel, rfl, by decide +kernel, by decide +kernel⟩
abbrev sPool : Stmt := topS 19
abbrev NPool : List Str := ["_law_script", "_law_cells", "_law_cell", "_law_seed"]
abbrev PPool : List Str := ["_law_script"]
theorem scPool : FnScope NPool PPool (defScope sPool) := ⟨rfl, rfl, rfl, by decide +kernel, rfl, by decide +kernel, by decide +kernel⟩
/-- the pool at p, its cells at c; lim is its last item; at most n draws so far -/
def PoolAt (H : Hp) (p c : Addr) (lim : V) (n : Nat) : Prop :=
  ∃ (i : Nat) (cells : List Int) (cnt seed mode : Int), H p = some (.lst [.ref c, .int (i : Int), .int cnt, .int seed, .int mode, lim]) ∧ H c = some (.lst (cells.map V.int)) ∧
    i ≤ cells.length ∧ 0 ≤ cnt ∧ cnt ≤ (n : Int) ∧ 0 ≤ seed ∧ seed < 2147483647
def spMixed : Sp := fun vs H Q _ => ∃ (n c m : Int), vs = [.int n, .int c, .int m] ∧ 0 ≤ n ∧ n < 2147483647 ∧ 0 ≤ c ∧ c ≤ 1000000000000 ∧ 0 < m ∧ ∀ r : Int, 0 ≤ r → r < m → Q (.int r) H
def spDraw : Sp := fun vs H Q _ => ∃ (p c : Addr) (lim : V) (n : Nat) (m : Int), vs = [.ref p, .int m] ∧ PoolAt H p c lim n ∧ n < 1000000000000 ∧ 0 < m ∧ m ≤ 1000000000000000000 ∧
  ∀ (r : Int) (H' : Hp), 0 ≤ r → r < m → PoolAt H' p c lim (n + 1) → But p c H H' → Q (.int r) H'
def spPool (K : PySem.W.Frag) : Sp := fun vs H Q _ => ∃ (a : Addr) (ns : List Int), vs = [.ref a] ∧ SqL K H a (ns.map V.int) ∧ ns.length ≤ 63 ∧
  ∀ (p c : Addr) (H' : Hp), Same H H' → H p = none → H c = none → PoolAt H' p c (.int 30) 0 → Q (.ref p) H'
structure TxPool (mg : Str → Option Value) : Prop where
  n_int : mg "int" = none
  n_len : mg "len" = none
theorem pool_ne {H : Hp} {p c : Addr} {xs : List V} {cells : List Int} (hp : H p = some (.lst (.ref c :: xs))) (hc : H c = some (.lst (cells.map V.int))) : p ≠ c := ne_of hp hc (by
  intro z
  injection z with z
  cases cells with
  | nil => cases z
  | cons a r => injection z with z _; cases z)
theorem pow_lt {n c : Int} (h1 : 0 ≤ n) (h2 : n < 2147483647) (h3 : 0 ≤ c) (h4 : c ≤ 1000000000000) : (n + 7919 * c).natAbs < 2 ^ 64 := by
  have : (2 : Nat) ^ 64 = 18446744073709551616 := by decide
  omega
theorem m63 {m : Int} (h0 : 0 < m) (h1 : m ≤ 1000000000000000000) : m.natAbs < 2 ^ 63 := by
  have : (2 : Nat) ^ 63 = 9223372036854775808 := by decide
  omega
theorem set_ints (cells : List Int) (j : Nat) (z : Int) : (cells.map V.int).set j (V.int z) = (cells.set j z).map V.int := by
  rw [List.map_set]
theorem same_new {H : Hp} {p : Addr} {o : HO} (h : H p = none) : Same H (upd H p o) := fun b x e => by
  rw [upd_ne (ne_of_none e h)]
  exact e
theorem atI_in {α : Type} {xs : List α} {i : Int} (h0 : 0 ≤ i) (h1 : i < xs.length) : ∃ v, atI xs i = some v ∧ v ∈ xs := by
  have h : i.toNat < xs.length := by omega
  refine ⟨xs[i.toNat], ?_, List.getElem_mem h⟩
  have e : i = ((i.toNat : Nat) : Int) := by omega
  have q := atI_nat (xs := xs) (j := i.toNat) (v := xs[i.toNat]) (by simp [h])
  rw [← e] at q
  exact q
theorem PoolAt.same {H H' : Hp} {p c : Addr} {lim : V} {n : Nat} (h : PoolAt H p c lim n) (s : Same H H') : PoolAt H' p c lim n := by
  obtain ⟨i, cs, cn, sd, md, e1, e2, e⟩ := h
  exact ⟨i, cs, cn, sd, md, s _ _ e1, s _ _ e2, e⟩
theorem PoolAt.ne1 {H : Hp} {p c q : Addr} {lim : V} {n : Nat} (h : PoolAt H p c lim n) (hq : H q = none) : q ≠ p := fun z => by
  obtain ⟨_, _, _, _, _, e, _⟩ := h
  rw [z, e] at hq
  cases hq
theorem PoolAt.ne2 {H : Hp} {p c q : Addr} {lim : V} {n : Nat} (h : PoolAt H p c lim n) (hq : H q = none) : q ≠ c := fun z => by
  obtain ⟨_, _, _, _, _, _, e, _⟩ := h
  rw [z, e] at hq
  cases hq
theorem str_app_len (a b : Str) : (a ++ b : Str).length = a.length + b.length := by
  show (a.cps ++ b.cps).size = a.cps.size + b.cps.size
  exact Array.size_append
theorem PoolAt.mono {H : Hp} {p c : Addr} {lim : V} {n m : Nat} (h : PoolAt H p c lim n) (hm : n ≤ m) : PoolAt H p c lim m := by
  obtain ⟨i, cs, cn, sd, md, e1, e2, e3, e4, e5, e⟩ := h
  exact ⟨i, cs, cn, sd, md, e1, e2, e3, e4, by omega, e⟩
theorem PoolAt.upd {H : Hp} {p c q : Addr} {lim : V} {n : Nat} {o : HO} (h : PoolAt H p c lim n) (h1 : q ≠ p) (h2 : q ≠ c) : PoolAt (upd H q o) p c lim n := by
  obtain ⟨i, cs, cn, sd, md, e1, e2, e⟩ := h
  exact ⟨i, cs, cn, sd, md, by rw [upd_ne h1.symm]; exact e1, by rw [upd_ne h2.symm]; exact e2, e⟩
section
variable {P : Program} {w : World} {K : PySem.W.Frag} {mg : Str → Option Value} {base : Heap}
theorem ok_Mixed {f : Addr} {fd : FuncData} (F : Fun K "_law_mixed" "_law_mixed" sMixed f fd) (T : TxPool mg) : FnOk P w K mg base CX0 1 f fd PMixed spMixed := by
  refine F.ok scMixed (fun vs H Q E h => ?_) (fun cdv A outer s H vs Q E hr h => ?_)
  · obtain ⟨n, c, m, rfl, _⟩ := h
    rfl
  · obtain ⟨n, c, m, rfl, n0, n1, c0, c1, m0, k⟩ := h
    refine ⟨_, (pss_one (ps_ret (pe_op op_mod (pe_op op_fdiv (pe_callTy call_int1 (by rfl) T.n_int bb_int (pa_cons (pe_op op_mod (pe_op op_pow (pe_callTy call_int1 (by rfl) T.n_int bb_int (pa_cons (pe_op op_add (pv 0) (pe_op op_mul pe_int (pv 1))) pa_nil)) pe_int) pe_int) pa_nil)) pe_int) (pv 2)))), ?_⟩
    refine ⟨_, rfl, _, rfl, _, _, rfl, rfl, .inl ⟨by decide, by decide⟩, _, _, rfl, rfl, .inl ⟨_, rfl, ?_⟩⟩
    refine ⟨_, _, rfl, rfl, ⟨by decide, by decide, pow_lt n0 n1 c0 c1⟩, _, _, rfl, rfl, (show (0 : Int) < 2147483647 by decide), .inl ⟨_, rfl, ?_⟩⟩
    refine ⟨_, _, rfl, rfl, ⟨by decide, by decide⟩, _, rfl, _, _, rfl, rfl, m0, ?_⟩
    exact k _ (Int.emod_nonneg _ (by omega)) (Int.emod_lt_of_pos _ m0)
theorem ok_Draw {f : Addr} {fd : FuncData} (F : Fun K "_law_draw" "_law_draw" sDraw f fd) (T : TxPool mg) (GM : Has P w K mg base CX0 1 "_law_mixed" PMixed spMixed) :
    FnOk P w K mg base CX0 2 f fd PDraw spDraw := by
  refine F.ok scDraw (fun vs H Q E h => ?_) (fun cdv A outer s H vs Q E hr h => ?_)
  · obtain ⟨p, c, lim, n, m, rfl, _⟩ := h
    rfl
  · obtain ⟨p, c, lim, n, m, rfl, ⟨i, cells, cnt, seed, mode, hp, hc, hi, c0, c1, s0, s1⟩, hn, m0, m1, k⟩ := h
    have npc : p ≠ c := pool_ne hp hc
    refine ⟨_, (pss_cons (ps_asg (pe_op op_add (pe_ix (r := rIxL K) ix_list (pv 0) pe_int (fun _ _ => rfl)) pe_int) (pg_sub (pv 0) pe_int set_list))
  (pss_cons (ps_if (pt_cmpR op_ge (pe_ix (r := rIxL K) ix_list (pv 0) pe_int (fun _ _ => rfl)) (pe_callB call_len_seq (by rfl) T.n_len bb_len (pa_cons (pe_ix (r := rIxL K) ix_list (pv 0) pe_int (fun _ _ => rfl)) pa_nil)) (nomark _))
  (pss_one (ps_ret (pe_callH GM hr rfl pass0 (pa_cons (pe_ix (r := rIxL K) ix_list (pv 0) pe_int (fun _ _ => rfl)) (pa_cons (pe_ix (r := rIxL K) ix_list (pv 0) pe_int (fun _ _ => rfl)) (pa_cons (pv 1) pa_nil))))))
  pss_nil)
  (pss_cons (ps_set (i := 2) scDraw.nd rfl (Or.inl rfl) (pe_ix (r := rIxL K) ix_list (pv 0) pe_int (fun _ _ => rfl)))
  (pss_cons (ps_set (i := 3) scDraw.nd rfl (Or.inl rfl) (pe_ix (r := rIxL K) ix_list (pv 0) pe_int (fun _ _ => rfl)))
  (pss_cons (ps_set (i := 4) scDraw.nd rfl (Or.inl rfl) (pe_ix (r := rIxL K) ix_list (pv 3) (pv 2) (fun _ _ => rfl)))
  (pss_cons (ps_if (PW.pt (pw_and (pt_cmpR op_ne (pe_ix (r := rIxL K) ix_list (pv 0) pe_int (fun _ _ => rfl)) pe_int (nomark _)) (pw_and1 (pt_cmpR op_lt (pv 4) (pe_op op_pow pe_int pe_int) (nomark _)))))
  (pss_cons (ps_asg (pe_op op_add (pe_ix (r := rIxL K) ix_list (pv 0) pe_int (fun _ _ => rfl)) pe_int) (pg_sub (pv 0) pe_int set_list))
  (pss_cons (ps_if (pt_cmpR op_eq (pe_ix (r := rIxL K) ix_list (pv 0) pe_int (fun _ _ => rfl)) pe_int (nomark _))
  (pss_cons (ps_asg (pe_op op_add (pv 2) pe_int) (pg_sub (pv 0) pe_int set_list))
  (pss_one (ps_asg pe_int (pg_sub (pv 0) pe_int set_list))))
  pss_nil)
  (pss_one (ps_ret (pe_callH GM hr rfl pass0 (pa_cons (pe_op op_mod (pe_callTy call_int1 (by rfl) T.n_int bb_int (pa_cons (pv 4) pa_nil)) pe_int) (pa_cons (pe_ix (r := rIxL K) ix_list (pv 0) pe_int (fun _ _ => rfl)) (pa_cons (pv 1) pa_nil))))))))
  pss_nil)
  (pss_cons (ps_asg pe_int (pg_sub (pv 0) pe_int set_list))
  (pss_cons (ps_asg (pe_op op_fdivW (pe_callTy call_int1 (by rfl) T.n_int bb_int (pa_cons (pv 4) pa_nil)) (pv 1)) (pg_sub (pv 3) (pv 2) set_list))
  (pss_cons (ps_if (pt_cmpR op_eq (pe_ix (r := rIxL K) ix_list (pv 3) (pv 2) (fun _ _ => rfl)) pe_int (nomark _))
  (pss_cons (ps_asg (pe_op op_add (pv 2) pe_int) (pg_sub (pv 0) pe_int set_list))
  (pss_one (ps_asg pe_int (pg_sub (pv 0) pe_int set_list))))
  pss_nil)
  (pss_one (ps_ret (pe_op op_mod (pe_callTy call_int1 (by rfl) T.n_int bb_int (pa_cons (pv 4) pa_nil)) (pv 1))))))))))))), ?_⟩
    -- pool[2] = pool[2] + 1
    refine ⟨_, rfl, p, _, _, _, rfl, rfl, SqL.of hp, rfl, _, _, rfl, rfl, _, rfl, p, _, _, _, rfl, rfl, hp, rfl, ?_⟩
    have st : ∀ (i' : Nat) (md : Int) (cs : List Int), i' ≤ cs.length → ∀ H' : Hp, H' p = some (.lst [.ref c, .int (i' : Int), .int (cnt + 1), .int seed, .int md, lim]) → H' c = some (.lst (cs.map V.int)) → PoolAt H' p c lim (n + 1) :=
      fun i' md cs hl H' a b => ⟨i', cs, cnt + 1, seed, md, a, b, hl, by omega, by omega, s0, s1⟩
    have ac : ∀ {H' : Hp} {o : HO} {x : HO}, H' c = some x → upd H' p o c = some x := fun e => by rw [upd_ne npc.symm]; exact e
    have ap : ∀ {H' : Hp} {o : HO} {x : HO}, H' p = some x → upd H' c o p = some x := fun e => by rw [upd_ne npc]; exact e
    have kq : ∀ {H' : Hp} {o : HO}, But p c H H' → But p c H (upd H' p o) := fun b x o e hb hx => by rw [upd_ne hb]; exact b x o e hb hx
    have kc : ∀ {H' : Hp} {o : HO}, But p c H H' → But p c H (upd H' c o) := fun b x o e hb hx => by rw [upd_ne hx]; exact b x o e hb hx
    -- if pool[1] >= len(pool[0])
    refine ⟨_, rfl, p, _, _, _, rfl, rfl, SqL.of upd_same, rfl, _, rfl, p, _, _, _, rfl, rfl, SqL.of upd_same, rfl, c, _, rfl, .inl (SqL.of (ac hc)), _, _, rfl, rfl, _, rfl, ?_⟩
    refine ite2 (fun hge => ?_) (fun hlt => ?_)
    · refine ⟨_, rfl, p, _, _, _, rfl, rfl, SqL.of upd_same, rfl, _, rfl, p, _, _, _, rfl, rfl, SqL.of upd_same, rfl, _, rfl, seed, cnt + 1, m, rfl, s0, s1, by omega, by omega, m0, fun r r0 r1 => ?_⟩
      exact k r _ r0 r1 (st i mode cells hi _ upd_same (ac hc)) (kq But.refl)
    · have hil : i < cells.length := by
        have z : ¬ ((cells.map V.int).length : Int) ≤ (i : Int) := fun z => hlt (decide_eq_true z)
        rw [List.length_map] at z
        omega
      obtain ⟨cell, hcell⟩ : ∃ z, cells[i]? = some z := ⟨cells[i], by simp [hil]⟩
      have hcV : (cells.map V.int)[i]? = some (V.int cell) := by rw [List.getElem?_map, hcell]; rfl
      -- at, cells, cell
      refine ⟨_, rfl, p, _, _, _, rfl, rfl, SqL.of upd_same, rfl, ?_⟩
      refine ⟨_, rfl, p, _, _, _, rfl, rfl, SqL.of upd_same, rfl, ?_⟩
      refine ⟨_, rfl, _, rfl, c, _, _, _, rfl, rfl, SqL.of (ac hc), atI_nat hcV, ?_⟩
      -- if pool[4] != 2 and cell < 10 ** 18
      refine ⟨_, rfl, p, _, _, _, rfl, rfl, SqL.of upd_same, rfl, rfl, _, rfl, ?_⟩
      refine ite2 (fun h2 => ?gA) (fun h2 => iteF ?gB)
      case' gA => refine ⟨_, rfl, _, _, rfl, rfl, ⟨by decide, by decide, by decide⟩, _, _, rfl, rfl, _, rfl, ite2 (fun h3 => ?gD) (fun h3 => ?gC)⟩
      case gD =>
        refine ⟨_, rfl, p, _, _, _, rfl, rfl, SqL.of upd_same, rfl, _, _, rfl, rfl, _, rfl, p, _, _, _, rfl, rfl, upd_same, rfl, ?_⟩
        refine ⟨_, rfl, p, _, _, _, rfl, rfl, SqL.of upd_same, rfl, rfl, _, rfl, ite2 (fun h4 => ?_) (fun h4 => ?_)⟩
        · refine ⟨_, rfl, _, _, rfl, rfl, _, rfl, p, _, _, _, rfl, rfl, upd_same, rfl, ?_⟩
          refine ⟨_, rfl, p, _, _, _, rfl, rfl, upd_same, rfl, ?_⟩
          refine ⟨_, rfl, .inl ⟨_, rfl, _, _, rfl, rfl, (show (0 : Int) < 2147483647 by decide), _, rfl, p, _, _, _, rfl, rfl, SqL.of upd_same, rfl, _, rfl, _, cnt + 1, m, rfl, Int.emod_nonneg _ (by decide), Int.emod_lt_of_pos _ (by decide), by omega, by omega, m0, fun r r0 r1 => ?_⟩⟩
          exact k r _ r0 r1 (st (i + 1) 0 cells (by omega) _ upd_same (ac (ac (ac (ac hc))))) (kq (kq (kq (kq But.refl))))
        · refine ⟨_, rfl, .inl ⟨_, rfl, _, _, rfl, rfl, (show (0 : Int) < 2147483647 by decide), _, rfl, p, _, _, _, rfl, rfl, SqL.of upd_same, rfl, _, rfl, _, cnt + 1, m, rfl, Int.emod_nonneg _ (by decide), Int.emod_lt_of_pos _ (by decide), by omega, by omega, m0, fun r r0 r1 => ?_⟩⟩
          exact k r _ r0 r1 (st i (mode + 1) cells (by omega) _ upd_same (ac (ac hc))) (kq (kq But.refl))
      all_goals
        -- pool[4] = 2; cells[at] = int(cell) // many
        refine ⟨_, rfl, p, _, _, _, rfl, rfl, upd_same, rfl, ?_⟩
        have hix : ixN (cells.map V.int).length (i : Int) = some i := by
          unfold ixN
          rw [List.length_map, if_pos (by omega), if_pos (by omega), Int.toNat_natCast]
        refine ⟨_, rfl, .inl ⟨_, rfl, _, rfl, _, _, rfl, rfl, wide_div m0 (m63 m0 m1) (by decide) (by decide), _, rfl, _, rfl, c, _, _, i, rfl, rfl, ac (ac hc), hix, ?_⟩⟩
        rw [set_ints]
        have hcW : ((cells.set i (cell / m)).map V.int)[i]? = some (V.int (cell / m)) := by
          rw [List.getElem?_map, List.getElem?_set_self hil]; rfl
        have hlen : (cells.set i (cell / m)).length = cells.length := List.length_set
        refine ⟨_, rfl, _, rfl, c, _, _, _, rfl, rfl, SqL.of upd_same, atI_nat hcW, rfl, _, rfl, ite2 (fun h4 => ?_) (fun h4 => ?_)⟩
        · refine ⟨_, rfl, _, _, rfl, rfl, _, rfl, p, _, _, _, rfl, rfl, ap upd_same, rfl, ?_⟩
          refine ⟨_, rfl, p, _, _, _, rfl, rfl, upd_same, rfl, ?_⟩
          refine ⟨_, rfl, .inl ⟨_, rfl, _, rfl, _, _, rfl, rfl, m0, ?_⟩⟩
          exact k _ _ (Int.emod_nonneg _ (by omega)) (Int.emod_lt_of_pos _ m0) (st (i + 1) 0 _ (by omega) _ upd_same (ac (ac upd_same))) (kq (kq (kc (kq (kq But.refl)))))
        · refine ⟨_, rfl, .inl ⟨_, rfl, _, rfl, _, _, rfl, rfl, m0, ?_⟩⟩
          exact k _ _ (Int.emod_nonneg _ (by omega)) (Int.emod_lt_of_pos _ m0) (st i 2 _ (by omega) _ (ap upd_same) upd_same) (kc (kq (kq But.refl)))
/-! _law_pool -/
theorem cut63 {ns : List Int} (h : ns.length ≤ 63) : cutV (ns.map V.int) none (some 63) = ns.map V.int := by
  unfold cutV
  rw [HT.sIx_none, show HT.sIx (ns.map V.int).length (ns.map V.int).length (some 63) = min 63 (ns.map V.int).length from HT.sIx_nat _ _ 63]
  rw [List.length_map, List.drop_zero, List.take_of_length_le]
  rw [List.length_map]
  omega
theorem int_at {ns : List Int} {i : Nat} {x : V} (h : (ns.map V.int)[i]? = some x) : ∃ z, ns[i]? = some z ∧ x = V.int z := by
  rw [List.getElem?_map] at h
  cases e : ns[i]? with
  | none => rw [e] at h; cases h
  | some z => rw [e] at h; exact ⟨z, rfl, (Option.some.inj h).symm⟩
theorem take_snoc {α : Type} {l : List α} {i : Nat} {z : α} (h : l[i]? = some z) : l.take (i + 1) = l.take i ++ [z] := by
  rw [List.take_succ, h]; rfl
theorem ok_Pool {f : Addr} {fd : FuncData} (F : Fun K "_law_pool" "_law_pool" sPool f fd) (T : TxPool mg) : FnOk P w K mg base CX0 1 f fd PPool (spPool K) := by
  refine F.ok scPool (fun vs H Q E h => ?_) (fun cdv A outer s H vs Q E hr h => ?_)
  · obtain ⟨a, ns, rfl, _⟩ := h
    rfl
  · obtain ⟨a, ns, rfl, hS, hlen, k⟩ := h
    refine ⟨_, (pss_cons (ps_setLc (i := 1) (own := [("_law_cell", 2)]) (g := gName 2) (tt := tYes) rfl scPool.nd rfl rfl (sw_true rfl rfl rfl (by decide +kernel)) (pi_list (pe_slice sl_list (pv 0) po_none (po_some pe_int))) (blkOk_by (own := [("_law_cell", 2)]) (N := NPool) (sc := (defScope sPool)) (by decide +kernel)) (fun _ _ _ _ _ => (pg_name (i := 2) scPool.nd rfl (Or.inl rfl))) (fun _ _ _ _ _ => pts_nil) (fun _ _ _ _ _ => (pe_callTy call_int1 (by rfl) T.n_int bb_int (pa_cons (pv 2) pa_nil))))
  (pss_cons (ps_set (i := 3) scPool.nd rfl (Or.inl rfl) pe_int)
  (pss_cons (ps_for PassesOwn.never rfl (pi_list (pv 1)) (pg_name (i := 2) scPool.nd rfl (Or.inl rfl))
  (pss_one (ps_set (i := 3) scPool.nd rfl (Or.inl rfl) (pe_op op_mod (pe_callTy call_int1 (by rfl) T.n_int bb_int (pa_cons (pe_op op_add (pe_op op_mul (pv 3) pe_int) (pv 2)) pa_nil)) pe_int))))
  (pss_one (ps_ret (pe_lst (pa_cons (pv 1) (pa_cons pe_int (pa_cons pe_int (pa_cons (pv 3) (pa_cons pe_int (pa_cons pe_int pa_nil)))))))))))), ?_⟩
    refine ⟨_, rfl, 63, rfl, a, _, rfl, hS, fun q hq => ⟨q, rfl, ⟨_, SqL.of upd_same⟩, fun D hD => ?_⟩⟩
    rw [cut63 hlen] at *
    have nqD : q ≠ D := fun z => by rw [z, upd_same] at hD; cases hD
    have hD0 : H D = none := by rw [← hD, upd_ne (Ne.symm nqD)]
    refine lc_list (K := K) (a := q) (xs := ns.map V.int) (fun i H' => Same H H' ∧ H' q = some (.lst (ns.map V.int)) ∧ H' D = some (.lst ((ns.take i).map V.int))) ?_ ?_ ?_ ?_
    · exact ⟨fun b o e => by rw [upd_ne (ne_of_none e hD0), upd_ne (ne_of_none e hq)]; exact e, by rw [upd_ne nqD, upd_same], upd_same⟩
    · exact fun i H' _ h' => SqL.of h'.2.1
    · rintro i x H' hx ⟨s1, q1, d1⟩
      obtain ⟨z, hz, rfl⟩ := int_at hx
      refine ⟨rfl, _, rfl, .inl ⟨_, rfl, _, d1, ?_, ?_⟩⟩
      · exact small1000 (by rw [List.length_map, List.length_take]; omega)
      · refine ⟨fun b o e => by rw [upd_ne (ne_of_none e hD0)]; exact s1 b o e, by rw [upd_ne nqD]; exact q1, ?_⟩
        rw [upd_same, take_snoc hz, List.map_append]
        rfl
    · rintro H1 ⟨s1, q1, d1⟩
      rw [List.length_map, List.take_length] at d1
      -- seed = 11; the loop
      refine ⟨_, rfl, D, rfl, ⟨_, SqL.of d1⟩, for_list (K := K) (a := D) (xs := ns.map V.int) (fun i σ H' => ∃ (x : Option V) (z : Int), σ = [some (.ref a), some (.ref D), x, some (.int z)] ∧ 0 ≤ z ∧ z < 2147483647 ∧ H' = H1)
        ⟨none, 11, rfl, by decide, by decide, rfl⟩ (fun i σ H' _ ⟨_, _, _, _, _, e⟩ => by rw [e]; exact SqL.of d1) ?_ ?_⟩
      · rintro i x σ H' hx ⟨y, z, rfl, z0, z1, rfl⟩
        obtain ⟨u, hu, rfl⟩ := int_at hx
        refine ⟨_, rfl, _, _, rfl, rfl, .inr ⟨by decide, by decide⟩, _, rfl, _, _, rfl, rfl, .inl ⟨_, rfl, _, _, rfl, rfl, (show (0 : Int) < 2147483647 by decide), ?_⟩⟩
        exact ⟨_, _, rfl, Int.emod_nonneg _ (by decide), Int.emod_lt_of_pos _ (by decide), rfl⟩
      · rintro σ H' ⟨y, z, rfl, z0, z1, rfl⟩
        refine ⟨_, rfl, _, rfl, (by show 6 ≤ sizeLine; decide), fun p hp => ?_⟩
        have npD : D ≠ p := ne_of_none d1 hp
        refine k p D _ (s1.trans (same_new hp)) (s1.free hp) hD0 ⟨0, ns, 0, z, 0, upd_same, by rw [upd_ne npD]; exact d1, Nat.zero_le _, by decide, by decide, z0, z1⟩
end

/-! ### is_name -/
abbrev sIsName : Stmt := topS 11
abbrev NIsName : List Str := ["value", "char"]
abbrev PIsName : List Str := ["value"]
theorem scIsName : FnScope NIsName PIsName (defScope sIsName) := ⟨rfl, rfl, rfl, by decide +kernel, rfl, by decide +kernel, by decide +kernel⟩
def LET : Str := "abcdefghijklmnopqrstuvwxyz"
def DIG : Str := "0123456789"
def KWS : List Str := ["globals", "kinds", "keep", "def", "if", "else", "while", "risk", "raise", "try", "except", "finally", "undo", "with", "swallow", "return"]
def al (c : Nat) : Bool := decide (c ∈ LET.cps.toList) || decide (c ∈ DIG.cps.toList)
def isName (z : Str) : Bool := match z.cps.toList with
  | [] => false
  | c :: r => decide (c ∈ LET.cps.toList) && (c :: r).all al && !inV (.str z) (KWS.map V.str)
theorem isName_nil {z : Str} (h : z.cps.toList = []) : isName z = false := by unfold isName; rw [h]
theorem isName_at {z : Str} {c : Nat} (h : z.cps.toList[0]? = some c) : isName z = (decide (c ∈ LET.cps.toList) && z.cps.toList.all al && !inV (.str z) (KWS.map V.str)) := by
  unfold isName
  cases e : z.cps.toList with
  | nil => rw [e] at h; simp at h
  | cons a r => rw [e] at h; simp at h; subst h; rfl
theorem str_empty_iff {z : Str} : (V.str z = V.str ("" : Str)) ↔ z.cps.toList = [] := by
  constructor
  · intro h
    injection h with h
    subst h
    decide +kernel
  · intro h
    congr 1
    have e : z.cps = #[] := by simpa using h
    cases z with
    | mk c =>
      have e : c = #[] := e
      subst e
      decide +kernel
/-- what is asked of a value: a text not too long, or something that is no text -/
def NoStr (K : PySem.W.Frag) (H : Hp) (v : V) : Prop := ∃ t, TyX K H v t ∧ PySem.W.kitOne K t (.type "str") = some false
def spName (K : PySem.W.Frag) : Sp := fun vs H Q _ => ∃ v, vs = [v] ∧ ((∃ z : Str, v = .str z ∧ z.length ≤ 1000 ∧ Q (.bl (isName z)) H) ∨ (NoStr K H v ∧ Q (.bl false) H))
structure TxName (K : PySem.W.Frag) (mg : Str → Option Value) (kw : Addr) : Prop where
  n_isinstance : mg "isinstance" = none
  n_str : mg "str" = none
  c_LETTERS : ∃ u, mg "LETTERS" = some u ∧ RelV (.str LET) u
  c_DIGITS : ∃ u, mg "DIGITS" = some u ∧ RelV (.str DIG) u
  c_KEYWORDS : ∃ u, mg "KEYWORDS" = some u ∧ RelV (.ref kw) u
  kws : ∀ H, SqT K H kw (KWS.map V.str)
section
variable {P : Program} {w : World} {K : PySem.W.Frag} {mg : Str → Option Value} {base : Heap} {kw : Addr}
theorem ok_IsName {f : Addr} {fd : FuncData} (F : Fun K "is_name" "is_name" sIsName f fd) (T : TxName K mg kw) : FnOk P w K mg base CX0 1 f fd PIsName (spName K) := by
  refine F.ok scIsName (fun vs H Q E h => ?_) (fun cdv A outer s H vs Q E hr h => ?_)
  · obtain ⟨v, rfl, _⟩ := h
    rfl
  · obtain ⟨v, rfl, h⟩ := h
    refine ⟨_, (pss_cons (ps_if (PW.pt (pw_or (pt_not (pt_val (pe_callB call_isi (by rfl) T.n_isinstance bb_isinstance (pa_cons (pv 0) (pa_cons (pe_bltn (v := .ty "str") (by rfl) T.n_str bb_str rfl) pa_nil))))) (pw_or (pt_cmpR op_eq (pv 0) pe_str (nomark _)) (pw_or1 (pt_cmpR op_notIn_sign (pe_ix ix_str (pv 0) pe_int (fun _ _ => rfl)) (pe_globE rfl T.c_LETTERS) (by rfl))))))
  (pss_one (ps_ret pe_bl))
  pss_nil)
  (pss_cons (ps_for PassesOwn.never rfl (pi_str (pv 0)) (pg_name (i := 1) scIsName.nd rfl (Or.inl rfl))
  (pss_one (ps_if (PW.pt (pw_and (pt_cmpR op_notIn_sign (pv 1) (pe_globE rfl T.c_LETTERS) (by rfl)) (pw_and1 (pt_cmpR op_notIn_sign (pv 1) (pe_globE rfl T.c_DIGITS) (by rfl)))))
  (pss_one (ps_ret pe_bl))
  pss_nil)))
  (pss_one (ps_ret (pe_cmpR op_notIn_seq (pv 0) (pe_globE rfl T.c_KEYWORDS) (by rfl)))))), ?_⟩
    rcases h with ⟨z, rfl, hz, k⟩ | ⟨⟨t, ty, kt⟩, k⟩
    · refine ⟨_, rfl, _, _, _, _, _, rfl, .ty _, .base (.str z), kit_ty (r := true) (by decide +kernel), _, rfl, ?_⟩
      refine ⟨_, rfl, rfl, _, rfl, ite2 (fun he => ?_) (fun he => ?_)⟩
      · have e := str_empty_iff.mp (of_decide_eq_true he)
        rw [isName_nil e] at k
        exact k
      · have hne : z.cps.toList ≠ [] := fun e => he (decide_eq_true (str_empty_iff.mpr e))
        obtain ⟨c, hc⟩ : ∃ c, z.cps.toList[0]? = some c := by
          cases e : z.cps.toList with
          | nil => exact absurd e hne
          | cons a r => exact ⟨a, rfl⟩
        rw [isName_at hc] at k
        refine ⟨_, rfl, z, 0, c, rfl, rfl, Nat.le_trans hz (by decide), atI_nat (j := 0) hc, c, _, rfl, rfl, _, rfl, ite2 (fun hl => ?_) (fun hl => ?_)⟩
        · have hl : decide (c ∈ LET.cps.toList) = false := by simpa using hl
          rw [hl] at k
          exact k
        · have hl : decide (c ∈ LET.cps.toList) = true := by simpa using hl
          rw [hl, Bool.true_and] at k
          refine ⟨_, rfl, z, rfl, for_it (walk_str (z := z)) (fun i σ H' => H' = H ∧ (z.cps.toList.take i).all al = true ∧ ∃ x, σ = [some (.str z), x]) ⟨rfl, rfl, none, rfl⟩ (fun _ _ _ _ _ => trivial) ?_ ?_⟩
          · rintro i x σ H1 H2 hi ⟨rfl, ha, y, rfl⟩ ⟨rfl, d, hd, rfl⟩
            have hd' : z.cps.toList[i]? = some d := by rw [Array.getElem?_toList]; exact hd
            have step : decide (d ∈ LET.cps.toList) || decide (d ∈ DIG.cps.toList) → (z.cps.toList.take (i + 1)).all al = true := fun h => by
              rw [take_snoc hd', List.all_append, ha, Bool.true_and, List.all_cons, List.all_nil, Bool.and_true]
              exact h
            have bad : (decide (d ∈ LET.cps.toList) || decide (d ∈ DIG.cps.toList)) = false → z.cps.toList.all al = false := fun h => by
              rw [List.all_eq_false]
              exact ⟨d, List.mem_of_getElem? hd', by unfold al; rw [h]; decide⟩
            refine ⟨_, rfl, d, _, rfl, rfl, _, rfl, ite2 (fun h1 => ?_) (fun h1 => ?_)⟩
            · have h1 : decide (d ∈ LET.cps.toList) = false := by simpa using h1
              refine ⟨_, rfl, d, _, rfl, rfl, _, rfl, ite2 (fun h2 => ?_) (fun h2 => ?_)⟩
              · have h2 : decide (d ∈ DIG.cps.toList) = false := by simpa using h2
                rw [bad (by rw [h1, h2]; rfl)] at k
                exact k
              · have h2 : decide (d ∈ DIG.cps.toList) = true := by simpa using h2
                exact ⟨rfl, step (by rw [h2]; simp), _, rfl⟩
            · have h1 : decide (d ∈ LET.cps.toList) = true := by simpa using h1
              exact ⟨rfl, step (by rw [h1]; simp), _, rfl⟩
          · rintro σ H1 ⟨rfl, ha, y, rfl⟩
            rw [show z.cps.size = z.cps.toList.length from Array.length_toList.symm, List.take_length] at ha
            rw [ha, Bool.true_and] at k
            exact ⟨_, rfl, kw, _, rfl, .inr (T.kws _), rfl, by decide +kernel, k⟩
    · refine ⟨_, rfl, _, _, _, _, _, rfl, .ty _, ty, kt, _, rfl, ?_⟩
      exact k
end
theorem sq_kws {K : PySem.W.Frag} {a : Addr} {od : Option Addr} {n : Nat} {sl : Array (Option Value)} {its : List Value} (h : K.lookup a = some ⟨.type "tuple", od, .seq its.toArray n, sl⟩) (hv : Vals (KWS.map V.str) its) (H : Hp) : SqT K H a (KWS.map V.str) :=
  .inr ⟨_, _, n, h, rfl, rfl, by
    have e := hv.length
    rw [List.length_map] at e
    have e2 : KWS.length = 16 := rfl
    show its.toArray.size ≤ sizeLine
    rw [List.size_toArray, ← e, e2]
    decide, by simpa using hv⟩

/-! ### stores -/
abbrev sIsInt : Stmt := topS 6
abbrev NIsInt : List Str := ["value"]
abbrev PIsInt : List Str := ["value"]
theorem scIsInt : FnScope NIsInt PIsInt (defScope sIsInt) := ⟨rfl, rfl, rfl, by decide +kernel, rfl, by decide +kernel, by decide +kernel⟩
abbrev sIsVals : Stmt := topS 13
abbrev NIsVals : List Str := ["value", "one"]
abbrev PIsVals : List Str := ["value"]
theorem scIsVals : FnScope NIsVals PIsVals (defScope sIsVals) := ⟨rfl, rfl, rfl, by decide +kernel, rfl, by decide +kernel, by decide +kernel⟩
abbrev sIsEvt : Stmt := topS 14
abbrev NIsEvt : List Str := ["value", "names"]
abbrev PIsEvt : List Str := ["value", "names"]
theorem scIsEvt : FnScope NIsEvt PIsEvt (defScope sIsEvt) := ⟨rfl, rfl, rfl, by decide +kernel, rfl, by decide +kernel, by decide +kernel⟩
abbrev sApp : Stmt := topS 15
abbrev NApp : List Str := ["state", "event", "values", "log"]
abbrev PApp : List Str := ["state", "event"]
theorem scApp : FnScope NApp PApp (defScope sApp) := ⟨rfl, rfl, rfl, by decide +kernel, rfl, by decide +kernel, by decide +kernel⟩
abbrev sSInit : Stmt := inClass (topS 16) 0
abbrev NSInit : List Str := ["self", "values"]
abbrev PSInit : List Str := ["self", "values"]
theorem scSInit : FnScope NSInit PSInit (defScope sSInit) := ⟨rfl, rfl, rfl, by decide +kernel, rfl, by decide +kernel, by decide +kernel⟩
abbrev sSPend : Stmt := inClass (topS 16) 1
abbrev NSPend : List Str := ["self"]
abbrev PSPend : List Str := ["self"]
theorem scSPend : FnScope NSPend PSPend (defScope sSPend) := ⟨rfl, rfl, rfl, by decide +kernel, rfl, by decide +kernel, by decide +kernel⟩
abbrev sSPerf : Stmt := inClass (topS 16) 2
abbrev NSPerf : List Str := ["self", "event"]
abbrev PSPerf : List Str := ["self", "event"]
theorem scSPerf : FnScope NSPerf PSPerf (defScope sSPerf) := ⟨rfl, rfl, rfl, by decide +kernel, rfl, by decide +kernel, by decide +kernel⟩
abbrev sSSeen : Stmt := inClass (topS 16) 3
abbrev NSSeen : List Str := ["self", "state", "event"]
abbrev PSSeen : List Str := ["self"]
theorem scSSeen : FnScope NSSeen PSSeen (defScope sSSeen) := ⟨rfl, rfl, rfl, by decide +kernel, rfl, by decide +kernel, by decide +kernel⟩
abbrev sSCur : Stmt := inClass (topS 16) 4
abbrev NSCur : List Str := ["self"]
abbrev PSCur : List Str := ["self"]
theorem scSCur : FnScope NSCur PSCur (defScope sSCur) := ⟨rfl, rfl, rfl, by decide +kernel, rfl, by decide +kernel, by decide +kernel⟩
abbrev sSLog : Stmt := inClass (topS 16) 5
abbrev NSLog : List Str := ["self"]
abbrev PSLog : List Str := ["self"]
theorem scSLog : FnScope NSLog PSLog (defScope sSLog) := ⟨rfl, rfl, rfl, by decide +kernel, rfl, by decide +kernel, by decide +kernel⟩
abbrev sSRec : Stmt := inClass (topS 16) 7
abbrev NSRec : List Str := ["self", "values", "log", "found", "name", "worth"]
abbrev PSRec : List Str := ["self"]
theorem scSRec : FnScope NSRec PSRec (defScope sSRec) := ⟨rfl, rfl, rfl, by decide +kernel, rfl, by decide +kernel, by decide +kernel⟩
abbrev Recs := List (Str × Int)
def kvOf (l : Recs) : List (Key × V) := l.map fun p => (Sum.inr p.1, V.int p.2)
inductive Evt where
  | log (n : Str) (v : Int) | write (n : Str) (v : Int) | clear | flush
def evV : Evt → List V
  | .log n v => [.str "log", .str n, .int v]
  | .write n v => [.str "write", .str n, .int v]
  | .clear => [.str "clear"]
  | .flush => [.str "flush"]
def EvAt (H : Hp) (v : V) (e : Evt) : Prop := ∃ a, v = .ref a ∧ H a = some (.tup (evV e))
def RecAt (H : Hp) (v : V) (r : Str × Int) : Prop := ∃ a, v = .ref a ∧ H a = some (.tup [.str r.1, .int r.2])
/-- d[n] = v for a name that is there -/
def setR (l : Recs) (n : Str) (v : Int) : Recs := l.map fun p => if p.1 = n then (p.1, v) else p
def names (l : Recs) : List Str := l.map (·.1)
theorem names_setR (l : Recs) (n : Str) (v : Int) : names (setR l n v) = names l := by
  unfold names setR
  rw [List.map_map]
  refine List.map_congr_left fun p _ => ?_
  show (if p.1 = n then (p.1, v) else p).1 = p.1
  split <;> rfl
theorem length_setR (l : Recs) (n : Str) (v : Int) : (setR l n v).length = l.length := List.length_map ..
theorem valV_kvOf {l : Recs} {n : Str} (h : n ∈ names l) : ∃ v, valV (kvOf l) (Sum.inr n) = some (V.int v) := by
  induction l with
  | nil => cases h
  | cons p r ih =>
    by_cases e : p.1 = n
    · refine ⟨p.2, ?_⟩
      unfold kvOf valV
      simp [e]
    · obtain ⟨v, hv⟩ := ih (by
        rcases List.mem_cons.mp h with q | q
        · exact absurd q.symm e
        · exact q)
      refine ⟨v, ?_⟩
      unfold kvOf valV at hv ⊢
      rw [List.map_cons]
      simpa [e] using hv
theorem putK_kvOf {l : Recs} {n : Str} (v : Int) (h : n ∈ names l) : putK (kvOf l) (Sum.inr n) (V.int v) = kvOf (setR l n v) := by
  obtain ⟨u, hu⟩ := valV_kvOf h
  have an : ((kvOf l).any fun kv => decide (kv.1 = (Sum.inr n : Key))) = true := by rw [valV_any, hu]; rfl
  unfold putK
  rw [if_pos an]
  unfold kvOf setR
  rw [List.map_map, List.map_map]
  refine List.map_congr_left fun p _ => ?_
  show (if (Sum.inr p.1 : Key) = Sum.inr n then ((Sum.inr p.1 : Key), V.int v) else (Sum.inr p.1, V.int p.2)) = ((Sum.inr (if p.1 = n then (p.1, v) else p).1 : Key), V.int (if p.1 = n then (p.1, v) else p).2)
  by_cases e : p.1 = n
  · rw [if_pos (by rw [e]), if_pos e]
  · rw [if_neg (fun z => e (Sum.inr.inj z)), if_neg e]
/-! what is asked of the module -/
structure TxSt (K : PySem.W.Frag) (mg : Str → Option Value) (kw : Addr) : Prop extends TxPool mg, TxName K mg kw where
  n_bool : mg "bool" = none
  n_dict : mg "dict" = none
  n_tuple : mg "tuple" = none
  n_list : mg "list" = none
  n_all : mg "all" = none
  n_range : mg "range" = none
  n_reversed : mg "reversed" = none
theorem bb_dict : bootBuiltins "dict" = some (.type "dict") := by decide +kernel
def NoInt (K : PySem.W.Frag) (H : Hp) (v : V) : Prop := ∃ t b, TyX K H v t ∧ PySem.W.kitOne K t (.type "int") = some b ∧ (b = true → PySem.W.kitOne K t (.type "bool") = some true)
def spIsInt (K : PySem.W.Frag) : Sp := fun vs H Q _ => ∃ v, vs = [v] ∧ ((∃ i : Int, v = .int i ∧ Q (.bl true) H) ∨ (NoInt K H v ∧ Q (.bl false) H))
def GoodR (l : Recs) : Prop := (names l).Nodup ∧ l.length ≤ 1000 ∧ ∀ n ∈ names l, isName n = true ∧ n.length ≤ 1000
def spVals : Sp := fun vs H Q _ => ∃ (d : Addr) (l : Recs), vs = [.ref d] ∧ H d = some (.dK (kvOf l)) ∧ GoodR l ∧ ∀ H', Same H H' → Q (.bl true) H'
theorem GoodR.set {l : Recs} (h : GoodR l) (n : Str) (v : Int) : GoodR (setR l n v) := by
  unfold GoodR at *
  rw [names_setR, length_setR]
  exact h
def evOk (l : Recs) : Evt → Prop
  | .log n _ => n ∈ names l
  | .write n _ => n ∈ names l
  | _ => True
section
variable {P : Program} {w : World} {K : PySem.W.Frag} {mg : Str → Option Value} {base : Heap} {kw : Addr}
theorem ok_IsInt {f : Addr} {fd : FuncData} (F : Fun K "is_integer" "is_integer" sIsInt f fd) (T : TxSt K mg kw) : FnOk P w K mg base CX0 1 f fd PIsInt (spIsInt K) := by
  refine F.ok scIsInt (fun vs H Q E h => ?_) (fun cdv A outer s H vs Q E hr h => ?_)
  · obtain ⟨v, rfl, _⟩ := h
    rfl
  · obtain ⟨v, rfl, h⟩ := h
    refine ⟨_, (pss_one (ps_ret (pe_and (pe_callB call_isi (by rfl) T.n_isinstance bb_isinstance (pa_cons (pv 0) (pa_cons (pe_bltn (v := .ty "int") (by rfl) T.n_int bb_int rfl) pa_nil))) (pe_one (pe_not (pe_callB call_isi (by rfl) T.n_isinstance bb_isinstance (pa_cons (pv 0) (pa_cons (pe_bltn (v := .ty "bool") (by rfl) T.n_bool bb_bool rfl) pa_nil)))))))), ?_⟩
    rcases h with ⟨i, rfl, k⟩ | ⟨⟨t, b, ty, k1, k2⟩, k⟩
    · refine ⟨_, rfl, _, _, _, _, _, rfl, .ty _, .base (.int i), kit_ty (r := true) (by decide +kernel), _, rfl, ?_⟩
      exact ⟨_, rfl, _, _, _, _, _, rfl, .ty _, .base (.int i), kit_ty (r := false) (by decide +kernel), _, rfl, k⟩
    · refine ⟨_, rfl, _, _, _, _, _, rfl, .ty _, ty, k1, _, rfl, ?_⟩
      cases b with
      | false => exact k
      | true => exact ⟨_, rfl, _, _, _, _, _, rfl, .ty _, ty, k2 rfl, _, rfl, k⟩
theorem ok_IsVals {f : Addr} {fd : FuncData} (F : Fun K "is_values" "is_values" sIsVals f fd) (T : TxSt K mg kw) (GN : Has P w K mg base CX0 1 "is_name" PIsName (spName K)) (GI : Has P w K mg base CX0 1 "is_integer" PIsInt (spIsInt K)) : FnOk P w K mg base CX0 2 f fd PIsVals spVals := by
  refine F.ok scIsVals (fun vs H Q E h => ?_) (fun cdv A outer s H vs Q E hr h => ?_)
  · obtain ⟨d, l, rfl, _⟩ := h
    rfl
  · obtain ⟨d, l, rfl, ed, gl, k⟩ := h
    have hu := hu_of hr
    refine ⟨_, (pss_one (ps_ret (pe_and (pe_callB call_isi (by rfl) T.n_isinstance bb_isinstance (pa_cons (pv 0) (pa_cons (pe_bltn (v := .ty "dict") (by rfl) T.n_dict bb_dict rfl) pa_nil))) (pe_one (pe_callB (cr_all rfl) (by rfl) T.n_all bb_all (pa_cons (pe_lock (pe_lc (own := [("one", 1)]) (g := gName 1) (tt := tYes) rfl scIsVals.nd (pi_keys (pv 0)) (blkOk_by (own := [("one", 1)]) (N := NIsVals) (sc := (defScope sIsVals)) (by decide +kernel)) (fun _ _ _ _ _ => (pg_name (i := 1) scIsVals.nd rfl (Or.inl rfl))) (fun _ _ _ _ _ => pts_nil) (fun _ _ _ _ _ => (pe_and (pe_callH GN hr rfl pass0 (pa_cons (pv 1) pa_nil)) (pe_one (pe_callH GI hr rfl pass0 (pa_cons (pe_dget hu (pv 0) (pv 1) (fun _ _ => rfl)) pa_nil))))))) pa_nil)))))), ?_⟩
    refine ⟨_, rfl, _, _, _, _, _, rfl, .ty _, .base (.dK ed), kit_ty (r := true) (by decide +kernel), _, rfl, ?_⟩
    refine ⟨d, _, ed, trivial, fun od => ?_⟩
    refine ⟨_, rfl, d, od, rfl, .inl ⟨_, upd_same, fun D hD => ?_⟩⟩
    have nDd : D ≠ d := fun z => by rw [z, upd_same] at hD; cases hD
    have hD0 : H D = none := by rw [← hD, upd_ne nDd]
    refine lc_it walk_keys (fun i H' => Same (upd H d (.frz od (.dK (kvOf l)))) H' ∧ H' D = some (.lst ((List.replicate i true).map V.bl))) ⟨same_new hD, upd_same⟩ (fun i H' _ h' => h'.1 _ _ upd_same) ?_ ?_
    · rintro i x H1 H2 hi ⟨s1, e1⟩ ⟨rfl, ky, v, hk, rfl⟩
      have hil : i < l.length := by
        have q : (kvOf l).length = l.length := List.length_map ..
        omega
      obtain ⟨p, hp⟩ : ∃ p, l[i]? = some p := ⟨l[i], by simp [hil]⟩
      have hkv : (kvOf l)[i]? = some (Sum.inr p.1, V.int p.2) := by unfold kvOf; rw [List.getElem?_map, hp]; rfl
      rw [hk] at hkv
      cases hkv
      have mn : p.1 ∈ names l := List.mem_map.mpr ⟨p, List.mem_of_getElem? hp, rfl⟩
      obtain ⟨z, hz⟩ := valV_kvOf mn
      have gn := gl.2.2 _ mn
      refine ⟨rfl, _, rfl, _, rfl, .inl ⟨p.1, rfl, gn.2, true, by rw [gn.1], ?_⟩⟩
      refine ⟨_, rfl, _, rfl, d, _, rfl, .inl ⟨kvOf l, Sum.inr p.1, .inr ⟨od, s1 _ _ upd_same⟩, rfl, hz.symm⟩, _, rfl, .inl ⟨z, rfl, _, e1, small1000 ?_, fun b o e => ?_, ?_⟩⟩
      · rw [List.length_map, List.length_replicate]
        have := gl.2.1
        omega
      · rw [upd_ne (ne_of_none e hD)]
        exact s1 b o e
      · rw [upd_same, List.replicate_succ', List.map_append]
        rfl
    · rintro H1 ⟨s1, e1⟩
      refine ⟨s1 _ _ upd_same, D, _, rfl, SqL.of (by rw [upd_ne nDd]; exact e1), ?_⟩
      have ea : ∀ n : Nat, (List.replicate n true).all id = true := fun n => by
        rw [List.all_eq_true]
        intro b hb
        rw [(List.mem_replicate.mp hb).2]
        rfl
      rw [ea]
      refine k _ fun b o e => ?_
      by_cases hb : b = d
      · rw [hb, upd_same, ← e, hb, ed]
      · rw [upd_ne hb]
        exact s1 b o (by rw [upd_ne hb]; exact e)
/-! is_event -/
def spEvt (K : PySem.W.Frag) : Sp := fun vs H Q _ => ∃ (a nl : Addr) (ev : Evt) (l : Recs), vs = [.ref a, .ref nl] ∧ H a = some (.tup (evV ev)) ∧ SqL K H nl ((names l).map V.str) ∧ evOk l ev ∧ (∀ n ∈ names l, isName n = true) ∧ ∀ H', Same H H' → Q (.bl true) H'
theorem inV_names {l : Recs} {n : Str} (h : n ∈ names l) : inV (.str n) ((names l).map V.str) = true := by
  unfold inV
  rw [List.any_eq_true]
  exact ⟨.str n, List.mem_map.mpr ⟨n, h, rfl⟩, by unfold eqV; simp⟩
theorem flat_names (l : List Str) : (l.map V.str).all flatV = true := by
  rw [List.all_eq_true]
  intro v hv
  obtain ⟨n, _, rfl⟩ := List.mem_map.mp hv
  rfl
theorem evV_ne (ev : Evt) : ∃ x xs, evV ev = .str x :: xs := by
  cases ev <;> exact ⟨_, _, rfl⟩
theorem strOk_name {n : Str} (h : isName n = true) : PyData.strOk n = true := by
  unfold PyData.strOk
  rw [← Array.all_toList, List.all_eq_true]
  intro c hc
  obtain ⟨c0, h0⟩ : ∃ c0, n.cps.toList[0]? = some c0 := by
    cases e : n.cps.toList with
    | nil => rw [e] at hc; cases hc
    | cons a r => exact ⟨a, rfl⟩
  rw [isName_at h0] at h
  simp only [Bool.and_eq_true] at h
  have q := List.all_eq_true.mp h.1.2 c hc
  unfold al at q
  simp only [Bool.or_eq_true, decide_eq_true_eq] at q
  have b1 : ∀ x ∈ LET.cps.toList, x < 200 := by decide +kernel
  have b2 : ∀ x ∈ DIG.cps.toList, x < 200 := by decide +kernel
  rcases q with q | q
  · have := b1 c q
    simp only [decide_eq_true_eq]
    omega
  · have := b2 c q
    simp only [decide_eq_true_eq]
    omega
theorem evV_ok {l : Recs} {ev : Evt} (h : evOk l ev) (gn : ∀ n ∈ names l, isName n = true) : (evV ev).all okV = true := by
  cases ev with
  | log n v =>
    simp only [evV, List.all_cons, List.all_nil, okV, strOk_name (gn n h), Bool.and_true]
    decide +kernel
  | write n v =>
    simp only [evV, List.all_cons, List.all_nil, okV, strOk_name (gn n h), Bool.and_true]
    decide +kernel
  | clear => decide +kernel
  | flush => decide +kernel
theorem ok_IsEvt {f : Addr} {fd : FuncData} (F : Fun K "is_event" "is_event" sIsEvt f fd) (T : TxSt K mg kw) (GI : Has P w K mg base CX0 1 "is_integer" PIsInt (spIsInt K)) : FnOk P w K mg base CX0 2 f fd PIsEvt (spEvt K) := by
  refine F.ok scIsEvt (fun vs H Q E h => ?_) (fun cdv A outer s H vs Q E hr h => ?_)
  · obtain ⟨a, nl, ev, l, rfl, _⟩ := h
    rfl
  · obtain ⟨a, nl, ev, l, rfl, ea, en, ok, gn, k⟩ := h
    have hu := hu_of hr
    refine ⟨_, (pss_cons (ps_if (PW.pt (pw_or (pt_not (pt_val (pe_callB call_isi (by rfl) T.n_isinstance bb_isinstance (pa_cons (pv 0) (pa_cons (pe_bltn (v := .ty "tuple") (by rfl) T.n_tuple bb_tuple rfl) pa_nil))))) (pw_or (pt_cmpR (op_eqD hr.units) (pv 0) (pe_tup pa_nil) (nomark _)) (pw_or1 (pt_not (pt_val (pe_callB call_isi (by rfl) T.n_isinstance bb_isinstance (pa_cons (pe_ix (r := rIxT K) ix_tup (pv 0) pe_int (fun _ _ => rfl)) (pa_cons (pe_bltn (v := .ty "str") (by rfl) T.n_str bb_str rfl) pa_nil)))))))))
  (pss_one (ps_ret pe_bl))
  pss_nil)
  (pss_cons (ps_if (pt_cmpR op_in_seq (pe_ix (r := rIxT K) ix_tup (pv 0) pe_int (fun _ _ => rfl)) (pe_tup (pa_cons pe_str (pa_cons pe_str pa_nil))) (by rfl))
  (pss_one (ps_ret (pe_cmpR op_eq (pe_callB call_len_seq (by rfl) T.n_len bb_len (pa_cons (pv 0) pa_nil)) pe_int (nomark _))))
  pss_nil)
  (pss_cons (ps_if (PW.pt (pw_or (pt_cmpR op_notIn_seq (pe_ix (r := rIxT K) ix_tup (pv 0) pe_int (fun _ _ => rfl)) (pe_tup (pa_cons pe_str (pa_cons pe_str pa_nil))) (by rfl)) (pw_or1 (pt_cmpR op_ne (pe_callB call_len_seq (by rfl) T.n_len bb_len (pa_cons (pv 0) pa_nil)) pe_int (nomark _)))))
  (pss_one (ps_ret pe_bl))
  pss_nil)
  (pss_one (ps_ret (pe_and (pe_callB call_isi (by rfl) T.n_isinstance bb_isinstance (pa_cons (pe_ix (r := rIxT K) ix_tup (pv 0) pe_int (fun _ _ => rfl)) (pa_cons (pe_bltn (v := .ty "str") (by rfl) T.n_str bb_str rfl) pa_nil))) (pe_and (pe_cmpR op_in_seq (pe_ix (r := rIxT K) ix_tup (pv 0) pe_int (fun _ _ => rfl)) (pv 1) (by rfl)) (pe_one (pe_callH GI hr rfl pass0 (pa_cons (pe_ix (r := rIxT K) ix_tup (pv 0) pe_int (fun _ _ => rfl)) pa_nil)))))))))), ?_⟩
    refine ⟨_, rfl, _, _, _, _, _, rfl, .ty _, .base (.tup ea), kit_ty (r := true) (by decide +kernel), _, rfl, ?_⟩
    have fl : (evV ev).all flatV = true := by cases ev <;> rfl
    have sh : SeqAt.shaped (.tuple ((evV ev).map dOf)) = true := shaped_tup (evV_ok ok gn)
    have ne : PyData.eqv (.tuple ((evV ev).map dOf)) (.tuple []) = false := by cases ev <;> rfl
    refine ⟨_, rfl, (by show 0 ≤ sizeLine; decide), fun t1 h1 => ?_⟩
    have s1 : Same H _ := same_new (o := .tup []) h1
    refine ⟨_, _, .tup (SqT.of (s1 _ _ ea)) (dpAll_flat fl), .tup (SqT.of upd_same) .nil, sh, rfl, _, rfl, iteE ne ?_⟩
    obtain ⟨x0, xs, exs⟩ := evV_ne ev
    have a0 : atI (evV ev) 0 = some (.str x0) := by rw [exs]; exact atI_nat (j := 0) rfl
    refine ⟨_, rfl, a, _, _, _, rfl, rfl, SqT.of (s1 _ _ ea), a0, _, _, _, _, _, rfl, .ty _, .base (.str x0), kit_ty (r := true) (by decide +kernel), _, rfl, ?_⟩
    refine ⟨_, rfl, a, _, _, _, rfl, rfl, SqT.of (s1 _ _ ea), a0, (by show 2 ≤ sizeLine; decide), fun t2 h2 => ?_⟩
    have s2 : Same H _ := s1.trans (same_new (o := .tup [.str "clear", .str "flush"]) h2)
    refine ⟨t2, _, rfl, .inr (SqT.of upd_same), rfl, rfl, _, rfl, ?_⟩
    cases ev with
    | log n v =>
      cases exs
      refine iteE (by decide +kernel) ?_
      refine ⟨_, rfl, a, _, _, _, rfl, rfl, SqT.of (s2 _ _ ea), a0, (by show 2 ≤ sizeLine; decide), fun t3 h3 => ?_⟩
      have s3 : Same H _ := s2.trans (same_new (o := .tup [.str "log", .str "write"]) h3)
      refine ⟨t3, _, rfl, .inr (SqT.of upd_same), rfl, rfl, _, rfl, iteE (by decide +kernel) ?_⟩
      refine ⟨_, rfl, a, _, rfl, .inr (SqT.of (s3 _ _ ea)), rfl, _, rfl, ?_⟩
      refine ⟨_, rfl, a, _, _, _, rfl, rfl, SqT.of (s3 _ _ ea), rfl, _, _, _, _, _, rfl, .ty _, .base (.str n), kit_ty (r := true) (by decide +kernel), _, rfl, ?_⟩
      refine ⟨_, rfl, a, _, _, _, rfl, rfl, SqT.of (s3 _ _ ea), rfl, _, rfl, nl, _, rfl, .inl (s3.seq en), rfl, flat_names _, true, congrArg V.bl (inV_names ok), ?_⟩
      exact ⟨_, rfl, a, _, _, _, rfl, rfl, SqT.of (s3 _ _ ea), rfl, _, rfl, .inl ⟨v, rfl, k _ s3⟩⟩
    | write n v =>
      cases exs
      refine iteE (by decide +kernel) ?_
      refine ⟨_, rfl, a, _, _, _, rfl, rfl, SqT.of (s2 _ _ ea), a0, (by show 2 ≤ sizeLine; decide), fun t3 h3 => ?_⟩
      have s3 : Same H _ := s2.trans (same_new (o := .tup [.str "log", .str "write"]) h3)
      refine ⟨t3, _, rfl, .inr (SqT.of upd_same), rfl, rfl, _, rfl, iteE (by decide +kernel) ?_⟩
      refine ⟨_, rfl, a, _, rfl, .inr (SqT.of (s3 _ _ ea)), rfl, _, rfl, ?_⟩
      refine ⟨_, rfl, a, _, _, _, rfl, rfl, SqT.of (s3 _ _ ea), rfl, _, _, _, _, _, rfl, .ty _, .base (.str n), kit_ty (r := true) (by decide +kernel), _, rfl, ?_⟩
      refine ⟨_, rfl, a, _, _, _, rfl, rfl, SqT.of (s3 _ _ ea), rfl, _, rfl, nl, _, rfl, .inl (s3.seq en), rfl, flat_names _, true, congrArg V.bl (inV_names ok), ?_⟩
      exact ⟨_, rfl, a, _, _, _, rfl, rfl, SqT.of (s3 _ _ ea), rfl, _, rfl, .inl ⟨v, rfl, k _ s3⟩⟩
    | clear =>
      cases exs
      refine iteS (by decide +kernel) ?_
      exact ⟨_, rfl, a, _, rfl, .inr (SqT.of (s2 _ _ ea)), rfl, k _ s2⟩
    | flush =>
      cases exs
      refine iteS (by decide +kernel) ?_
      exact ⟨_, rfl, a, _, rfl, .inr (SqT.of (s2 _ _ ea)), rfl, k _ s2⟩
end

section
variable {P : Program} {w : World} {K : PySem.W.Frag} {mg : Str → Option Value} {base : Heap} {kw : Addr}
/-! applied -/
/-- av: dicts that the state's own is none of -/
def StateAt (av : Addr → Prop) (H : Hp) (a : Addr) (l g : Recs) : Prop := ∃ (dv dl : Addr) (xs : List V), H a = some (.tup [.ref dv, .ref dl]) ∧ H dv = some (.dK (kvOf l)) ∧ H dl = some (.lst xs) ∧ Paired (RecAt H) xs g ∧ ¬ av dv ∧ ¬ av dl
def Av (av : Addr → Prop) (H : Hp) : Prop := ∀ b, av b → ∃ o, H b = some o
theorem Av.same {av : Addr → Prop} {H H' : Hp} (h : Av av H) (s : Same H H') : Av av H' := fun b hb => let ⟨o, e⟩ := h b hb; ⟨o, s _ _ e⟩
theorem Av.new {av : Addr → Prop} {H : Hp} (h : Av av H) {p : Addr} (hp : H p = none) : ¬ av p := fun hb => by
  obtain ⟨o, e⟩ := h p hb
  rw [hp] at e
  cases e
def app (st : Recs × Recs) : Evt → Recs × Recs
  | .log n v => (st.1, st.2 ++ [(n, v)])
  | .write n v => (setR st.1 n v, st.2)
  | .clear => (st.1, [])
  | .flush => st
theorem RecAt.same {H H' : Hp} (s : Same H H') {v : V} {r : Str × Int} (h : RecAt H v r) : RecAt H' v r := let ⟨a, e, q⟩ := h; ⟨a, e, s _ _ q⟩
theorem EvAt.same {H H' : Hp} (s : Same H H') {v : V} {r : Evt} (h : EvAt H v r) : EvAt H' v r := let ⟨a, e, q⟩ := h; ⟨a, e, s _ _ q⟩
theorem StateAt.same {av : Addr → Prop} {H H' : Hp} (s : Same H H') {a : Addr} {l g : Recs} (h : StateAt av H a l g) : StateAt av H' a l g :=
  let ⟨dv, dl, xs, e1, e2, e3, e4, e5⟩ := h
  ⟨dv, dl, xs, s _ _ e1, s _ _ e2, s _ _ e3, Paired.mapP e4 (fun _ _ q => q.same s), e5⟩
def spApp : Sp := fun vs H Q _ => ∃ (av : Addr → Prop) (a e : Addr) (l g : Recs) (ev : Evt), vs = [.ref a, .ref e] ∧ Av av H ∧ StateAt av H a l g ∧ H e = some (.tup (evV ev)) ∧ evOk l ev ∧ l.length ≤ 1000 ∧ g.length < 1000 ∧
  ∀ (a' : Addr) (H' : Hp), Same H H' → StateAt av H' a' (app (l, g) ev).1 (app (l, g) ev).2 → Q (.ref a') H'
theorem Paired.snoc {α β : Type} {F : α → β → Prop} : ∀ {l₁ : List α} {l₂ : List β} {a : α} {b : β}, Paired F l₁ l₂ → F a b → Paired F (l₁ ++ [a]) (l₂ ++ [b])
  | _, _, _, _, .nil, h => .cons h .nil
  | _, _, _, _, .cons r t, h => .cons r (Paired.snoc t h)
theorem ok_App {f : Addr} {fd : FuncData} (F : Fun K "applied" "applied" sApp f fd) : FnOk P w K mg base CX0 1 f fd PApp spApp := by
  refine F.ok scApp (fun vs H Q E h => ?_) (fun cdv A outer s H vs Q E hr h => ?_)
  · obtain ⟨av, a, e, l, g, ev, rfl, _⟩ := h
    rfl
  · obtain ⟨av, a, e, l, g, ev, rfl, hav, ⟨dv, dl, xs, e1, e2, e3, e4, e5⟩, ee, ok, hl, hg, k⟩ := h
    have hu := hu_of hr
    refine ⟨_, (pss_cons (ps_asg (pv 0) (pg_tup (by rfl) (pgs_cons (pg_name (i := 2) scApp.nd rfl (Or.inl rfl)) (pgs_cons (pg_name (i := 3) scApp.nd rfl (Or.inl rfl)) pgs_nil))))
  (pss_cons (ps_if (pt_cmpR op_eq (pe_ix (r := rIxT K) ix_tup (pv 1) pe_int (fun _ _ => rfl)) pe_str (nomark _))
  (pss_one (ps_ret (pe_tup (pa_cons (pv 2) (pa_cons (pe_lst (StX.pa_star (pv 3) (pa_cons (pe_tup (pa_cons (pe_ix (r := rIxT K) ix_tup (pv 1) pe_int (fun _ _ => rfl)) (pa_cons (pe_ix (r := rIxT K) ix_tup (pv 1) pe_int (fun _ _ => rfl)) pa_nil))) pa_nil))) pa_nil)))))
  pss_nil)
  (pss_cons (ps_if (pt_cmpR op_eq (pe_ix (r := rIxT K) ix_tup (pv 1) pe_int (fun _ _ => rfl)) pe_str (nomark _))
  (pss_one (ps_ret (pe_tup (pa_cons (pe_dstar (pv 2) (pe_ix (r := rIxT K) ix_tup (pv 1) pe_int (fun _ _ => rfl)) (pe_ix (r := rIxT K) ix_tup (pv 1) pe_int (fun _ _ => rfl))) (pa_cons (pv 3) pa_nil)))))
  pss_nil)
  (pss_one (ps_ret (pe_tup (pa_cons (pv 2) (pa_cons (pe_ifExp (pt_cmpR op_eq (pe_ix (r := rIxT K) ix_tup (pv 1) pe_int (fun _ _ => rfl)) pe_str (nomark _)) (pe_lst pa_nil) (pv 3)) pa_nil)))))))), ?_⟩
    refine ⟨_, rfl, a, _, rfl, SqT.of e1, rfl, _, _, rfl, _, _, rfl, rfl, ?_⟩
    have lx : xs.length = g.length := Paired.length e4
    cases ev with
    | log n v =>
      refine ⟨_, rfl, e, _, _, _, rfl, rfl, SqT.of ee, rfl, rfl, _, rfl, iteS (by decide +kernel) ?_⟩
      refine ⟨_, rfl, _, rfl, dl, _, rfl, .inr (SqL.of e3), _, rfl, e, _, _, _, rfl, rfl, SqT.of ee, rfl, _, rfl, e, _, _, _, rfl, rfl, SqT.of ee, rfl, (by show 2 ≤ sizeLine; decide), fun t ht => ?_⟩
      have s1 := same_new (o := .tup [.str n, .int v]) ht
      refine ⟨Nat.le_of_lt (small1000 (by rw [List.length_append]; show xs.length + 1 ≤ 1000; omega)), fun q hq => ?_⟩
      have s2 := s1.trans (same_new (o := .lst (xs ++ [.ref t])) hq)
      refine ⟨(by show 2 ≤ sizeLine; decide), fun p hp => ?_⟩
      have s3 := s2.trans (same_new (o := .tup [.ref dv, .ref q]) hp)
      have tq : t ≠ q := ne_of_none upd_same hq
      have et : upd (upd H t (.tup [.str n, .int v])) q (.lst (xs ++ [.ref t])) t = some (.tup [.str n, .int v]) := by rw [upd_ne tq, upd_same]
      have s4 := same_new (o := .tup [.ref dv, .ref q]) hp
      exact k p _ s3 ⟨dv, q, _, upd_same, s3 _ _ e2, s4 _ _ upd_same, Paired.snoc (Paired.mapP e4 fun _ _ z => z.same s3) ⟨t, rfl, s4 _ _ et⟩, e5.1, hav.new (s1.free hq)⟩
    | write n v =>
      refine ⟨_, rfl, e, _, _, _, rfl, rfl, SqT.of ee, rfl, rfl, _, rfl, iteE (by decide +kernel) ?_⟩
      refine ⟨_, rfl, e, _, _, _, rfl, rfl, SqT.of ee, rfl, rfl, _, rfl, iteS (by decide +kernel) ?_⟩
      intro p hp
      have s1 := same_new (o := .dK []) hp
      refine ⟨_, rfl, dv, kvOf l, rfl, ne_of_none e2 hp, .inl (s1 _ _ e2), upd_same, by unfold kvOf; rw [List.length_map]; exact hl, fun q hq => ?_⟩
      have pq : p ≠ q := ne_of_none upd_same hq
      have hq0 : H q = none := s1.free hq
      have s2 : Same H (upd (upd (upd H p (.dK [])) p (.dK (kvOf l))) q (.dK [])) := fun b o z => by
        rw [upd_ne (ne_of_none z hq0), upd_ne (ne_of_none z hp), upd_ne (ne_of_none z hp)]
        exact z
      refine ⟨_, rfl, e, _, _, _, rfl, rfl, SqT.of (s2 _ _ ee), rfl, _, rfl, e, _, _, _, rfl, rfl, SqT.of (s2 _ _ ee), rfl, Sum.inr n, rfl, by rw [upd_ne pq, upd_same], upd_same, ?_⟩
      rw [putK_kvOf v ok]
      refine ⟨_, rfl, (by show 2 ≤ sizeLine; decide), fun t ht => ?_⟩
      have s3 : Same H (upd (upd (upd (upd (upd H p (.dK [])) p (.dK (kvOf l))) q (.dK [])) q (.dK [(Sum.inr n, .int v)])) p (.dK (kvOf (setR l n v)))) := fun b o z => by
        rw [upd_ne (ne_of_none z hp), upd_ne (ne_of_none z hq0)]
        exact s2 b o z
      have s4 := same_new (o := .tup [.ref p, .ref dl]) ht
      have s5 := s3.trans s4
      exact k t _ s5 ⟨p, dl, xs, upd_same, s4 _ _ upd_same, s5 _ _ e3, Paired.mapP e4 (fun _ _ z => z.same s5), hav.new hp, e5.2⟩
    | clear =>
      refine ⟨_, rfl, e, _, _, _, rfl, rfl, SqT.of ee, rfl, rfl, _, rfl, iteE (by decide +kernel) ?_⟩
      refine ⟨_, rfl, e, _, _, _, rfl, rfl, SqT.of ee, rfl, rfl, _, rfl, iteE (by decide +kernel) ?_⟩
      refine ⟨_, rfl, _, rfl, e, _, _, _, rfl, rfl, SqT.of ee, rfl, rfl, _, rfl, iteS (by decide +kernel) ?_⟩
      refine ⟨(by show 0 ≤ sizeLine; decide), fun q hq => ⟨(by show 2 ≤ sizeLine; decide), fun p hp => ?_⟩⟩
      have s1 := same_new (o := .lst []) hq
      have s2 := same_new (o := .tup [.ref dv, .ref q]) hp
      exact k p _ (s1.trans s2) ⟨dv, q, [], upd_same, (s1.trans s2) _ _ e2, s2 _ _ upd_same, .nil, e5.1, hav.new hq⟩
    | flush =>
      refine ⟨_, rfl, e, _, _, _, rfl, rfl, SqT.of ee, rfl, rfl, _, rfl, iteE (by decide +kernel) ?_⟩
      refine ⟨_, rfl, e, _, _, _, rfl, rfl, SqT.of ee, rfl, rfl, _, rfl, iteE (by decide +kernel) ?_⟩
      refine ⟨_, rfl, _, rfl, e, _, _, _, rfl, rfl, SqT.of ee, rfl, rfl, _, rfl, iteE (by decide +kernel) ?_⟩
      refine ⟨_, rfl, (by show 2 ≤ sizeLine; decide), fun p hp => ?_⟩
      have s2 := same_new (o := .tup [.ref dv, .ref dl]) hp
      exact k p _ s2 ⟨dv, dl, xs, upd_same, s2 _ _ e2, s2 _ _ e3, Paired.mapP e4 (fun _ _ z => z.same s2), e5⟩
end

/-! ### the class Store -/
def stF (a wl : Addr) : List (Str × V) := [("state", .ref a), ("waiting", .ref wl)]
structure TxC (K : PySem.W.Frag) (C : Addr) : Prop where
  cl : Cls K C
  nS : NoAttr K C "state"
  nW : NoAttr K C "waiting"
def StoreAt (C : Addr) (av : Addr → Prop) (H : Hp) (S wl : Addr) (l g : Recs) (ws : List Evt) : Prop :=
  ∃ (dx a : Addr) (xs : List V), H S = some (.ins C dx (stF a wl)) ∧ StateAt av H a l g ∧ H wl = some (.lst xs) ∧ Paired (EvAt H) xs ws ∧ (∀ dv dl, H a = some (.tup [.ref dv, .ref dl]) → dl ≠ wl) ∧ ¬ av wl
theorem StoreAt.same {C : Addr} {av : Addr → Prop} {H H' : Hp} (s : Same H H') {S wl : Addr} {l g : Recs} {ws : List Evt} (h : StoreAt C av H S wl l g ws) : StoreAt C av H' S wl l g ws :=
  let ⟨dx, a, xs, e1, e2, e3, e4, e5, e6⟩ := h
  ⟨dx, a, xs, s _ _ e1, e2.same s, s _ _ e3, Paired.mapP e4 (fun _ _ q => q.same s), (fun dv dl z => by
    obtain ⟨dv', dl', _, q, _⟩ := e2
    have q' := s _ _ q
    rw [z] at q'
    cases q'
    exact e5 _ _ q), e6⟩
def apps (st : Recs × Recs) (ws : List Evt) : Recs × Recs := ws.foldl app st
theorem names_app (st : Recs × Recs) (e : Evt) : names (app st e).1 = names st.1 := by
  cases e with
  | write n v => exact names_setR ..
  | _ => rfl
theorem len_app (st : Recs × Recs) (e : Evt) : (app st e).1.length = st.1.length ∧ (app st e).2.length ≤ st.2.length + 1 := by
  cases e with
  | log n v => exact ⟨rfl, by show (st.2 ++ [(n, v)]).length ≤ _; rw [List.length_append]; exact Nat.le_refl _⟩
  | write n v => exact ⟨length_setR .., Nat.le_succ _⟩
  | clear => exact ⟨rfl, Nat.zero_le _⟩
  | flush => exact ⟨rfl, Nat.le_succ _⟩
theorem apps_snoc (st : Recs × Recs) (ws : List Evt) (e : Evt) : apps st (ws ++ [e]) = app (apps st ws) e := by
  unfold apps
  rw [List.foldl_append]
  rfl
theorem apps_inv (st : Recs × Recs) : ∀ ws : List Evt, names (apps st ws).1 = names st.1 ∧ (apps st ws).1.length = st.1.length ∧ (apps st ws).2.length ≤ st.2.length + ws.length := by
  intro ws
  induction ws generalizing st with
  | nil => exact ⟨rfl, rfl, Nat.le_refl _⟩
  | cons e r ih =>
    obtain ⟨i1, i2, i3⟩ := ih (app st e)
    obtain ⟨j1, j2⟩ := len_app st e
    refine ⟨i1.trans (names_app st e), i2.trans j1, ?_⟩
    show (apps (app st e) r).2.length ≤ _
    rw [List.length_cons]
    omega
theorem evOk_names {l l' : Recs} (h : names l' = names l) {e : Evt} (k : evOk l e) : evOk l' e := by
  cases e with
  | log n v => show n ∈ names l'; rw [h]; exact k
  | write n v => show n ∈ names l'; rw [h]; exact k
  | _ => trivial
/-- what is known of a store between two calls -/
def WellS (l g : Recs) (ws : List Evt) : Prop := GoodR l ∧ g.length + ws.length < 900 ∧ (∀ p ∈ g, p.1 ∈ names l) ∧ ∀ e ∈ ws, evOk l e
def spSeen (C : Addr) : Sp := fun vs H Q _ => ∃ (av : Addr → Prop) (S wl : Addr) (l g : Recs) (ws : List Evt), vs = [.ref S] ∧ Av av H ∧ StoreAt C av H S wl l g ws ∧ WellS l g ws ∧
  ∀ (a' : Addr) (H' : Hp), Same H H' → StateAt av H' a' (apps (l, g) ws).1 (apps (l, g) ws).2 → Q (.ref a') H'
def spCur (C : Addr) : Sp := fun vs H Q _ => ∃ (av : Addr → Prop) (S wl : Addr) (l g : Recs) (ws : List Evt), vs = [.ref S] ∧ Av av H ∧ StoreAt C av H S wl l g ws ∧ WellS l g ws ∧
  ∀ (p : Addr) (H' : Hp), Same H H' → H p = none → H' p = some (.dK (kvOf (apps (l, g) ws).1)) → Q (.ref p) H'
def spLog (C : Addr) : Sp := fun vs H Q _ => ∃ (av : Addr → Prop) (S wl : Addr) (l g : Recs) (ws : List Evt), vs = [.ref S] ∧ Av av H ∧ StoreAt C av H S wl l g ws ∧ WellS l g ws ∧
  ∀ (p : Addr) (xs : List V) (H' : Hp), Same H H' → H p = none → H' p = some (.lst xs) → Paired (RecAt H') xs (apps (l, g) ws).2 → Q (.ref p) H'
def spPend (C : Addr) : Sp := fun vs H Q _ => ∃ (av : Addr → Prop) (S wl : Addr) (l g : Recs) (ws : List Evt), vs = [.ref S] ∧ StoreAt C av H S wl l g ws ∧ Q (.int (ws.length : Int)) H
def spSInit (C : Addr) : Sp := fun vs H Q _ => ∃ (av : Addr → Prop) (S d dx : Addr) (l : Recs), vs = [.ref S, .ref d] ∧ Av av H ∧ H S = some (.ins C dx []) ∧ H d = some (.dK (kvOf l)) ∧ GoodR l ∧
  ∀ (wl : Addr) (H' : Hp), H wl = none → StoreAt C av H' S wl l [] [] → (∀ b o, H b = some o → b ≠ S → H' b = some o) → Q .non H'
theorem sw_ne : ¬ (("state" : Str) = "waiting") := by decide +kernel
theorem putF_init (t wl : Addr) : putF "waiting" (.ref wl) (putF "state" (.ref t) []) = stF t wl := by
  show (if ("state" : Str) = "waiting" then [(("state" : Str), V.ref wl)] else (("state" : Str), V.ref t) :: putF "waiting" (V.ref wl) []) = _
  rw [if_neg sw_ne]
  rfl
theorem putF_s (t t' wl : Addr) : putF "state" (.ref t') (stF t wl) = stF t' wl := by
  show (if ("state" : Str) = "state" then [(("state" : Str), V.ref t'), (("waiting" : Str), V.ref wl)] else _) = _
  rw [if_pos rfl]
  rfl
theorem putF_w (t wl wl' : Addr) : putF "waiting" (.ref wl') (stF t wl) = stF t wl' := by
  show (if ("state" : Str) = "waiting" then _ else (("state" : Str), V.ref t) :: (if ("waiting" : Str) = "waiting" then [(("waiting" : Str), V.ref wl')] else _)) = _
  rw [if_neg sw_ne, if_pos rfl]
  rfl
section
variable {P : Program} {w : World} {K : PySem.W.Frag} {mg : Str → Option Value} {base : Heap} {kw C : Addr}
theorem ok_SSeen {f : Addr} {fd : FuncData} (F : Fun K "seen" "Store.seen" sSSeen f fd) (TC : TxC K C) (GA : Has P w K mg base CX0 1 "applied" PApp spApp) : FnOk P w K mg base CX0 2 f fd PSSeen (spSeen C) := by
  refine F.ok scSSeen (fun vs H Q E h => ?_) (fun cdv A outer s H vs Q E hr h => ?_)
  · obtain ⟨av, S, wl, l, g, ws, rfl, _⟩ := h
    rfl
  · obtain ⟨av, S, wl, l, g, ws, rfl, hav, ⟨dx, a, xs, e1, e2, e3, e4, e5, e6⟩, wf, k⟩ := h
    refine ⟨_, (pss_cons (ps_set (i := 1) scSSeen.nd rfl (Or.inl rfl) (pe_fld (pv 0) rfl))
  (pss_cons (ps_for PassesOwn.never rfl (pi_list (pe_fld (pv 0) rfl)) (pg_name (i := 2) scSSeen.nd rfl (Or.inl rfl))
  (pss_one (ps_set (i := 1) scSSeen.nd rfl (Or.inl rfl) (pe_callH GA hr rfl pass0 (pa_cons (pv 1) (pa_cons (pv 2) pa_nil))))))
  (pss_one (ps_ret (pv 1))))), ?_⟩
    refine ⟨_, rfl, S, C, dx, _, _, rfl, e1, TC.cl, TC.nS, rfl, ?_⟩
    refine ⟨_, rfl, S, C, dx, _, _, rfl, e1, TC.cl, TC.nW, rfl, wl, rfl, ⟨_, SqL.of e3⟩, ?_⟩
    have lx : xs.length = ws.length := Paired.length e4
    refine for_list (K := K) (a := wl) (xs := xs) (fun i σ H' => Same H H' ∧ ∃ (st : Addr) (x : Option V), σ = [some (.ref S), some (.ref st), x] ∧ StateAt av H' st (apps (l, g) (ws.take i)).1 (apps (l, g) (ws.take i)).2) ?_ (fun i σ H' _ h' => SqL.of (h'.1 _ _ e3)) ?_ ?_
    · exact ⟨Same.refl _, a, none, rfl, e2⟩
    · rintro i x σ H1 hx ⟨s1, st, y, rfl, q1⟩
      obtain ⟨ev, hev, t, rfl, et⟩ : ∃ ev, ws[i]? = some ev ∧ EvAt H x ev := by
        have : ∀ {xs : List V} {ws : List Evt} {i : Nat} {x : V}, Paired (EvAt H) xs ws → xs[i]? = some x → ∃ ev, ws[i]? = some ev ∧ EvAt H x ev := by
          intro xs ws i x hp
          induction hp generalizing i with
          | nil => intro z; simp at z
          | cons r _ ih =>
            intro z
            cases i with
            | zero => simp at z; subst z; exact ⟨_, rfl, r⟩
            | succ j => simp at z ⊢; exact ih z
        exact this e4 hx
      obtain ⟨i1, i2, i3⟩ := apps_inv (l, g) (ws.take i)
      have hi : i < ws.length := (List.getElem?_eq_some_iff.mp hev).1
      have lt : (ws.take i).length = i := by rw [List.length_take]; omega
      have w2 := wf.2.1
      have w1 := wf.1.2.1
      refine ⟨_, rfl, _, rfl, av, st, t, _, _, ev, rfl, hav.same s1, q1, s1 _ _ et, evOk_names i1 (wf.2.2.2 ev (List.mem_of_getElem? hev)), by rw [i2]; exact w1, by rw [lt] at i3; show _ < 1000; simp only at i3; omega, fun a' H2 s2 q2 => ?_⟩
      refine ⟨s1.trans s2, a', _, rfl, ?_⟩
      rw [take_snoc hev, apps_snoc]
      exact q2
    · rintro σ H1 ⟨s1, st, y, rfl, q1⟩
      rw [lx, List.take_length] at q1
      exact ⟨_, rfl, k st H1 s1 q1⟩
theorem ok_SCur {f : Addr} {fd : FuncData} (F : Fun K "current" "Store.current" sSCur f fd) (T : TxSt K mg kw) (TC : TxC K C) (MS : HasM P w K mg base CX0 2 C "seen" PSSeen (spSeen C)) : FnOk P w K mg base CX0 3 f fd PSCur (spCur C) := by
  refine F.ok scSCur (fun vs H Q E h => ?_) (fun cdv A outer s H vs Q E hr h => ?_)
  · obtain ⟨av, S, wl, l, g, ws, rfl, _⟩ := h
    rfl
  · obtain ⟨av, S, wl, l, g, ws, rfl, hav, sa, wf, k⟩ := h
    refine ⟨_, (pss_one (ps_ret (pe_callTy call_dictOf (by rfl) T.n_dict bb_dict (pa_cons (pe_ix (r := rIxT K) ix_tup (pe_methH0 (pv 0) TC.cl MS hr pass0) pe_int (fun _ _ => rfl)) pa_nil)))), ?_⟩
    obtain ⟨dx, a, xs, e1, _⟩ := id sa
    refine ⟨_, rfl, S, dx, _, rfl, e1, rfl, av, S, wl, l, g, ws, rfl, hav, sa, wf, fun a' H1 s1 q1 => ?_⟩
    obtain ⟨dv, dl, ys, u1, u2, u3, u4, u5⟩ := q1
    refine ⟨a', _, _, _, rfl, rfl, SqT.of u1, rfl, dv, _, rfl, .inl u2, fun p hp => ?_⟩
    exact k p _ (s1.trans (same_new hp)) (s1.free hp) upd_same
theorem ok_SLog {f : Addr} {fd : FuncData} (F : Fun K "log" "Store.log" sSLog f fd) (T : TxSt K mg kw) (TC : TxC K C) (MS : HasM P w K mg base CX0 2 C "seen" PSSeen (spSeen C)) : FnOk P w K mg base CX0 3 f fd PSLog (spLog C) := by
  refine F.ok scSLog (fun vs H Q E h => ?_) (fun cdv A outer s H vs Q E hr h => ?_)
  · obtain ⟨av, S, wl, l, g, ws, rfl, _⟩ := h
    rfl
  · obtain ⟨av, S, wl, l, g, ws, rfl, hav, sa, wf, k⟩ := h
    refine ⟨_, (pss_one (ps_ret (pe_callTy call_list_of (by rfl) T.n_list bb_list (pa_cons (pe_ix (r := rIxT K) ix_tup (pe_methH0 (pv 0) TC.cl MS hr pass0) pe_int (fun _ _ => rfl)) pa_nil)))), ?_⟩
    obtain ⟨dx, a, xs, e1, _⟩ := id sa
    refine ⟨_, rfl, S, dx, _, rfl, e1, rfl, av, S, wl, l, g, ws, rfl, hav, sa, wf, fun a' H1 s1 q1 => ?_⟩
    obtain ⟨dv, dl, ys, u1, u2, u3, u4, u5⟩ := q1
    refine ⟨a', _, _, _, rfl, rfl, SqT.of u1, rfl, dl, _, rfl, .inl (SqL.of u3), fun p hp => ?_⟩
    exact k p ys _ (s1.trans (same_new hp)) (s1.free hp) upd_same (Paired.mapP u4 fun _ _ z => z.same (same_new hp))
theorem ok_SInit {f : Addr} {fd : FuncData} (F : Fun K "__init__" "Store.__init__" sSInit f fd) (T : TxSt K mg kw) (TC : TxC K C) (GV : Has P w K mg base CX0 2 "is_values" PIsVals spVals) : FnOk P w K mg base CX0 3 f fd PSInit (spSInit C) := by
  refine F.ok scSInit (fun vs H Q E h => ?_) (fun cdv A outer s H vs Q E hr h => ?_)
  · obtain ⟨av, S, d, dx, l, rfl, _⟩ := h
    rfl
  · obtain ⟨av, S, d, dx, l, rfl, hav, e1, e2, gl, k⟩ := h
    refine ⟨_, (pss_cons (ps_if (pt_not (pt_val (pe_callH GV hr rfl pass0 (pa_cons (pv 1) pa_nil))))
  (pss_one ps_never)
  pss_nil)
  (pss_cons (ps_fld (pv 0) (pe_tup (pa_cons (pe_callTy call_dictOf (by rfl) T.n_dict bb_dict (pa_cons (pv 1) pa_nil)) (pa_cons (pe_lst pa_nil) pa_nil))) rfl)
  (pss_one (ps_fld (pv 0) (pe_lst pa_nil) rfl)))), ?_⟩
    refine ⟨_, rfl, d, l, rfl, e2, gl, fun H1 s1 => ⟨true, rfl, ?_⟩⟩
    refine ⟨_, rfl, d, _, rfl, .inl (s1 _ _ e2), fun p hp => ?_⟩
    refine ⟨(by show 0 ≤ sizeLine; decide), fun q hq => ?_⟩
    refine ⟨(by show 2 ≤ sizeLine; decide), fun t ht => ?_⟩
    have s2 := s1.trans (same_new (o := .dK (kvOf l)) hp)
    have s3 := s2.trans (same_new (o := .lst []) hq)
    have s4 := s3.trans (same_new (o := .tup [.ref p, .ref q]) ht)
    have pq := ne_of_none upd_same hq
    have pt := ne_of_none (show upd (upd H1 p (.dK (kvOf l))) q (.lst []) p = some _ by rw [upd_ne pq, upd_same]) ht
    have qt := ne_of_none upd_same ht
    have Sp := ne_of_none (s1 _ _ e1) hp
    have Sq := ne_of_none (s2 _ _ e1) hq
    have St := ne_of_none (s3 _ _ e1) ht
    refine ⟨_, rfl, S, C, dx, [], rfl, s4 _ _ e1, TC.cl, TC.nS, (by show 0 < 1000; decide), ?_⟩
    refine ⟨(by show 0 ≤ sizeLine; decide), fun wl hwl => ?_⟩
    have wS := ne_of_none upd_same hwl
    have hw3 := hwl
    rw [upd_ne wS.symm] at hw3
    have pw := ne_of_none (show upd (upd (upd H1 p (.dK (kvOf l))) q (.lst [])) t (.tup [.ref p, .ref q]) p = some _ by rw [upd_ne pt, upd_ne pq, upd_same]) hw3
    have qw := ne_of_none (show upd (upd (upd H1 p (.dK (kvOf l))) q (.lst [])) t (.tup [.ref p, .ref q]) q = some _ by rw [upd_ne qt, upd_same]) hw3
    have tw := ne_of_none upd_same hw3
    refine ⟨_, rfl, S, C, dx, _, rfl, by rw [upd_ne wS, upd_same], TC.cl, TC.nW, (by show 1 < 1000; decide), ?_⟩
    refine k wl _ (s4.free hw3) ⟨dx, t, [], (by rw [upd_same, putF_init]), ⟨p, q, [], ?_, ?_, ?_, .nil, (hav.same s1).new hp, (hav.same s1).new ((same_new hp).free hq)⟩, ?_, .nil, fun dv dl z => ?_, hav.new (s4.free hw3)⟩ fun b o e hb => ?_
    · rw [upd_ne St.symm, upd_ne tw, upd_ne St.symm, upd_same]
    · rw [upd_ne Sp.symm, upd_ne pw, upd_ne Sp.symm, upd_ne pt, upd_ne pq, upd_same]
    · rw [upd_ne Sq.symm, upd_ne qw, upd_ne Sq.symm, upd_ne qt, upd_same]
    · rw [upd_ne wS.symm, upd_same]
    · rw [upd_ne St.symm, upd_ne tw, upd_ne St.symm, upd_same] at z
      cases z
      exact qw
    · rw [upd_ne hb, upd_ne (ne_of_none e (s4.free hw3)), upd_ne hb]
      exact s4 b o e
/-! perform -/
def perf (l g : Recs) (ws : List Evt) : Evt → Recs × Recs × List Evt
  | .flush => ((apps (l, g) ws).1, (apps (l, g) ws).2, [])
  | e => (l, g, ws ++ [e])
def spPerf (C : Addr) : Sp := fun vs H Q _ => ∃ (av : Addr → Prop) (S wl e : Addr) (l g : Recs) (ws : List Evt) (ev : Evt), vs = [.ref S, .ref e] ∧ Av av H ∧ StoreAt C av H S wl l g ws ∧ WellS l g ws ∧ H e = some (.tup (evV ev)) ∧ evOk l ev ∧
  ∀ (wl' : Addr) (H' : Hp), (wl' = wl ∨ H wl' = none) → But S wl H H' → StoreAt C av H' S wl' (perf l g ws ev).1 (perf l g ws ev).2.1 (perf l g ws ev).2.2 → Q .non H'
theorem keys_kvOf (l : Recs) : (kvOf l).map (fun kv => kV kv.1) = (names l).map V.str := by
  unfold kvOf names
  rw [List.map_map, List.map_map]
  rfl
theorem StoreAt.ne {av : Addr → Prop} {H : Hp} {S wl : Addr} {l g : Recs} {ws : List Evt} (h : StoreAt C av H S wl l g ws) : S ≠ wl := by
  obtain ⟨dx, a, xs, e1, e2, e3, e4, e5, e6⟩ := h
  exact ne_of e1 e3 (by intro z; cases z)
theorem ok_SPerf {f : Addr} {fd : FuncData} (F : Fun K "perform" "Store.perform" sSPerf f fd) (T : TxSt K mg kw) (TC : TxC K C) (GE : Has P w K mg base CX0 2 "is_event" PIsEvt (spEvt K)) (MS : HasM P w K mg base CX0 2 C "seen" PSSeen (spSeen C)) : FnOk P w K mg base CX0 3 f fd PSPerf (spPerf C) := by
  refine F.ok scSPerf (fun vs H Q E h => ?_) (fun cdv A outer s H vs Q E hr h => ?_)
  · obtain ⟨av, S, wl, e, l, g, ws, ev, rfl, _⟩ := h
    rfl
  · obtain ⟨av, S, wl, e, l, g, ws, ev, rfl, hav, sa, wf, ee, ok, k⟩ := h
    refine ⟨_, (pss_cons (ps_if (pt_not (pt_val (pe_callH GE hr rfl pass0 (pa_cons (pv 1) (pa_cons (pe_callTy (call_list_dK rfl) (by rfl) T.n_list bb_list (pa_cons (pe_ix (r := rIxT K) ix_tup (pe_fld (pv 0) rfl) pe_int (fun _ _ => rfl)) pa_nil)) pa_nil)))))
  (pss_one ps_never)
  pss_nil)
  (pss_one (ps_if (pt_cmpR op_eq (pe_ix (r := rIxT K) ix_tup (pv 1) pe_int (fun _ _ => rfl)) pe_str (nomark _))
  (pss_cons (ps_fld (pv 0) (pe_methH0 (pv 0) TC.cl MS hr pass0) rfl)
  (pss_one (ps_fld (pv 0) (pe_lst pa_nil) rfl)))
  (pss_one (ps_expr (pe_bm PySem.F.plainAttrs_list PySem.F.slot_list_append PySem.F.type_list_append mt_append (pe_fld (pv 0) rfl) (pa_cons (pv 1) pa_nil))))))), ?_⟩
    have nSw := sa.ne
    obtain ⟨dx, a, xs, e1, e2, e3, e4, e5, e6⟩ := id sa
    obtain ⟨dv, dl, ys, u1, u2, u3, u4, u5⟩ := id e2
    have lx : xs.length = ws.length := Paired.length e4
    refine ⟨_, rfl, _, rfl, S, C, dx, _, _, rfl, e1, TC.cl, TC.nS, rfl, a, _, _, _, rfl, rfl, SqT.of u1, rfl, dv, _, rfl, u2, fun q hq => ?_⟩
    have s1 := same_new (o := .lst ((kvOf l).map fun kv => kV kv.1)) hq
    refine ⟨e, q, ev, l, rfl, s1 _ _ ee, SqL.of (by rw [← keys_kvOf]; exact upd_same), ok, fun n hn => (wf.1.2.2 n hn).1, fun H2 s2 => ⟨true, rfl, ?_⟩⟩
    have s := s1.trans s2
    obtain ⟨x0, x1, exs⟩ := evV_ne ev
    have a0 : atI (evV ev) 0 = some (.str x0) := by rw [exs]; exact atI_nat (j := 0) rfl
    refine ⟨_, rfl, e, _, _, _, rfl, rfl, SqT.of (s _ _ ee), a0, rfl, _, rfl, ?_⟩
    have plain : ev ≠ .flush → ∀ {D : Ends}, (∀ H', D.nx [some (.ref S), some (.ref e)] H' = Q .non H') →
        tDrop (tBM K "list" rAppend (tFld K (tVar 0) "waiting") (tCons (tVar 1) tNil)) D [some (.ref S), some (.ref e)] H2 := fun hne D hD => by
      have pe : perf l g ws ev = (l, g, ws ++ [ev]) := by cases ev <;> first | rfl | exact absurd rfl hne
      refine ⟨_, rfl, S, C, dx, _, _, rfl, s _ _ e1, TC.cl, TC.nW, rfl, .inl ⟨rfl, _, SqL.of (s _ _ e3)⟩, _, rfl, wl, xs, _, rfl, rfl, s _ _ e3, ?_, ?_⟩
      · have := wf.2.1
        exact small1000 (by omega)
      show D.nx _ _
      rw [hD]
      have nd : ∀ {b : Addr} {o : HO}, H b = some o → (∀ zs, o ≠ .lst zs) → upd H2 wl (.lst (xs ++ [.ref e])) b = some o := fun {b o} z no => by
        rw [upd_ne (ne_of z e3 (no _))]
        exact s _ _ z
      have dlw : dl ≠ wl := e5 _ _ u1
      refine k wl _ (.inl rfl) (fun b o z _ h2 => by rw [upd_ne h2]; exact s b o z) ?_
      rw [pe]
      refine ⟨dx, a, _, nd e1 (fun _ z => by cases z), ⟨dv, dl, ys, nd u1 (fun _ z => by cases z), nd u2 (fun _ z => by cases z), by rw [upd_ne dlw]; exact s _ _ u3, Paired.mapP u4 (fun v r z => ?_), u5⟩, upd_same, Paired.snoc (Paired.mapP e4 fun v r z => ?_) ⟨e, rfl, nd ee (fun _ z => by cases z)⟩, fun dv' dl' z => ?_, e6⟩
      · obtain ⟨b, rfl, q⟩ := z
        exact ⟨b, rfl, nd q (fun _ z => by cases z)⟩
      · obtain ⟨b, rfl, q⟩ := z
        exact ⟨b, rfl, nd q (fun _ z => by cases z)⟩
      · rw [nd u1 (fun _ z => by cases z)] at z
        cases z
        exact dlw
    cases ev with
    | flush =>
      cases exs
      refine iteS (by decide +kernel) ?_
      refine ⟨_, rfl, S, dx, _, rfl, s _ _ e1, rfl, av, S, wl, l, g, ws, rfl, hav.same s, sa.same s, wf, fun a' H3 s3 q3 => ?_⟩
      have s' := s.trans s3
      obtain ⟨dv', dl', zs, v1, v2, v3, v4, v5⟩ := q3
      refine ⟨_, rfl, S, C, dx, _, rfl, s' _ _ e1, TC.cl, TC.nS, (by show 2 < 1000; decide), ?_⟩
      refine ⟨(by show 0 ≤ sizeLine; decide), fun wl' hw => ?_⟩
      have wS := ne_of_none upd_same hw
      have hw3 := hw
      rw [upd_ne wS.symm] at hw3
      refine ⟨_, rfl, S, C, dx, _, rfl, by rw [upd_ne wS, upd_same], TC.cl, TC.nW, (by rw [putF_s]; show 2 < 1000; decide), ?_⟩
      have nd : ∀ {b : Addr} {o : HO}, H3 b = some o → b ≠ S → ∀ o1 o2, upd (upd (upd H3 S o1) wl' (.lst [])) S o2 b = some o := fun {b o} z hb o1 o2 => by
        rw [upd_ne hb, upd_ne (ne_of_none z hw3), upd_ne hb]
        exact z
      have nS : ∀ {b : Addr} {o : HO}, H3 b = some o → (∀ c d x, o ≠ .ins c d x) → b ≠ S := fun {b o} z no => ne_of z (s' _ _ e1) (no _ _ _)
      refine k wl' _ (.inr (s'.free hw3)) (fun b o z h1 h2 => nd (s' b o z) h1 _ _) ⟨dx, a', [], by rw [upd_same, putF_s, putF_w], ⟨dv', dl', zs, nd v1 (nS v1 fun _ _ _ z => by cases z) _ _, nd v2 (nS v2 fun _ _ _ z => by cases z) _ _, nd v3 (nS v3 fun _ _ _ z => by cases z) _ _, Paired.mapP v4 (fun v r z => ?_), v5⟩, by rw [upd_ne wS.symm, upd_same], .nil, fun dv2 dl2 z => ?_, hav.new (s'.free hw3)⟩
      · obtain ⟨b, rfl, q⟩ := z
        exact ⟨b, rfl, nd q (nS q fun _ _ _ z => by cases z) _ _⟩
      · rw [nd v1 (nS v1 fun _ _ _ z => by cases z) _ _] at z
        cases z
        exact ne_of_none v3 hw3
    | log n v =>
      cases exs
      exact iteE (by decide +kernel) (plain (by intro z; cases z) fun _ => rfl)
    | write n v =>
      cases exs
      exact iteE (by decide +kernel) (plain (by intro z; cases z) fun _ => rfl)
    | clear =>
      cases exs
      exact iteE (by decide +kernel) (plain (by intro z; cases z) fun _ => rfl)
/-! recovered -/
def recF (l : Recs) (r : List (Str × Int)) : Recs := r.foldl (fun l p => setR l p.1 p.2) l
def recov (l g : Recs) : Recs := recF l g.reverse
theorem recF_inv (l : Recs) : ∀ r : List (Str × Int), names (recF l r) = names l ∧ (recF l r).length = l.length := by
  intro r
  induction r generalizing l with
  | nil => exact ⟨rfl, rfl⟩
  | cons p r ih =>
    obtain ⟨h1, h2⟩ := ih (setR l p.1 p.2)
    exact ⟨h1.trans (names_setR ..), h2.trans (length_setR ..)⟩
theorem recF_snoc (l : Recs) (r : List (Str × Int)) (p : Str × Int) : recF l (r ++ [p]) = setR (recF l r) p.1 p.2 := by
  unfold recF
  rw [List.foldl_append]
  rfl
theorem GoodR.of_names {l l' : Recs} (h : GoodR l) (e : names l' = names l) (e2 : l'.length = l.length) : GoodR l' := by
  unfold GoodR at *
  rw [e, e2]
  exact h
theorem app_log {st : Recs × Recs} {e : Evt} (h : ∀ p ∈ st.2, p.1 ∈ names st.1) (k : evOk st.1 e) : ∀ p ∈ (app st e).2, p.1 ∈ names (app st e).1 := by
  rw [names_app]
  cases e with
  | log n v =>
    intro p hp
    rcases List.mem_append.mp hp with q | q
    · exact h p q
    · rw [List.mem_singleton.mp q]; exact k
  | write n v => exact h
  | clear => exact fun p hp => nomatch hp
  | flush => exact h
theorem apps_log : ∀ {ws : List Evt} {st : Recs × Recs}, (∀ p ∈ st.2, p.1 ∈ names st.1) → (∀ e ∈ ws, evOk st.1 e) → ∀ p ∈ (apps st ws).2, p.1 ∈ names (apps st ws).1
  | [], _, h, _ => h
  | e :: r, st, h, k => apps_log (st := app st e) (app_log h (k e (List.mem_cons_self ..))) fun x hx => evOk_names (names_app st e) (k x (List.mem_cons_of_mem _ hx))
theorem Paired.at {α β : Type} {F : α → β → Prop} {xs : List α} {ys : List β} (hp : Paired F xs ys) : ∀ {i : Nat} {x : α}, xs[i]? = some x → ∃ y, ys[i]? = some y ∧ F x y := by
  induction hp with
  | nil => intro i x z; simp at z
  | cons r _ ih =>
    intro i x z
    cases i with
    | zero => simp at z; subst z; exact ⟨_, rfl, r⟩
    | succ j => simp at z ⊢; exact ih z
def spRec (C : Addr) : Sp := fun vs H Q _ => ∃ (av : Addr → Prop) (S wl : Addr) (l g : Recs) (ws : List Evt), vs = [.ref S] ∧ Av av H ∧ StoreAt C av H S wl l g ws ∧ WellS l g ws ∧
  ∀ (S' wl' : Addr) (H' : Hp), Same H H' → H S' = none → H wl' = none → StoreAt C av H' S' wl' (recov (apps (l, g) ws).1 (apps (l, g) ws).2) [] [] → Q (.ref S') H'
theorem ok_SRec {f : Addr} {fd : FuncData} (F : Fun K "recovered" "Store.recovered" sSRec f fd) (T : TxSt K mg kw) (TC : TxC K C) (MS : HasM P w K mg base CX0 2 C "seen" PSSeen (spSeen C)) (HC : HasC P w K mg base CX0 3 "Store" C PSInit (spSInit C)) : FnOk P w K mg base CX0 5 f fd PSRec (spRec C) := by
  refine F.ok scSRec (fun vs H Q E h => ?_) (fun cdv A outer s H vs Q E hr h => ?_)
  · obtain ⟨av, S, wl, l, g, ws, rfl, _⟩ := h
    rfl
  · obtain ⟨av, S, wl, l, g, ws, rfl, hav, sa, wf, k⟩ := h
    have hu := hu_of hr
    have hr2 := hr.mono (j := 2) (by decide)
    refine ⟨_, (pss_cons (ps_asg (pe_methH0 (pv 0) TC.cl MS hr2 pass0) (pg_tup (by rfl) (pgs_cons (pg_name (i := 1) scSRec.nd rfl (Or.inl rfl)) (pgs_cons (pg_name (i := 2) scSRec.nd rfl (Or.inl rfl)) pgs_nil))))
  (pss_cons (ps_set (i := 3) scSRec.nd rfl (Or.inl rfl) (pe_callTy call_dictOf (by rfl) T.n_dict bb_dict (pa_cons (pv 1) pa_nil)))
  (pss_cons (ps_for PassesOwn.never rfl (pi_reversed (by rfl) T.n_reversed (pa_cons (pe_callTy call_list_of (by rfl) T.n_list bb_list (pa_cons (pv 2) pa_nil)) pa_nil)) (pg_tup (by rfl) (pgs_cons (pg_name (i := 4) scSRec.nd rfl (Or.inl rfl)) (pgs_cons (pg_name (i := 5) scSRec.nd rfl (Or.inl rfl)) pgs_nil)))
  (pss_one (ps_dput hu (pv 3) (pv 4) (pv 5) rfl)))
  (pss_one (ps_ret (pe_makeH HC hr rfl pass0 (pa_cons (pv 3) pa_nil))))))), ?_⟩
    obtain ⟨dx, a, xs, e1, _⟩ := id sa
    refine ⟨_, rfl, S, dx, _, rfl, e1, rfl, av, S, wl, l, g, ws, rfl, hav, sa, wf, fun a' H1 s1 q1 => ?_⟩
    obtain ⟨dv, dl, ys, u1, u2, u3, u4, u5⟩ := q1
    obtain ⟨l', g', eq⟩ : ∃ l' g', apps (l, g) ws = (l', g') := ⟨_, _, rfl⟩
    rw [eq] at u2 u4 k
    have inv := apps_inv (l, g) ws
    have lg := apps_log (st := (l, g)) wf.2.2.1 wf.2.2.2
    rw [eq] at inv lg
    obtain ⟨i1, i2, i3⟩ := inv
    have lys : ys.length = g'.length := Paired.length u4
    have gl : GoodR l' := wf.1.of_names i1 i2
    refine ⟨a', _, rfl, SqT.of u1, rfl, _, _, rfl, _, _, rfl, rfl, ?_⟩
    refine ⟨_, rfl, dv, _, rfl, .inl u2, fun p hp => ?_⟩
    have s2 := same_new (o := .dK (kvOf l')) hp
    refine ⟨_, rfl, dl, _, rfl, .inl (SqL.of (s2 _ _ u3)), fun q hq => ?_⟩
    have s3 := s2.trans (same_new (o := .lst ys) hq)
    have pq := ne_of_none upd_same hq
    refine ⟨q, ys, rfl, SqL.of upd_same, ?_⟩
    refine for_it walk_rev (fun i σ H' => ∃ (x y : Option V), σ = [some (.ref S), some (.ref dv), some (.ref dl), some (.ref p), x, y] ∧ Same H1 H' ∧ H' q = some (.lst ys) ∧ H' p = some (.dK (kvOf (recF l' (g'.reverse.take i))))) ?_ (fun i σ H' _ h' => by obtain ⟨_, _, _, _, z, _⟩ := h'; exact SqL.of z) ?_ ?_
    · exact ⟨none, none, rfl, s3, upd_same, by rw [upd_ne pq, upd_same]; rfl⟩
    · rintro i v σ H2 H2' hi ⟨x, y, rfl, sm, eq2, ep⟩ ⟨rfl, hv⟩
      obtain ⟨r, hr', t, rfl, et⟩ := Paired.at u4 hv
      have hrev : g'.reverse[i]? = some r := by
        rw [List.getElem?_reverse (by omega), ← hr', lys]
      have mem : r ∈ g' := List.mem_of_getElem? hr'
      obtain ⟨j1, j2⟩ := recF_inv l' (g'.reverse.take i)
      refine ⟨t, _, rfl, SqT.of (sm _ _ et), rfl, _, _, rfl, _, _, rfl, rfl, ?_⟩
      have hn : r.1 ∈ names (recF l' (g'.reverse.take i)) := by rw [j1]; exact lg r mem
      refine ⟨_, rfl, _, rfl, _, rfl, p, _, rfl, DPut.k (k := Sum.inr r.1) ep ?_, ?_⟩
      · unfold kvOf
        rw [List.length_map, j2]
        have := gl.2.1
        exact small1000 (by omega)
      · refine ⟨_, _, rfl, fun b o z => ?_, ?_, ?_⟩
        · rw [upd_ne (ne_of_none z hp)]
          exact sm b o z
        · rw [upd_ne pq.symm]
          exact eq2
        · rw [upd_same, take_snoc hrev, recF_snoc, putK_kvOf r.2 hn]
    · rintro σ H2 ⟨x, y, rfl, sm, eq2, ep⟩
      rw [lys, ← List.length_reverse, List.take_length] at ep
      refine ⟨_, rfl, fun X dX hX hdX ne => ?_⟩
      have s4 : Same H2 (upd (upd H2 dX (.own X)) X (.ins C dX [])) := fun b o z => by
        rw [upd_ne (ne_of_none z hX), upd_ne (ne_of_none z hdX)]
        exact z
      obtain ⟨j1, j2⟩ := recF_inv l' g'.reverse
      refine ⟨av, X, p, dX, _, rfl, (hav.same (s1.trans sm)).same s4, upd_same, s4 _ _ ep, gl.of_names j1 j2, fun wl' H3 hw st kp => ⟨rfl, ?_⟩⟩
      have s5 : Same H2 H3 := fun b o z => kp b o (s4 b o z) (ne_of_none z hX)
      exact k X wl' H3 ((s1.trans sm).trans s5) ((s1.trans sm).free hX) ((s1.trans sm).free (s4.free hw)) st
end

/-! ### _law_names -/
abbrev sNames : Stmt := topS 22
abbrev NNames : List Str := ["_law_pool_here", "_law_letter", "_law_shift", "_law_k"]
abbrev PNames : List Str := ["_law_pool_here"]
theorem scNames : FnScope NNames PNames (defScope sNames) := ⟨rfl, rfl, rfl, by decide +kernel, rfl, by decide +kernel, by decide +kernel⟩
def nm (c : Nat) (i : Int) : Str := (⟨#[c]⟩ : Str) ++ ((toString i : String) : Str)
/-- a list of names as _law_names gives it -/
structure NamesOk (ns : List Str) : Prop where
  nd : ns.Nodup
  name : ∀ n ∈ ns, isName n = true
  len : ∀ n ∈ ns, n.length ≤ 10
theorem dig_facts : ∀ k : Fin 16, ((toString ((k.val : Nat) : Int) : String) : Str).cps.toList ≠ [] ∧ (∀ c ∈ ((toString ((k.val : Nat) : Int) : String) : Str).cps.toList, c ∈ DIG.cps.toList) ∧ ((toString ((k.val : Nat) : Int) : String) : Str).cps.toList.length ≤ 2 := by decide +kernel
theorem dig_inj : ∀ k j : Fin 16, ((toString ((k.val : Nat) : Int) : String) : Str) = ((toString ((j.val : Nat) : Int) : String) : Str) → k = j := by decide +kernel
theorem mod_inj : ∀ s k j : Fin 16, (7 * k.val + s.val) % 16 = (7 * j.val + s.val) % 16 → k = j := by decide +kernel
theorem kws_let : ∀ k ∈ KWS, ∀ c ∈ k.cps.toList, c ∈ LET.cps.toList := by decide +kernel
theorem let_dig : ∀ c ∈ DIG.cps.toList, c ∉ LET.cps.toList := by decide +kernel
theorem nm_list (c : Nat) (i : Int) : (nm c i).cps.toList = c :: ((toString i : String) : Str).cps.toList := by
  show (#[c] ++ ((toString i : String) : Str).cps).toList = _
  simp
theorem nm_name {c : Nat} (hc : c ∈ LET.cps.toList) {i : Int} (h0 : 0 ≤ i) (h1 : i < 16) : isName (nm c i) = true ∧ (nm c i).length ≤ 10 := by
  have e : i = (((⟨i.toNat, by omega⟩ : _root_.Fin 16).val : Nat) : Int) := by
    show i = ((i.toNat : Nat) : Int)
    omega
  obtain ⟨d1, d2, d3⟩ := dig_facts ⟨i.toNat, by omega⟩
  rw [← e] at d1 d2 d3
  have hl := nm_list c i
  have h0 : (nm c i).cps.toList[0]? = some c := by rw [hl]; rfl
  constructor
  · rw [isName_at h0, hl]
    simp only [Bool.and_eq_true, decide_eq_true_eq, Bool.not_eq_true']
    refine ⟨⟨hc, ?_⟩, ?_⟩
    · rw [List.all_eq_true]
      intro x hx
      unfold al
      simp only [Bool.or_eq_true, decide_eq_true_eq]
      rcases List.mem_cons.mp hx with q | q
      · rw [q]; exact .inl hc
      · exact .inr (d2 x q)
    · cases q : inV (.str (nm c i)) (KWS.map V.str) with
      | false => rfl
      | true =>
        unfold inV at q
        obtain ⟨v, hv, q⟩ := List.any_eq_true.mp q
        obtain ⟨k, hk, rfl⟩ := List.mem_map.mp hv
        have q : k = nm c i := by
          have q : (k == nm c i) = true := q
          simpa using q
        obtain ⟨x, hx⟩ := List.exists_mem_of_ne_nil _ d1
        exact absurd (kws_let k hk x (by rw [q, hl]; exact List.mem_cons_of_mem _ hx)) (let_dig x (d2 x hx))
  · show (nm c i).cps.size ≤ 10
    rw [← Array.length_toList, hl, List.length_cons]
    omega
theorem nm_inj {c : Nat} {i j : Int} (i0 : 0 ≤ i) (i1 : i < 16) (j0 : 0 ≤ j) (j1 : j < 16) (h : nm c i = nm c j) : i = j := by
  have q : ((toString i : String) : Str).cps.toList = ((toString j : String) : Str).cps.toList := by
    have z := congrArg (fun z : Str => z.cps.toList) h
    simp only [nm_list] at z
    exact (List.cons.inj z).2
  have e : ((toString i : String) : Str) = ((toString j : String) : Str) := by
    have z := congrArg List.toArray q
    simp only [Array.toArray_toList] at z
    cases hx : ((toString i : String) : Str) with
    | mk a =>
      cases hy : ((toString j : String) : Str) with
      | mk b =>
        rw [hx, hy] at z
        rw [show a = b from z]
  have ei : i = (((⟨i.toNat, by omega⟩ : _root_.Fin 16).val : Nat) : Int) := by
    show i = ((i.toNat : Nat) : Int)
    omega
  have ej : j = (((⟨j.toNat, by omega⟩ : _root_.Fin 16).val : Nat) : Int) := by
    show j = ((j.toNat : Nat) : Int)
    omega
  rw [ei, ej] at e
  have f := congrArg Fin.val (dig_inj _ _ e)
  have f : i.toNat = j.toNat := f
  omega
def nms (c : Nat) (s : Int) (n : Nat) : List Str := (List.range n).map fun k => nm c ((7 * (k : Nat) + s) % 16)
theorem nms_ok {c : Nat} (hc : c ∈ LET.cps.toList) {s : Int} (s0 : 0 ≤ s) (s1 : s < 16) {n : Nat} (hn : n ≤ 16) : NamesOk (nms c s n) := by
  have b : ∀ k : Nat, 0 ≤ (7 * (k : Int) + s) % 16 ∧ (7 * (k : Int) + s) % 16 < 16 := fun k => ⟨Int.emod_nonneg _ (by decide), Int.emod_lt_of_pos _ (by decide)⟩
  refine ⟨?_, fun x hx => ?_, fun x hx => ?_⟩
  · unfold nms
    rw [List.nodup_iff_pairwise_ne, List.pairwise_map]
    refine List.Pairwise.imp_of_mem (fun {i j} hi hj hne z => hne ?_) List.nodup_range
    have hi := List.mem_range.mp hi
    have hj := List.mem_range.mp hj
    have q := nm_inj (b i).1 (b i).2 (b j).1 (b j).2 z
    have m := mod_inj ⟨s.toNat, by omega⟩ ⟨i, by omega⟩ ⟨j, by omega⟩ (by show (7 * i + s.toNat) % 16 = (7 * j + s.toNat) % 16; omega)
    exact congrArg Fin.val m
  · obtain ⟨k, _, rfl⟩ := List.mem_map.mp hx
    exact (nm_name hc (b k).1 (b k).2).1
  · obtain ⟨k, _, rfl⟩ := List.mem_map.mp hx
    exact (nm_name hc (b k).1 (b k).2).2
def spNames : Sp := fun vs H Q _ => ∃ (p c : Addr) (lim : V) (n : Nat), vs = [.ref p] ∧ PoolAt H p c lim n ∧ n < 100000000000 ∧
  ∀ (q : Addr) (ns : List Str) (H' : Hp), NamesOk ns → ns.length = 16 → PoolAt H' p c lim (n + 2) → But p c H H' → H q = none → H' q = some (.lst (ns.map V.str)) → Q (.ref q) H'
structure TxNames (mg : Str → Option Value) : Prop where
  n_str : mg "str" = none
  n_range : mg "range" = none
section
variable {P : Program} {w : World} {K : PySem.W.Frag} {mg : Str → Option Value} {base : Heap}
theorem log2_small {i : Int} (h0 : 0 ≤ i) (h1 : i < 16) : i.natAbs.log2 < 1920 := by
  have : i.natAbs.log2 ≤ i.natAbs := Nat.log2_le_self _
  omega
theorem ok_Names {f : Addr} {fd : FuncData} (F : Fun K "_law_names" "_law_names" sNames f fd) (T : TxNames mg) (GD : Has P w K mg base CX0 2 "_law_draw" PDraw spDraw) : FnOk P w K mg base CX0 3 f fd PNames spNames := by
  refine F.ok scNames (fun vs H Q E h => ?_) (fun cdv A outer s H vs Q E hr h => ?_)
  · obtain ⟨p, c, lim, n, rfl, _⟩ := h
    rfl
  · obtain ⟨p, c, lim, n, rfl, P0, hn, k⟩ := h
    refine ⟨_, (pss_cons (ps_set (i := 1) scNames.nd rfl (Or.inr rfl) (pe_ix ix_str pe_str (pe_callH GD hr rfl pass0 (pa_cons (pv 0) (pa_cons pe_int pa_nil))) (fun _ _ => rfl)))
  (pss_cons (ps_set (i := 2) scNames.nd rfl (Or.inr rfl) (pe_callH GD hr rfl pass0 (pa_cons (pv 0) (pa_cons pe_int pa_nil))))
  (pss_one (ps_ret (pe_lc (own := [("_law_k", 3)]) (g := gName 3) (tt := tYes) rfl scNames.nd (pi_range1 (by rfl) T.n_range (pa_cons pe_int pa_nil)) (blkOk_by (own := [("_law_k", 3)]) (N := NNames) (sc := (defScope sNames)) (by decide +kernel)) (fun _ _ _ _ _ => (pg_name (i := 3) scNames.nd rfl (Or.inl rfl))) (fun _ _ _ _ _ => pts_nil) (fun _ _ _ _ _ => (pe_op op_add_str (pv 1) (pe_callTy call_str_int (by rfl) T.n_str bb_str (pa_cons (pe_op op_mod (pe_op op_add (pe_op op_mul pe_int (pv 3)) (pv 2)) pe_int) pa_nil))))))))), ?_⟩
    refine ⟨_, rfl, p, c, lim, n, 26, rfl, P0, by omega, by decide, by decide, fun r H1 r0 r1 P1 b1 => ?_⟩
    obtain ⟨lc, hlc, mlc⟩ := atI_in (xs := LET.cps.toList) r0 (by rw [show LET.cps.toList.length = 26 by decide +kernel]; exact r1)
    refine ⟨_, _, lc, rfl, rfl, by decide +kernel, hlc, ?_⟩
    refine ⟨_, rfl, p, c, lim, n + 1, 16, rfl, P1, by omega, by decide, by decide, fun sh H2 s0 s1 P2 b2 => ?_⟩
    refine ⟨16, rfl, by decide, by decide, fun D hD => ?_⟩
    have Dp := P2.ne1 hD
    have Dc := P2.ne2 hD
    refine lc_range (lo := 0) (n := 16) (fun i H' => Same H2 H' ∧ H' D = some (.lst ((nms lc sh i).map V.str))) ⟨same_new hD, upd_same⟩ ?_ ?_
    · rintro i H3 hi ⟨s3, e3⟩
      have b : 0 ≤ (7 * (0 + (i : Int)) + sh) % 16 ∧ (7 * (0 + (i : Int)) + sh) % 16 < 16 := ⟨Int.emod_nonneg _ (by decide), Int.emod_lt_of_pos _ (by decide)⟩
      refine ⟨rfl, _, rfl, _, rfl, _, _, rfl, rfl, .inl ⟨by decide, by decide⟩, _, rfl, _, _, rfl, rfl, _, _, rfl, rfl, (show (0 : Int) < 16 by decide), _, rfl, log2_small b.1 b.2, _, _, rfl, rfl, ?_, _, e3, small1000 ?_, fun b o z => ?_, ?_⟩
      · have q := (nm_name mlc b.1 b.2).2
        unfold nm at q
        rw [str_app_len] at q
        exact Nat.le_trans q (by decide)
      · unfold nms
        rw [List.length_map, List.length_map, List.length_range]
        omega
      · rw [upd_ne (ne_of_none z hD)]
        exact s3 b o z
      · rw [upd_same]
        unfold nms
        rw [List.range_succ, List.map_append, List.map_append]
        show some (HO.lst (_ ++ [V.str (nm lc ((7 * (0 + (i : Int)) + sh) % 16))])) = _
        rw [Int.zero_add]
        rfl
    · rintro H3 ⟨s3, e3⟩
      have hD0 : H D = none := by
        cases q : H D with
        | none => rfl
        | some o => rw [b2 D o (b1 D o q Dp Dc) Dp Dc] at hD; cases hD
      refine k D _ H3 (nms_ok mlc s0 s1 (Nat.le_refl 16)) (by unfold nms; rw [List.length_map, List.length_range]) (P2.same s3) (fun b o z h1 h2 => s3 b o (b2 b o (b1 b o z h1 h2) h1 h2)) hD0 e3
end

/-! ### dicts of ints, and lists of them, compared: both answers -/
def gR (l : Recs) (n : Str) : Int := ((l.find? fun p => decide (p.1 = n)).map (·.2)).getD 0
theorem gR_val {l : Recs} {n : Str} (h : n ∈ names l) : valV (kvOf l) (Sum.inr n) = some (V.int (gR l n)) := by
  induction l with
  | nil => cases h
  | cons p r ih =>
    by_cases e : p.1 = n
    · unfold gR kvOf valV
      simp [e]
    · have h2 := ih (by
        rcases List.mem_cons.mp h with q | q
        · exact absurd q.symm e
        · exact q)
      unfold gR kvOf valV at h2 ⊢
      rw [List.map_cons]
      simpa [e] using h2
theorem gR_mem {l : Recs} (nd : (names l).Nodup) {p : Str × Int} (h : p ∈ l) : gR l p.1 = p.2 := by
  induction l with
  | nil => cases h
  | cons q r ih =>
    have nd' : (q.1 :: names r).Nodup := nd
    rw [List.nodup_cons] at nd'
    rcases List.mem_cons.mp h with e | e
    · subst e
      unfold gR
      simp
    · have ne : q.1 ≠ p.1 := fun z => nd'.1 (z ▸ List.mem_map.mpr ⟨p, e, rfl⟩)
      have h2 := ih nd'.2 e
      unfold gR at h2 ⊢
      simpa [ne] using h2
theorem gR_all {l l' : Recs} (e : names l = names l') (nd : (names l).Nodup) : (l.all fun p => p.2 == gR l' p.1) = decide (l = l') := by
  by_cases z : l = l'
  · subst z
    rw [decide_eq_true rfl, List.all_eq_true]
    intro p hp
    rw [gR_mem nd hp]
    exact beq_self_eq_true _
  · rw [decide_eq_false z]
    by_cases y : (l.all fun p => p.2 == gR l' p.1) = true
    · refine absurd ?_ z
      rw [List.all_eq_true] at y
      have hl : l.length = l'.length := by
        have := congrArg List.length e
        unfold names at this
        rwa [List.length_map, List.length_map] at this
      refine List.ext_getElem hl fun i h1 h2 => ?_
      have e1 : (l[i]).1 = (l'[i]).1 := by
        have : (names l)[i]? = (names l')[i]? := by rw [e]
        unfold names at this
        rw [List.getElem?_map, List.getElem?_map, List.getElem?_eq_getElem h1, List.getElem?_eq_getElem h2] at this
        exact Option.some.inj this
      have e2 := y _ (List.getElem_mem h1)
      have e3 := gR_mem (e ▸ nd) (List.getElem_mem h2)
      rw [beq_iff_eq, e1, e3] at e2
      exact Prod.ext e1 e2
    · simpa using y
theorem kvOf_inj {l l' : Recs} (h : kvOf l = kvOf l') : l = l' := by
  unfold kvOf at h
  refine List.map_inj_right (f := fun p : Str × Int => ((Sum.inr p.1 : Key), V.int p.2)) (fun p q z => ?_) |>.mp h
  have z1 := congrArg Prod.fst z
  have z2 := congrArg Prod.snd z
  exact Prod.ext (Sum.inr.inj z1) (V.int.inj z2)
section
open PySem.Spec PyProof.Rows
theorem hits_kv {A : Around} {s : Shared} {l' : Recs} {vb : List (Key × Value)} (rb : KV (kvOf l') vb) : ∀ {l : Recs} {va : List (Key × Value)}, KV (kvOf l) va → (∀ n ∈ names l, n ∈ names l') → PySem.W.KeqHits A s vb va (l.all fun p => p.2 == gR l' p.1)
  | [], va, ra, _ => by
    unfold KV kvOf at ra
    cases ra
    exact .nil
  | p :: r, va, ra, hn => by
    unfold KV kvOf at ra
    rw [List.map_cons] at ra
    cases ra with
    | @cons _ q _ qs h t =>
      obtain ⟨k, v⟩ := q
      obtain ⟨h1, h2⟩ := h
      have h1a : (Sum.inr p.1 : Key) = k := h1
      have h2 : RelV (V.int p.2) v := h2
      obtain ⟨t1, rfl⟩ := h2
      have rr : RelO (some (V.int (gR l' p.1))) (valueAt vb (Sum.inr p.1)) := by rw [← gR_val (hn _ List.mem_cons_self)]; exact rb.val _
      obtain ⟨y, hy, ry⟩ := rr.some_of
      obtain ⟨t2, rfl⟩ := ry
      rw [h1a] at hy
      rw [List.all_cons]
      exact .hit hy (SeqAt.EqAt.int_int _ _ _ _) (hits_kv rb t fun n h => hn n (List.mem_cons_of_mem _ h))
/-- == of two values answers b, in one program -/
def EqW (prog : Program) (w : World) (A : Around) (s : Shared) (y x : Value) (b : Bool) : Prop := ∀ (E : Value → Shared → Prop) (Q : Bool → Shared → Prop), Q b s → wpAny (model prog w) A (eqBool y x) Q E s
section
open PySem.SeqAt MeetsSeq MeetsSeq2 MeetsSeq3 SeqRoads2
open AutoSeq1 (wpAny_loadPart')
variable {prog : Program} {w : World} {A : Around} {R : Result → Shared → Prop}
theorem contains_loopW (l : Addr) (items : Array Value) (n : Nat) (dd : Option Addr) (sl : Array (Option Value)) (x : Value) (e : Value → Bool) (k : Nat) :
    ∀ i : Nat, items.size - i = k → ∀ s : Shared, s.heap.get? l = some { cls := .type "list", dict := dd, data := .seq items n, slots := sl } → (∀ y, y ∈ items → EqW prog w A.in1 s y x (e y)) → R (.ok (.ret (.bool ((items.toList.drop i).any e)))) s →
      wpAny (model prog w) A.in1 (Builtin.«list.__contains__.loop» ⟨[.ref l, x, rawInt i], []⟩) (GQ.FinOf prog w A R) (fun e s' => R (.error e) s') s := by
  induction k with
  | zero =>
    intro i hk s hl he h
    obtain ⟨hp, g, d, tk, os⟩ := s
    wp_walk using wpAny_loadPart' hl
    have hi : items[((i : Nat) : Int).toNat]? = none := by simp; omega
    have hd : items.toList.drop i = [] := by simp; omega
    rw [hd] at h
    rw [hi]
    wp_walk
    exact h
  | succ k ih =>
    intro i hk s hl he h
    have hs := he
    obtain ⟨hp, g, d, tk, os⟩ := s
    wp_walk using wpAny_loadPart' hl
    have hlt : i < items.size := by omega
    have hi : items[((i : Nat) : Int).toNat]? = some items[i] := by simp [hlt]
    have hd : items.toList.drop i = items[i] :: items.toList.drop (i + 1) := by simp [List.drop_eq_getElem_cons, hlt]
    rw [hd, List.any_cons] at h
    rw [hi]
    refine wpAny_bind (he _ (Array.getElem_mem hlt) _ _ ?_)
    cases hb : e items[i] with
    | true =>
      rw [hb] at h
      wp_walk
      exact h
    | false =>
      rw [hb] at h
      have hc : ((i : Int) + 1) = ((i + 1 : Nat) : Int) := by omega
      wp_walk
      rw [hc]
      exact ⟨plainId_quiet plain_contains_loop _, codeAny_builtin entry_contains_loop (by
        rw [Around.under_plainId plain_contains_loop _]
        exact ih (i + 1) (by omega) _ hl hs (by simpa using h))⟩
theorem notIn_listW {E : Value → Shared → Prop} {s : Shared} {l : Addr} {items : Array Value} {x : Value} {Q : Value → Shared → Prop} (e : Value → Bool) (hl : s.heap.IsList l items) (he : ∀ y, y ∈ items → EqW prog w A.in1 s y x (e y))
    (h : Q (.bool (!items.any e)) s) : wpAny (model prog w) A (compareOp .NotIn x (.ref l)) Q E s := by
  obtain ⟨⟨cls, dd, data, sl⟩, ho, hc, n, hd⟩ := id hl
  simp only at hc hd
  subst hc hd
  show wpAny _ A (do return .bool (!(← contains (.ref l) x))) Q E s
  refine wpAny_bind (wpAny_contains_slot ⟨_, ho, rfl⟩ F.slot_list_contains (wpAny_mono (GQ.call_here (Q := fun v s' => v = .bool (items.any e) ∧ s' = s) F.slot_list_contains ⟨_, ho, rfl⟩ F.entry_list_contains (F.args_list_contains_2 _ _) ?_) (fun v s' hv => ?_) fun _ _ e => e))
  · have hrec := contains_loopW (prog := prog) (w := w) (A := A) (R := wants (fun v s' => v = .bool (items.any e) ∧ s' = s) E) l items n dd sl x e _ 0 rfl s ho he ⟨by simp, rfl⟩
    obtain ⟨hp, g, d, tk, os⟩ := s
    wp_walk using wpAny_loadPart' ho
    exact ⟨plainId_quiet plain_contains_loop _, codeAny_builtin entry_contains_loop (by
      rw [Around.under_plainId plain_contains_loop _]
      exact hrec)⟩
  · obtain ⟨rfl, rfl⟩ := hv
    exact wpAny_truthy_bool (wpAny_pure h)
/-- != of two lists whose items are equal -/
theorem ne_loopW (l b : Addr) (items items2 : Array Value) (n n2 : Nat) (dd dd2 : Option Addr) (sl sl2 : Array (Option Value)) (hsz : items.size = items2.size) (k : Nat) :
    ∀ i : Nat, items.size - i = k → ∀ s : Shared, s.heap.get? l = some { cls := .type "list", dict := dd, data := .seq items n, slots := sl } → s.heap.get? b = some { cls := .type "list", dict := dd2, data := .seq items2 n2, slots := sl2 } →
      (∀ j (h1 : j < items.size) (h2 : j < items2.size), EqW prog w A.in1 s items[j] items2[j] true) → R (.ok (.ret (.bool false))) s →
      wpAny (model prog w) A.in1 (Builtin.«list.__eq__.loop» ⟨[.ref l, .ref b, rawInt i, rawInt 3], []⟩) (GQ.FinOf prog w A R) (fun e s' => R (.error e) s') s := by
  induction k with
  | zero =>
    intro i hk s hl hb he h
    obtain ⟨hp, g, d, tk, os⟩ := s
    wp_walk using wpAny_loadPart' hl, wpAny_loadPart' hb
    have hi1 : items[((i : Nat) : Int).toNat]? = none := by simp; omega
    have hi2 : items2[((i : Nat) : Int).toNat]? = none := by simp; omega
    rw [hi1, hi2]
    wp_walk using wpAny_loadPart' hl, wpAny_loadPart' hb
    show R (.ok (.ret (.bool (items.size != items2.size)))) _
    rw [hsz]
    simpa using h
  | succ k ih =>
    intro i hk s hl hb he h
    have hs := he
    obtain ⟨hp, g, d, tk, os⟩ := s
    wp_walk using wpAny_loadPart' hl, wpAny_loadPart' hb
    have hlt : i < items.size := by omega
    have hlt2 : i < items2.size := by omega
    have hi1 : items[((i : Nat) : Int).toNat]? = some items[i] := by simp [hlt]
    have hi2 : items2[((i : Nat) : Int).toNat]? = some items2[i] := by simp [hlt2]
    have hc : ((i : Int) + 1) = ((i + 1 : Nat) : Int) := by omega
    rw [hi1, hi2]
    refine wpAny_bind (he i hlt hlt2 _ _ ?_)
    wp_walk
    rw [hc]
    exact ⟨plainId_quiet plain_eq_loop _, codeAny_builtin entry_eq_loop (by
      rw [Around.under_plainId plain_eq_loop _]
      exact ih (i + 1) (by omega) _ hl hb hs h)⟩
theorem rc_neListW {E : Value → Shared → Prop} {s : Shared} {l b : Addr} {items items2 : Array Value} {Q : Value → Shared → Prop} (hl : s.heap.IsList l items) (hb : s.heap.IsList b items2) (hsz : items.size = items2.size) (hu : A.units < cLine)
    (he : ∀ j (h1 : j < items.size) (h2 : j < items2.size), EqW prog w A.in1 s items[j] items2[j] true) (h : Q (.bool false) s) : wpAny (model prog w) A (richCompare .NotEq (.ref l) (.ref b)) Q E s := by
  obtain ⟨⟨cls, dd, data, sl⟩, ho, hc, n, hd⟩ := id hl
  obtain ⟨⟨cls2, dd2, data2, sl2⟩, ho2, hc2, n2, hd2⟩ := id hb
  simp only at hc hd hc2 hd2
  subst hc hd hc2 hd2
  refine wpAny_richCompare_same_room (op := .NotEq) ⟨_, ho, rfl⟩ ⟨_, ho2, rfl⟩ F.slot_list_ne (GQ.call_here F.slot_list_ne ⟨_, ho, rfl⟩ F.entry_list_ne (F.args_list_ne_2 _ _) ?_) hu
  have hrec := ne_loopW (prog := prog) (w := w) (A := A) (R := wants (fun v s' => v ≠ .notImplemented ∧ Q v s') E) l b items items2 n n2 dd dd2 sl sl2 hsz _ 0 rfl s ho ho2 he ⟨(fun x => nomatch x), h⟩
  obtain ⟨hp, g, d, tk, os⟩ := s
  have f3 := AutoSeq1.sub_list_list
  have hne : ¬ (items.size != items2.size) = true := by simp [hsz]
  wp_walk using wpAny_loadPart' ho, wpAny_loadPart' ho2
  exact ⟨plainId_quiet plain_eq_loop _, codeAny_builtin entry_eq_loop (by
    rw [Around.under_plainId plain_eq_loop _]
    exact hrec)⟩
end
theorem EqW.same {prog : Program} {w : World} {A : Around} {s : Shared} (v : Value) : EqW prog w A s v v true := fun E Q h => SeqAt.EqAt.same v prog w E Q h
theorem EqW.of_refs {prog : Program} {w : World} {A : Around} {s : Shared} {l b : Addr} {k : Bool} (hne : l ≠ b) (h : ∀ (E : Value → Shared → Prop) (Q : Value → Shared → Prop), Q (.bool k) s → wpAny (model prog w) A (richCompare .Eq (.ref l) (.ref b)) Q E s) : EqW prog w A s (.ref l) (.ref b) k := fun E Q q =>
  GQ.eqBool_refG hne (h E _ ⟨k, rfl, q⟩)
variable {X : Cx}
def Kvs (H : Hp) (N : List Str) (v : V) (l : Recs) : Prop := ∃ a, v = .ref a ∧ H a = some (.dK (kvOf l)) ∧ names l = N
theorem eqAt_kv {A : Around} {pins : List (Addr × Obj)} {σ : L2.St} {H : Hp} {s : Shared} (I : Inv X pins σ H s) (hu : A.units < cLine) {a b : Addr} {l l' : Recs} (ea : H a = some (.dK (kvOf l))) (eb : H b = some (.dK (kvOf l'))) (e : names l = names l') (nd : (names l).Nodup) : EqW X.prog X.w A s (.ref a) (.ref b) (decide (l = l')) := by
  by_cases hab : a = b
  · subst hab
    rw [ea] at eb
    have : l = l' := kvOf_inj (by injection (Option.some.inj eb))
    subst this
    rw [decide_eq_true rfl]
    exact EqW.same _
  · refine EqW.of_refs hab fun E Q hq => ?_
    obtain ⟨_, ya, va, ra, da⟩ := (show ObjOk X.prog X.w H s.heap a (.dK (kvOf l)) from I.hok a _ ea)
    obtain ⟨_, yb, vb, rb, db⟩ := (show ObjOk X.prog X.w H s.heap b (.dK (kvOf l')) from I.hok b _ eb)
    have hl : va.length = vb.length := by
      rw [← ra.length, ← rb.length]
      unfold kvOf
      rw [List.length_map, List.length_map]
      have := congrArg List.length e
      unfold names at this
      rwa [List.length_map, List.length_map] at this
    refine PySem.W.keq_eq (knd := mixKind X.prog X.w) (r := l.all fun p => p.2 == gR l' p.1) ya yb da db hu (fun _ => hits_kv rb ra fun n h => e ▸ h) ?_
    rw [hl, beq_self_eq_true, Bool.true_and, gR_all e nd]
    exact hq
def rEqKv : R2 := fun x y H Q => ∃ a b l l', x = .ref a ∧ y = .ref b ∧ H a = some (.dK (kvOf l)) ∧ H b = some (.dK (kvOf l')) ∧ names l = names l' ∧ (names l).Nodup ∧ Q (.bl (decide (l = l'))) H
def rNeKv : R2 := fun x y H Q => ∃ a b l l', x = .ref a ∧ y = .ref b ∧ H a = some (.dK (kvOf l)) ∧ H b = some (.dK (kvOf l')) ∧ names l = names l' ∧ (names l).Nodup ∧ Q (.bl (!decide (l = l'))) H
theorem op_neKv (hu : X.A.units < cLine) : OpR X (compareOp .NotEq) rNeKv := by
  intro pins s σ H x y v u Q I rx ry h
  obtain ⟨a, b, l, l', rfl, rfl, ea, eb, e, nd, q⟩ := h
  obtain rfl : v = Value.ref a := rx
  obtain rfl : u = Value.ref b := ry
  obtain ⟨_, ya, va, ra, da⟩ := (show ObjOk X.prog X.w H s.heap a (.dK (kvOf l)) from I.hok a _ ea)
  obtain ⟨_, yb, vb, rb, db⟩ := (show ObjOk X.prog X.w H s.heap b (.dK (kvOf l')) from I.hok b _ eb)
  have hl : va.length = vb.length := by
    rw [← ra.length, ← rb.length]
    unfold kvOf
    rw [List.length_map, List.length_map]
    have := congrArg List.length e
    unfold names at this
    rwa [List.length_map, List.length_map] at this
  refine PySem.W.keq_ne (knd := mixKind X.prog X.w) (r := l.all fun p => p.2 == gR l' p.1) ya yb da db hu (fun _ => hits_kv rb ra fun n h => e ▸ h) (fin_bl I q ?_)
  rw [hl, beq_self_eq_true, Bool.true_and, gR_all e nd]
theorem op_eqKv (hu : X.A.units < cLine) : OpR X (compareOp .Eq) rEqKv := by
  intro pins s σ H x y v u Q I rx ry h
  obtain ⟨a, b, l, l', rfl, rfl, ea, eb, e, nd, q⟩ := h
  obtain rfl : v = Value.ref a := rx
  obtain rfl : u = Value.ref b := ry
  obtain ⟨_, ya, va, ra, da⟩ := (show ObjOk X.prog X.w H s.heap a (.dK (kvOf l)) from I.hok a _ ea)
  obtain ⟨_, yb, vb, rb, db⟩ := (show ObjOk X.prog X.w H s.heap b (.dK (kvOf l')) from I.hok b _ eb)
  have hl : va.length = vb.length := by
    rw [← ra.length, ← rb.length]
    unfold kvOf
    rw [List.length_map, List.length_map]
    have := congrArg List.length e
    unfold names at this
    rwa [List.length_map, List.length_map] at this
  refine PySem.W.keq_eq (knd := mixKind X.prog X.w) (r := l.all fun p => p.2 == gR l' p.1) ya yb da db hu (fun _ => hits_kv rb ra fun n h => e ▸ h) (fin_bl I q ?_)
  rw [hl, beq_self_eq_true, Bool.true_and, gR_all e nd]
/-- two lists of dicts, equal item by item -/
theorem eqAt_kvs {A : Around} {pins : List (Addr × Obj)} {σ : L2.St} {H : Hp} {s : Shared} (I : Inv X pins σ H s) (hu : A.units < cLine) {N : List Str} (nd : N.Nodup) : ∀ {xs ys : List V} {ls : List Recs} {us vs : List Value}, Paired (Kvs H N) xs ls → Paired (Kvs H N) ys ls → Vals xs us → Vals ys vs →
    ∀ (j : Nat) (h1 : j < us.length) (h2 : j < vs.length), EqW X.prog X.w A s us[j] vs[j] true
  | _, _, _, _, _, .nil, .nil, r, _ => fun j h1 _ => by cases r; exact absurd h1 (Nat.not_lt_zero _)
  | _, _, _, _, _, .cons ⟨a, e1, e2, e3⟩ p, .cons ⟨b, e4, e5, e6⟩ q, r, t => fun j h1 h2 => by
    cases r with
    | cons r0 r =>
      cases t with
      | cons t0 t =>
        cases j with
        | zero =>
          subst e1 e4
          cases r0
          cases t0
          have z := eqAt_kv I hu e2 e5 rfl (by rw [e3]; exact nd)
          rw [decide_eq_true rfl] at z
          exact z
        | succ j => exact eqAt_kvs I hu nd p q r t j (Nat.lt_of_succ_lt_succ h1) (Nat.lt_of_succ_lt_succ h2)
def rLDs (k : Bool) : R2 := fun x y H Q => ∃ a b xs ys ls N, x = .ref a ∧ y = .ref b ∧ H a = some (.lst xs) ∧ H b = some (.lst ys) ∧ Paired (Kvs H N) xs ls ∧ Paired (Kvs H N) ys ls ∧ N.Nodup ∧ Q (.bl k) H
theorem op_neLDs (hu : X.A.units + 1 < cLine) : OpR X (compareOp .NotEq) (rLDs false) := by
  intro pins s σ H x y v u Q I rx ry h
  obtain ⟨a, b, xs, ys, ls, N, rfl, rfl, ea, eb, p1, p2, nd, q⟩ := h
  obtain rfl : v = Value.ref a := rx
  obtain rfl : u = Value.ref b := ry
  obtain ⟨z1, us, n1, r1, d1⟩ := I.hok a _ ea
  obtain ⟨z2, vs, n2, r2, d2⟩ := I.hok b _ eb
  have hsz : us.toArray.size = vs.toArray.size := by
    rw [List.size_toArray, List.size_toArray, ← r1.length, ← r2.length, Paired.length p1, Paired.length p2]
  exact rc_neListW (A := X.A) (s := s) (l := a) (b := b) ⟨_, d1, rfl, n1, rfl⟩ ⟨_, d2, rfl, n2, rfl⟩ hsz (by omega) (fun j h1 h2 => by
    have := eqAt_kvs (A := X.A.in1) I (by show X.A.units + 1 < _; exact hu) nd p1 p2 r1 r2 j (by simpa using h1) (by simpa using h2)
    simpa using this) (fin_bl I q rfl)
/-- x not in [dicts]: both answers -/
def rNotInLD : R2 := fun x y H Q => ∃ a b l ys ls N, x = .ref a ∧ y = .ref b ∧ H a = some (.dK (kvOf l)) ∧ names l = N ∧ H b = some (.lst ys) ∧ Paired (Kvs H N) ys ls ∧ N.Nodup ∧ Q (.bl (!ls.any fun l' => decide (l' = l))) H
theorem any_kvs {H : Hp} {N : List Str} {l : Recs} (e : Value → Bool) (he : ∀ b l', H b = some (.dK (kvOf l')) → e (.ref b) = decide (l' = l)) : ∀ {ys : List V} {ls : List Recs} {us : List Value}, Paired (Kvs H N) ys ls → Vals ys us → us.any e = ls.any fun l' => decide (l' = l)
  | _, _, _, .nil, r => by cases r; rfl
  | _, _, _, .cons ⟨a, e1, e2, e3⟩ p, r => by
    cases r with
    | cons r0 r =>
      subst e1
      cases r0
      rw [List.any_cons, List.any_cons, he _ _ e2, any_kvs e he p r]
theorem mem_kvs {H : Hp} {N : List Str} : ∀ {ys : List V} {ls : List Recs} {us : List Value}, Paired (Kvs H N) ys ls → Vals ys us → ∀ v ∈ us, ∃ b l', v = .ref b ∧ H b = some (.dK (kvOf l')) ∧ names l' = N
  | _, _, _, .nil, r => by cases r; intro v h; cases h
  | _, _, _, .cons ⟨a, e1, e2, e3⟩ p, r => by
    cases r with
    | cons r0 r =>
      subst e1
      cases r0
      intro v h
      rcases List.mem_cons.mp h with z | z
      · exact ⟨a, _, z, e2, e3⟩
      · exact mem_kvs p r v z
open Classical in
theorem op_notInLD (hu : X.A.units + 1 < cLine) : OpR X (compareOp .NotIn) rNotInLD := by
  intro pins s σ H x y v u Q I rx ry h
  obtain ⟨a, b, l, ys, ls, N, rfl, rfl, ea, en, eb, p, nd, q⟩ := h
  obtain rfl : v = Value.ref a := rx
  obtain rfl : u = Value.ref b := ry
  obtain ⟨z2, vs, n2, r2, d2⟩ := I.hok b _ eb
  obtain ⟨e, he⟩ : ∃ e : Value → Bool, ∀ b l', H b = some (.dK (kvOf l')) → e (.ref b) = decide (l' = l) := by
    refine ⟨fun v => match v with | .ref b => @decide (H b = some (.dK (kvOf l))) (propDecidable _) | _ => false, fun b l' hb => ?_⟩
    show @decide (H b = some (.dK (kvOf l))) (propDecidable _) = _
    by_cases z : l' = l
    · rw [@decide_eq_true _ (propDecidable _) (by rw [hb, z]), decide_eq_true z]
    · rw [@decide_eq_false _ (propDecidable _) (fun y => z (kvOf_inj (by rw [hb] at y; injection (Option.some.inj y)))), decide_eq_false z]
  refine notIn_listW e ⟨_, d2, rfl, n2, rfl⟩ (fun v hv => ?_) (fin_bl I q ?_)
  · obtain ⟨c, l', rfl, e1, e2⟩ := mem_kvs p r2 v (by simpa using hv)
    rw [he _ _ e1]
    exact eqAt_kv I (by show X.A.units + 1 < _; exact hu) e1 ea (e2.trans en.symm) (by rw [e2]; exact nd)
  · rw [show vs.toArray.any e = vs.any e by simp, any_kvs e he p r2]
end

/-! ### what a crash leaves -/
def cho (i : Nat) (st : Recs × Recs) (ws : List Evt) : Nat → Recs × Recs
  | 0 => st
  | j + 1 => match ws[j]? with
    | some e => if i / 2 ^ j % 2 = 1 then app (cho i st ws j) e else cho i st ws j
    | none => cho i st ws j
theorem cho_some {i : Nat} {st : Recs × Recs} {ws : List Evt} {j : Nat} {e : Evt} (h : ws[j]? = some e) : cho i st ws (j + 1) = if i / 2 ^ j % 2 = 1 then app (cho i st ws j) e else cho i st ws j := by simp only [cho, h]
theorem cho_none {i : Nat} {st : Recs × Recs} {ws : List Evt} {j : Nat} (h : ws[j]? = none) : cho i st ws (j + 1) = cho i st ws j := by simp only [cho, h]
theorem cho_inv (i : Nat) (st : Recs × Recs) (ws : List Evt) : ∀ j, names (cho i st ws j).1 = names st.1 ∧ (cho i st ws j).1.length = st.1.length ∧ (cho i st ws j).2.length ≤ st.2.length + j
  | 0 => ⟨rfl, rfl, Nat.le_refl _⟩
  | j + 1 => by
    obtain ⟨h1, h2, h3⟩ := cho_inv i st ws j
    cases q : ws[j]? with
    | none => rw [cho_none q]; exact ⟨h1, h2, by omega⟩
    | some e =>
      rw [cho_some q]
      by_cases z : i / 2 ^ j % 2 = 1
      · rw [if_pos z]
        obtain ⟨k1, k2⟩ := len_app (cho i st ws j) e
        exact ⟨(names_app _ e).trans h1, k1.trans h2, by omega⟩
      · rw [if_neg z]
        exact ⟨h1, h2, by omega⟩
theorem cho_log (i : Nat) {st : Recs × Recs} {ws : List Evt} (h : ∀ p ∈ st.2, p.1 ∈ names st.1) (k : ∀ e ∈ ws, evOk st.1 e) : ∀ j, ∀ p ∈ (cho i st ws j).2, p.1 ∈ names (cho i st ws j).1
  | 0 => h
  | j + 1 => by
    have ih := cho_log i h k j
    cases q : ws[j]? with
    | none => rw [cho_none q]; exact ih
    | some e =>
      rw [cho_some q]
      by_cases z : i / 2 ^ j % 2 = 1
      · rw [if_pos z]
        exact app_log ih (evOk_names (cho_inv i st ws j).1 (k e (List.mem_of_getElem? q)))
      · rw [if_neg z]
        exact ih
/-- the states in the law's order -/
def crs (st : Recs × Recs) (ws : List Evt) : List (Recs × Recs) := ws.foldl (fun sts e => sts ++ sts.map fun s => app s e) [st]
theorem crs_snoc (st : Recs × Recs) (ws : List Evt) (e : Evt) : crs st (ws ++ [e]) = crs st ws ++ (crs st ws).map fun s => app s e := by
  unfold crs
  rw [List.foldl_append]
  rfl
theorem crs_len (st : Recs × Recs) : ∀ (n : Nat) (ws : List Evt), ws.length = n → (crs st ws).length = 2 ^ n
  | 0, ws, h => by rw [List.length_eq_zero_iff.mp h]; rfl
  | n + 1, ws, h => by
    obtain ⟨w, e, rfl⟩ : ∃ w e, ws = w ++ [e] := ⟨ws.dropLast, ws.getLast (by intro z; rw [z] at h; cases h), (List.dropLast_concat_getLast _).symm⟩
    have hw : w.length = n := by rw [List.length_append] at h; simpa using h
    rw [crs_snoc, List.length_append, List.length_map, crs_len st n w hw, Nat.pow_succ]
    omega
theorem cho_app (i : Nat) (st : Recs × Recs) (ws us : List Evt) : ∀ j, j ≤ ws.length → cho i st (ws ++ us) j = cho i st ws j
  | 0, _ => rfl
  | j + 1, h => by
    unfold cho
    rw [List.getElem?_append_left (by omega), cho_app i st ws us j (by omega)]
theorem cho_low (i k : Nat) (st : Recs × Recs) (ws : List Evt) : ∀ j, j ≤ k → cho (i + 2 ^ k) st ws j = cho i st ws j
  | 0, _ => rfl
  | j + 1, h => by
    have e : (i + 2 ^ k) / 2 ^ j % 2 = i / 2 ^ j % 2 := by
      have z : (2 : Nat) ^ k = 2 ^ j * (2 * 2 ^ (k - j - 1)) := by
        rw [← Nat.pow_succ', ← Nat.pow_add]
        congr 1; omega
      rw [z, Nat.add_mul_div_left _ _ (Nat.two_pow_pos j), Nat.add_mul_mod_self_left]
    unfold cho
    rw [e, cho_low i k st ws j (by omega)]
theorem crs_at (st : Recs × Recs) : ∀ (n : Nat) (ws : List Evt), ws.length = n → ∀ i, i < 2 ^ n → (crs st ws)[i]? = some (cho i st ws n)
  | 0, ws, h, i, hi => by
    rw [List.length_eq_zero_iff.mp h]
    have : i = 0 := by simpa using hi
    subst this
    rfl
  | n + 1, ws, h, i, hi => by
    obtain ⟨w, e, rfl⟩ : ∃ w e, ws = w ++ [e] := ⟨ws.dropLast, ws.getLast (by intro z; rw [z] at h; cases h), (List.dropLast_concat_getLast _).symm⟩
    have hw : w.length = n := by rw [List.length_append] at h; simpa using h
    have hl := crs_len st n w hw
    rw [crs_snoc]
    have e1 : (w ++ [e])[n]? = some e := by rw [List.getElem?_append_right (by omega), hw]; simp
    rw [cho_some e1]
    rw [cho_app i st w [e] n (by omega)]
    by_cases hlt : i < 2 ^ n
    · rw [List.getElem?_append_left (by omega), crs_at st n w hw i hlt, Nat.div_eq_of_lt hlt, if_neg (by decide)]
    · have hge : 2 ^ n ≤ i := Nat.le_of_not_lt hlt
      rw [Nat.pow_succ] at hi
      obtain ⟨d, rfl⟩ : ∃ d, i = d + 2 ^ n := ⟨i - 2 ^ n, by omega⟩
      have hd : d < 2 ^ n := by omega
      rw [List.getElem?_append_right (by omega), hl, Nat.add_sub_cancel, List.getElem?_map, crs_at st n w hw d hd, cho_low d n st w n (Nat.le_refl _), Nat.add_div_right _ (Nat.two_pow_pos n), Nat.div_eq_of_lt hd, if_pos (by decide)]
      rfl
/-! ### the generator -/
section
variable {P : Program} {w : World} {K : PySem.W.Frag} {mg : Str → Option Value} {base : Heap}
open GX PyProof.Rows in
theorem Fun.okG {x qual : Str} {st : Stmt} {f : Addr} {fd : FuncData} {N ps : List Str} {k : Nat} {sp : SpX} (F : Fun K x qual st f fd) (S : GScope N ps (defScope st)) (hnc : ∀ y ∈ (defScope st).names, y.2 ≠ .cell) (len : ∀ vs H J γ, sp vs H J γ → vs.length = ps.length)
    (hbody : ∀ (cdv : Value) (A : Around) (outer : List Env) (s : Shared) (H : Hp) (vs : List V) (J : GIt) (γ : J.Γ) (pn : List (Addr × Obj)), Room k (A.deeper (envOfC qual (defScope st) s.heap.objs.size f cdv)) → sp vs H J γ →
      ∃ t : TX J, XSs (gX P w K mg base N qual (defScope st) f cdv A outer s H pn) (defBody st) t ∧ ∀ H2, J.rdy γ H2 → t { nx := fun γ Hw _ H' => J.fin γ Hw H', rt := fun γ Hw v H' => v = .non ∧ J.fin γ Hw H' } γ H2 (start N vs) H2) :
    XFn P w K mg base (k + 1) f fd ps sp := by
  obtain ⟨oc, od, kV, doc, pm, an, cdv, ct, osl, rfl, lk, hcd⟩ := F.ex
  exact xfn_of lk hcd S hnc len (hbody cdv)
structure HasGM (P : Program) (w : World) (K : PySem.W.Frag) (mg : Str → Option Value) (base : Heap) (k : Nat) (C : Addr) (m : Str) (ps : List Str) (sp : GX.SpX) : Prop where
  ex : ∃ (f : Addr) (fd : FuncData), Meth K C m f ∧ GX.XFn P w K mg base k f fd ps sp ∧ Binds K fd ps []
theorem pgx_methH0 {X : Cx} {k : Nat} {C : Addr} {m : Str} {ps : List Str} {sp : GX.SpX} {o : Expr} {ta : TE} {apos pos : Pos} {pl : Sem Bool} (he : PE X o ta) (c : Cls X.K C) (M : HasGM X.prog X.w X.K X.mg X.base k C m ps sp) (hr : Room k X.A)
    (ht : eval (.Call (.Attribute o m apos) [] [] pos) X.env = (do
      let ov ← eval o X.env
      standAt apos.atName
      let (f, first) ← holding [ov] (getMethod ov m pl)
      callWith pos f first (backTo pos (starEach [] X.env)) (backToKw pos (keywordEach [] X.env))) := by rfl) : GX.PGX X k (.Call (.Attribute o m apos) [] [] pos) (GX.tMethX C m sp ta tNil) := by
  obtain ⟨f, fd, hm, F, b⟩ := M.ex
  exact GX.pgx_meth0 (pl := pl) he c hm F hr b ht
open GX in
/-- for over a walk in a generator's body -/
theorem xfor_it {J : GIt} {It : It} {n : Nat} {G : Hp → Prop} {Y : Nat → Hp → V → Hp → Prop} (w : Walk It n G Y) {g : Th J → TG} {tb : TX J} {D : GEn J} {γ : J.Γ} {Hw H : Hp} {σ : L2.St} (Pv : Nat → J.Γ → Hp → L2.St → Hp → Prop) (h0 : Pv 0 γ Hw σ H) (hG : ∀ i γ Hw σ H, i ≤ n → Pv i γ Hw σ H → G H)
    (hs : ∀ i x γ Hw σ H H', i < n → Pv i γ Hw σ H → Y i H x H' → ∀ θ : Th J, g θ x σ H' fun σ2 H2 => tb { D with nx := Pv (i + 1), ct := Pv (i + 1), bk := D.nx } γ Hw σ2 H2) (hd : ∀ γ Hw σ H, Pv n γ Hw σ H → D.nx γ Hw σ H) :
    ∃ W : Nat → Nat → J.Γ → Hp → L2.St → Hp → Prop, (∃ m, W 0 m γ Hw σ H) ∧ ∀ i m γ Hw σ H, W i m γ Hw σ H →
      (It.stop i H ∧ D.nx γ Hw σ H) ∨ (It.go i H ∧ ∃ N : J.Γ → Hp → L2.St → Hp → Prop, (∀ γ' Hw' σ' H', N γ' Hw' σ' H' → ∃ m', m' < m ∧ W (i + 1) m' γ' Hw' σ' H') ∧ ∀ x H', It.yld i H x H' → ∀ θ : Th J, g θ x σ H' fun σ2 H2 => tb { D with nx := N, ct := N, bk := D.nx } γ Hw σ2 H2) := by
  refine ⟨fun i m γ Hw σ H => m = n - i ∧ i ≤ n ∧ Pv i γ Hw σ H, ⟨n, by simp, Nat.zero_le _, h0⟩, ?_⟩
  rintro i m γ Hw σ H ⟨rfl, hi, p⟩
  have q := hG i γ Hw σ H hi p
  by_cases hlt : i < n
  · exact .inr ⟨w.goes i H hlt q, Pv (i + 1), fun γ' Hw' σ' H' p' => ⟨n - (i + 1), by omega, rfl, hlt, p'⟩, fun x H' y => hs i x γ Hw σ H H' hlt p (w.yields i H x H' hlt q y)⟩
  · have e : i = n := by omega
    subst e
    exact .inl ⟨w.stops H q, hd γ Hw σ H p⟩
end
abbrev sSCr : Stmt := inClass (topS 16) 6
abbrev NSCr : List Str := ["self", "number", "state", "at", "event", "found"]
abbrev PSCr : List Str := ["self"]
theorem scSCr : GScope NSCr PSCr (defScope sSCr) := ⟨rfl, rfl, rfl, by decide +kernel, rfl, by decide +kernel, by decide +kernel⟩
theorem StoreAt.sub {C : Addr} {av av' : Addr → Prop} {H : Hp} {S wl : Addr} {l g : Recs} {ws : List Evt} (h : StoreAt C av H S wl l g ws) (hs : ∀ b, av' b → av b) : StoreAt C av' H S wl l g ws := by
  obtain ⟨dx, a, xs, e1, ⟨dv, dl, ys, u1, u2, u3, u4, u5, u6⟩, e3, e4, e5, e6⟩ := h
  exact ⟨dx, a, xs, e1, ⟨dv, dl, ys, u1, u2, u3, u4, fun z => u5 (hs _ z), fun z => u6 (hs _ z)⟩, e3, e4, e5, fun z => e6 (hs _ z)⟩
def crIt (C S wl : Addr) (l g : Recs) (ws : List Evt) : GX.GIt where
  Γ := Nat
  rank i := 2 ^ ws.length - i
  rdy _ H := StoreAt C (fun _ => False) H S wl l g ws
  yld i H x H' i' := i' = i + 1 ∧ i < 2 ^ ws.length ∧ ∃ p wl', x = .ref p ∧ Same H H' ∧ H p = none ∧ H wl' = none ∧ ∀ av, Av av H → StoreAt C av H S wl l g ws → StoreAt C av H' p wl' (cho i (l, g) ws ws.length).1 (cho i (l, g) ws ws.length).2 []
  fin i H H' := H' = H ∧ i = 2 ^ ws.length
  dec := by
    rintro i H x H' i' ⟨rfl, h, _⟩
    omega
inductive spCr (C : Addr) : GX.SpX
  | mk {H : Hp} {S wl : Addr} {l g : Recs} {ws : List Evt} : StoreAt C (fun _ => False) H S wl l g ws → WellS l g ws → ws.length ≤ 20 → spCr C [.ref S] H (crIt C S wl l g ws) (0 : Nat)
structure TxG (mg : Str → Option Value) : Prop where
  n_range : mg "range" = none
  n_enumerate : mg "enumerate" = none
  n_len : mg "len" = none
section
variable {P : Program} {w : World} {K : PySem.W.Frag} {mg : Str → Option Value} {base : Heap} {C : Addr}
theorem bit_of (i j : Nat) : Builtin.bitAnd ((0 + (i : Int)) / 2 ^ ((j : Nat) : Int).toNat) 1 = ((i / 2 ^ j % 2 : Nat) : Int) := by
  have e : (0 + (i : Int)) / 2 ^ ((j : Nat) : Int).toNat = ((i / 2 ^ j : Nat) : Int) := by
    rw [Int.toNat_natCast, Int.zero_add]
    push_cast
    rfl
  rw [e]
  have h : Builtin.bitAnd ((i / 2 ^ j : Nat) : Int) 1 = (((i / 2 ^ j) &&& 1 : Nat) : Int) := by
    have h1 : (0 : Int) ≤ ((i / 2 ^ j : Nat) : Int) := Int.natCast_nonneg _
    simp only [Builtin.bitAnd, h1, decide_true, Int.toNat_natCast]
    rfl
  rw [h, Nat.and_one_is_mod]
theorem ok_SCr {f : Addr} {fd : FuncData} (F : Fun K "crashes" "Store.crashes" sSCr f fd) (T : TxG mg) (TC : TxC K C) (GA : Has P w K mg base CX0 1 "applied" PApp spApp) (HC : HasC P w K mg base CX0 3 "Store" C PSInit (spSInit C)) : GX.XFn P w K mg base 6 f fd PSCr (spCr C) := by
  refine Fun.okG F scSCr (by decide +kernel) (fun vs H J γ h => ?_) (fun cdv A outer s H vs J γ pn hr h => ?_)
  · cases h; rfl
  cases h with
  | @mk H S wl l g ws st0 wf hws =>
    have hr1 := hr.mono (j := 1) (by decide)
    have hr4 := hr.mono (j := 4) (by decide)
    open GX in
    refine ⟨_, (xss_one (xs_for (fun _ => (pi_range1 (by rfl) T.n_range (pa_cons (pe_op op_shl pe_int (pe_callB call_len_seq (by rfl) T.n_len bb_len (pa_cons (pe_fld (pv 0) rfl) pa_nil))) pa_nil))) (fun _ => (pg_name (i := 1) scSCr.nd rfl (Or.inl rfl)))
  (xss_cons (xs_ps (fun _ => (ps_set (i := 2) scSCr.nd rfl (Or.inl rfl) (pe_fld (pv 0) rfl))))
  (xss_cons (xs_ps (fun _ => (ps_for PassesOwn.never rfl (pi_enum (by rfl) T.n_enumerate (pa_cons (pe_fld (pv 0) rfl) pa_nil)) (pg_tup (by rfl) (pgs_cons (pg_name (i := 3) scSCr.nd rfl (Or.inl rfl)) (pgs_cons (pg_name (i := 4) scSCr.nd rfl (Or.inl rfl)) pgs_nil)))
  (pss_one (ps_if (pt_cmpR op_eq (pe_op op_and (pe_op op_shr (pv 1) (pv 3)) pe_int) pe_int (nomark _))
  (pss_one (ps_set (i := 2) scSCr.nd rfl (Or.inl rfl) (pe_callH GA hr1 rfl pass0 (pa_cons (pv 2) (pa_cons (pv 4) pa_nil)))))
  pss_nil)))))
  (xss_cons (xs_ps (fun _ => (ps_set (i := 5) scSCr.nd rfl (Or.inl rfl) (pe_makeH HC hr4 rfl pass0 (pa_cons (pe_ix (r := rIxT K) ix_tup (pv 2) pe_int (fun _ _ => rfl)) pa_nil)))))
  (xss_cons (xs_ps (fun _ => (ps_fld (pv 5) (pv 2) rfl)))
  (xss_one (xs_yield (fun _ => (pv 5)))))))))), fun H2 hrd => ?_⟩
    intro θ
    have hrd0 : StoreAt C (fun _ => False) H2 S wl l g ws := hrd
    obtain ⟨dx, a, xs, e1, ⟨dv, dl, ys, u1, u2, u3, u4, u5, u6⟩, e3, e4, e5, e6⟩ := hrd
    have lx : xs.length = ws.length := Paired.length e4
    refine ⟨_, rfl, S, C, dx, _, _, rfl, e1, TC.cl, TC.nW, rfl, wl, _, rfl, .inl (SqL.of e3), ?_⟩
    rw [lx]
    have p20 : (2 : Int) ^ ws.length ≤ 2 ^ 20 := by exact_mod_cast Nat.pow_le_pow_right (by decide) hws
    have p0 : (0 : Int) < 2 ^ ws.length := by exact_mod_cast Nat.two_pow_pos ws.length
    refine ⟨_, _, rfl, rfl, ⟨by omega, by omega, by decide⟩, ?_⟩
    have e2n : (1 : Int) * 2 ^ ((ws.length : Nat) : Int).toNat = 2 ^ ws.length := by rw [Int.toNat_natCast, Int.one_mul]
    have e3n : ((1 : Int) * 2 ^ ((ws.length : Nat) : Int).toNat).toNat = 2 ^ ws.length := by
      have : ((2 : Int) ^ ws.length) = ((2 ^ ws.length : Nat) : Int) := by push_cast; rfl
      rw [e2n, this, Int.toNat_natCast]
    refine ⟨_, rfl, by rw [e2n]; omega, by rw [e2n]; omega, ?_⟩
    refine xfor_it walk_range (fun i γ Hw σ H' => γ = i ∧ H' = Hw ∧ (∃ x1 x2 x3 x4 x5 : Option V, σ = [some (.ref S), x1, x2, x3, x4, x5]) ∧ StoreAt C (fun _ => False) H' S wl l g ws) ⟨rfl, rfl, ⟨_, _, _, _, _, rfl⟩, hrd0⟩ (fun _ _ _ _ _ _ _ => trivial) ?_ ?_
    · rintro i x γ Hw σ H3 H3' hi ⟨eγ, eH, ⟨x1, x2, x3, x4, x5, rfl⟩, st3⟩ ⟨eH', rfl⟩ θ
      obtain rfl : i = γ := eγ.symm
      obtain rfl : Hw = H3 := eH.symm
      obtain rfl : H3' = Hw := eH'
      rw [e3n] at hi
      obtain ⟨dx, a, xs, e1, ⟨dv, dl, ys, u1, u2, u3, u4, u5, u6⟩, e3, e4, e5, e6⟩ := id st3
      have lx : xs.length = ws.length := Paired.length e4
      intro θ
      refine ⟨_, rfl, S, C, dx, _, _, rfl, e1, TC.cl, TC.nS, rfl, ?_⟩
      intro θ
      refine ⟨_, rfl, S, C, dx, _, _, rfl, e1, TC.cl, TC.nW, rfl, wl, xs, rfl, SqL.of e3, ?_⟩
      obtain ⟨av, eav⟩ : ∃ av : Addr → Prop, av = fun b => (∃ o, H3' b = some o) ∧ b ≠ dv ∧ b ≠ dl := ⟨_, rfl⟩
      have hav : Av av H3' := fun b hb => by rw [eav] at hb; exact hb.1
      refine for_it walk_enum (fun j σ H' => ∃ (t : Addr) (x3 x4 x5 : Option V), σ = [some (.ref S), some (.int (0 + (i : Int))), some (.ref t), x3, x4, x5] ∧ Same H3' H' ∧ StateAt av H' t (cho i (l, g) ws j).1 (cho i (l, g) ws j).2) ⟨a, x3, x4, x5, rfl, Same.refl _, ⟨dv, dl, ys, u1, u2, u3, u4, fun z => by rw [eav] at z; exact z.2.1 rfl, fun z => by rw [eav] at z; exact z.2.2 rfl⟩⟩ (fun j σ H' _ h' => by obtain ⟨_, _, _, _, _, s', _⟩ := h'; exact SqL.of (s' _ _ e3)) ?_ ?_
      · rintro j v σ H4 H4' hj ⟨t, x3, x4, x5, rfl, s4, q4⟩ ⟨T, y, z, rfl, hT, rfl, hy, hz⟩
        cases hy
        have hz : xs[j]? = some z := hz
        obtain ⟨ev, hev, b, rfl, eb⟩ := Paired.at e4 hz
        have hj' : j < ws.length := by omega
        refine ⟨T, _, rfl, SqT.of upd_same, rfl, _, _, rfl, _, _, rfl, rfl, ?_⟩
        have s5 := same_new (o := .tup [.int ((j : Nat) : Int), .ref b]) hT
        refine ⟨_, rfl, _, rfl, _, _, rfl, rfl, (by show (0 : Int) ≤ (j : Int); omega), _, _, rfl, rfl, ?_⟩
        obtain ⟨k1, k2, k3⟩ := cho_inv i (l, g) ws j
        have w2 := wf.2.1
        have w1 := wf.1.2.1
        refine ⟨rfl, _, rfl, ?_⟩
        by_cases hb : i / 2 ^ j % 2 = 1
        · refine iteS (by show decide (V.int (Builtin.bitAnd ((0 + (i : Int)) / 2 ^ ((j : Nat) : Int).toNat) 1) = V.int 1) = true; rw [bit_of, hb]; decide +kernel) ?_
          refine ⟨_, rfl, _, rfl, av, t, b, _, _, ev, rfl, (hav.same s4).same s5, q4.same s5, s5 _ _ (s4 _ _ eb), evOk_names k1 (wf.2.2.2 ev (List.mem_of_getElem? hev)), by rw [k2]; exact w1, by simp only at k3; omega, fun a' H6 s6 q6 => ?_⟩
          refine ⟨a', _, _, _, rfl, (s4.trans s5).trans s6, ?_⟩
          rw [cho_some hev, if_pos hb]
          exact q6
        · refine iteE (by
            rcases Nat.mod_two_eq_zero_or_one (i / 2 ^ j) with z | z
            · show decide (V.int (Builtin.bitAnd ((0 + (i : Int)) / 2 ^ ((j : Nat) : Int).toNat) 1) = V.int 1) = false; rw [bit_of, z]; decide +kernel
            · exact absurd z hb) ?_
          refine ⟨t, _, _, _, rfl, s4.trans s5, ?_⟩
          rw [cho_some hev, if_neg hb]
          exact q4.same s5
      · rintro σ H4 ⟨t, x3, x4, x5, rfl, s4, q4⟩
        intro θ
        rw [lx] at q4
        obtain ⟨k1, k2, k3⟩ := cho_inv i (l, g) ws ws.length
        obtain ⟨L, hL⟩ : ∃ L, L = cho i (l, g) ws ws.length := ⟨_, rfl⟩
        rw [← hL] at q4 k1 k2 k3
        obtain ⟨dv', dl', zs, v1, v2, v3, v4, v5, v6⟩ := id q4
        refine ⟨_, rfl, t, _, _, _, rfl, rfl, SqT.of v1, rfl, fun X dX hX hdX ne => ?_⟩
        have s5 : Same H4 (upd (upd H4 dX (.own X)) X (.ins C dX [])) := fun b o z => by
          rw [upd_ne (ne_of_none z hX), upd_ne (ne_of_none z hdX)]
          exact z
        refine ⟨fun _ => False, X, dv', dX, L.1, rfl, (fun _ z => z.elim), upd_same, s5 _ _ v2, wf.1.of_names k1 k2, fun wl' H5 hw st5 kp => ⟨rfl, ?_⟩⟩
        have s6 : Same H4 H5 := fun b o z => kp b o (s5 b o z) (ne_of_none z hX)
        obtain ⟨dx6, a6, xs6, f1, f2, f3, f4, f5, f6⟩ := st5
        intro θ
        refine ⟨_, rfl, _, rfl, X, C, dx6, _, rfl, f1, TC.cl, TC.nS, (by show 2 < 1000; decide), ?_⟩
        rw [putF_s]
        intro θ
        have hw4 : H4 wl' = none := s5.free hw
        have nX : ∀ {b : Addr} {o : HO}, H4 b = some o → b ≠ X := fun {b o} z => ne_of_none z hX
        have s7 : Same H4 (upd H5 X (.ins C dx6 (stF t wl'))) := fun b o z => by
          rw [upd_ne (nX z)]
          exact s6 b o z
        have wX : wl' ≠ X := (ne_of f1 f3 (fun z => by cases z)).symm
        have out : ∀ av : Addr → Prop, Av av H3' → StoreAt C av H3' S wl l g ws → StoreAt C av (upd H5 X (.ins C dx6 (stF t wl'))) X wl' L.1 L.2 [] := by
          intro av2 hav2 st2
          obtain ⟨dx2, a2, xs2, g1, ⟨dv2, dl2, ys2, h1, h2, h3, h4, h5, h6⟩, g3, g4, g5, g6⟩ := st2
          rw [e1] at g1
          injection g1 with g1
          injection g1 with _ _ g1
          injection g1 with g1 _
          injection g1 with _ g1
          injection g1 with g1
          subst g1
          rw [u1] at h1
          cases h1
          have nav : ∀ b, ¬ av b → ¬ av2 b := fun b hb hb2 => hb (by
            rw [eav]
            exact ⟨hav2 b hb2, fun z => h5 (z ▸ hb2), fun z => h6 (z ▸ hb2)⟩)
          refine ⟨dx6, t, [], upd_same, ⟨dv', dl', zs, s7 _ _ v1, s7 _ _ v2, s7 _ _ v3, Paired.mapP v4 (fun _ _ z => z.same s7), nav _ v5, nav _ v6⟩, by rw [upd_ne wX]; cases f4; exact f3, .nil, fun dv3 dl3 z => ?_, fun z => ?_⟩
          · rw [s7 _ _ v1] at z
            cases z
            exact ne_of_none v3 hw4
          · obtain ⟨o, ho⟩ := hav2 _ z
            rw [s4 _ _ ho] at hw4
            cases hw4
        refine ⟨_, rfl, i + 1, ⟨rfl, hi, X, wl', rfl, s4.trans s7, s4.free hX, s4.free hw4, ?_⟩, fun H8 hr8 => ⟨rfl, rfl, ⟨_, _, _, _, _, rfl⟩, hr8⟩⟩
        rw [← hL]
        exact out
    · rintro γ Hw σ H3 ⟨rfl, rfl, _, _⟩
      exact ⟨rfl, e3n⟩
end

/-! ### the law's own crashes -/
abbrev sLApp : Stmt := topS 24
abbrev NLApp : List Str := ["_law_state", "_law_event_here", "_law_values", "_law_log", "_law_found", "_law_name"]
abbrev PLApp : List Str := ["_law_state", "_law_event_here"]
theorem scLApp : FnScope NLApp PLApp (defScope sLApp) := ⟨rfl, rfl, rfl, by decide +kernel, rfl, by decide +kernel, by decide +kernel⟩
abbrev sLCr : Stmt := topS 25
abbrev NLCr : List Str := ["_law_values", "_law_events", "_law_durable", "_law_pending", "_law_event_here", "_law_one", "_law_states", "_law_state"]
abbrev PLCr : List Str := ["_law_values", "_law_events"]
theorem scLCr : FnScope NLCr PLCr (defScope sLCr) := ⟨rfl, rfl, rfl, by decide +kernel, rfl, by decide +kernel, by decide +kernel⟩
abbrev sLRec : Stmt := topS 26
abbrev NLRec : List Str := ["_law_state", "_law_values", "_law_log", "_law_found", "_law_name", "_law_k", "_law_record"]
abbrev PLRec : List Str := ["_law_state"]
theorem scLRec : FnScope NLRec PLRec (defScope sLRec) := ⟨rfl, rfl, rfl, by decide +kernel, rfl, by decide +kernel, by decide +kernel⟩
abbrev sEvent : Stmt := topS 27
abbrev NEvent : List Str := ["_law_pool_here", "_law_values", "_law_names_here", "_law_choice", "_law_name", "_law_worth"]
abbrev PEvent : List Str := ["_law_pool_here", "_law_values", "_law_names_here"]
theorem scEvent : FnScope NEvent PEvent (defScope sEvent) := ⟨rfl, rfl, rfl, by decide +kernel, rfl, by decide +kernel, by decide +kernel⟩
theorem kvOf_take {l : Recs} {i : Nat} {p : Str × Int} (h : l[i]? = some p) (nd : (names l).Nodup) : putK (kvOf (l.take i)) (Sum.inr p.1) (V.int p.2) = kvOf (l.take (i + 1)) := by
  have no : valV (kvOf (l.take i)) (Sum.inr p.1) = none := by
    cases q : valV (kvOf (l.take i)) (Sum.inr p.1) with
    | none => rfl
    | some v =>
      have m := valV_in q
      unfold kvOf at m
      rw [List.map_map] at m
      obtain ⟨x, hx, e⟩ := List.mem_map.mp m
      have e : x.1 = p.1 := Sum.inr.inj e
      obtain ⟨j, hj, rfl⟩ := List.mem_iff_getElem.mp hx
      rw [List.length_take] at hj
      rw [List.getElem_take] at e
      obtain ⟨hi, rfl⟩ := List.getElem?_eq_some_iff.mp h
      have z := (List.getElem_inj (xs := names l) (i := j) (j := i) (h₀ := by unfold names; rw [List.length_map]; omega) (h₁ := by unfold names; rw [List.length_map]; exact hi) nd).mp (by simp [names, e])
      omega
  rw [putK_new _ no, take_snoc h]
  unfold kvOf
  rw [List.map_append]
  rfl
theorem kvOf_val {l : Recs} {i : Nat} {p : Str × Int} (hp : l[i]? = some p) (nd : (names l).Nodup) : valV (kvOf l) (Sum.inr p.1) = some (V.int p.2) := by
  have mn : p.1 ∈ names l := List.mem_map.mpr ⟨p, List.mem_of_getElem? hp, rfl⟩
  rw [gR_val mn, gR_mem nd (List.mem_of_getElem? hp)]
theorem kvOf_at {l : Recs} {i : Nat} {k : Key} {v : V} (h : (kvOf l)[i]? = some (k, v)) : ∃ p, l[i]? = some p ∧ k = Sum.inr p.1 ∧ v = V.int p.2 := by
  unfold kvOf at h
  rw [List.getElem?_map] at h
  cases q : l[i]? with
  | none => rw [q] at h; cases h
  | some p => rw [q] at h; cases h; exact ⟨p, rfl, rfl, rfl⟩
def spLApp : Sp := fun vs H Q _ => ∃ (av : Addr → Prop) (a e : Addr) (l g : Recs) (ev : Evt), vs = [.ref a, .ref e] ∧ Av av H ∧ StateAt av H a l g ∧ H e = some (.tup (evV ev)) ∧ evOk l ev ∧ (names l).Nodup ∧ l.length ≤ 900 ∧ g.length < 900 ∧
  ∀ (a' : Addr) (H' : Hp), Same H H' → StateAt av H' a' (app (l, g) ev).1 (app (l, g) ev).2 → Q (.ref a') H'
section
variable {P : Program} {w : World} {K : PySem.W.Frag} {mg : Str → Option Value} {base : Heap} {kw C pp : Addr}
theorem ok_LApp {f : Addr} {fd : FuncData} (F : Fun K "_law_applied" "_law_applied" sLApp f fd) : FnOk P w K mg base CX0 1 f fd PLApp spLApp := by
  refine F.ok scLApp (fun vs H Q E h => ?_) (fun cdv A outer s H vs Q E hr h => ?_)
  · obtain ⟨av, a, e, l, g, ev, rfl, _⟩ := h
    rfl
  · obtain ⟨av, a, e, l, g, ev, rfl, hav, ⟨dv, dl, xs, e1, e2, e3, e4, e5⟩, ee, ok, nd, hl, hg, k⟩ := h
    have hu := hu_of hr
    refine ⟨_, (pss_cons (ps_asg (pv 0) (pg_tup (by rfl) (pgs_cons (pg_name (i := 2) scLApp.nd rfl (Or.inl rfl)) (pgs_cons (pg_name (i := 3) scLApp.nd rfl (Or.inl rfl)) pgs_nil))))
  (pss_cons (ps_if (pt_cmpR op_eq (pe_ix (r := rIxT K) ix_tup (pv 1) pe_int (fun _ _ => rfl)) pe_str (nomark _))
  (pss_one (ps_ret (pe_tup (pa_cons (pv 2) (pa_cons (pe_op op_cat (pv 3) (pe_lst (pa_cons (pe_slice sl_tup (pv 1) (po_some pe_int) po_none) pa_nil))) pa_nil)))))
  pss_nil)
  (pss_cons (ps_if (pt_cmpR op_eq (pe_ix (r := rIxT K) ix_tup (pv 1) pe_int (fun _ _ => rfl)) pe_str (nomark _))
  (pss_one (ps_ret (pe_tup (pa_cons (pv 2) (pa_cons (pe_lst pa_nil) pa_nil)))))
  pss_nil)
  (pss_cons (ps_set (i := 4) scLApp.nd rfl (Or.inl rfl) pe_dnewK)
  (pss_cons (ps_lock (ps_for PassesOwn.never rfl (pi_keys (pv 2)) (pg_name (i := 5) scLApp.nd rfl (Or.inl rfl))
  (pss_one (ps_dput hu (pv 4) (pv 5) (pe_dget hu (pv 2) (pv 5) (fun _ _ => rfl)) rfl))))
  (pss_cons (ps_if (pt_cmpR op_eq (pe_ix (r := rIxT K) ix_tup (pv 1) pe_int (fun _ _ => rfl)) pe_str (nomark _))
  (pss_one (ps_dput hu (pv 4) (pe_ix (r := rIxT K) ix_tup (pv 1) pe_int (fun _ _ => rfl)) (pe_ix (r := rIxT K) ix_tup (pv 1) pe_int (fun _ _ => rfl)) rfl))
  pss_nil)
  (pss_one (ps_ret (pe_tup (pa_cons (pv 4) (pa_cons (pv 3) pa_nil))))))))))), ?_⟩
    refine ⟨_, rfl, a, _, rfl, SqT.of e1, rfl, _, _, rfl, _, _, rfl, rfl, ?_⟩
    have lx : xs.length = g.length := Paired.length e4
    obtain ⟨x0, xr, exs⟩ := evV_ne ev
    have a0 : atI (evV ev) 0 = some (.str x0) := by rw [exs]; exact atI_nat (j := 0) rfl
    refine ⟨_, rfl, e, _, _, _, rfl, rfl, SqT.of ee, a0, rfl, _, rfl, ?_⟩
    by_cases hlog : ∃ n v, ev = .log n v
    · obtain ⟨n, v, rfl⟩ := hlog
      cases exs
      refine iteS (by decide +kernel) ?_
      refine ⟨_, rfl, _, rfl, _, rfl, _, rfl, e, _, rfl, SqT.of ee, (fun z => absurd z.1 (show ¬ HT.sIx 3 0 (some 1) = 0 by decide)), fun t1 ht1 => ?_⟩
      have ecut : cutV (evV (.log n v)) (some 1) none = [.str n, .int v] := rfl
      rw [ecut]
      refine ⟨(by show 1 ≤ sizeLine; decide), fun t2 ht2 => ?_⟩
      have s1 := same_new (o := .tup [.str n, .int v]) ht1
      have s2 := same_new (o := .lst [.ref t1]) ht2
      refine ⟨dl, t2, _, _, rfl, rfl, (s1.trans s2) _ _ e3, upd_same, Nat.le_of_lt (small1000 (by show xs.length + 1 ≤ 1000; omega)), fun q hq => ?_⟩
      have s3 := same_new (o := .lst (xs ++ [.ref t1])) hq
      refine ⟨(by show 2 ≤ sizeLine; decide), fun p hp => ?_⟩
      have s4 := same_new (o := .tup [.ref dv, .ref q]) hp
      have s5 := ((s1.trans s2).trans s3).trans s4
      exact k p _ s5 ⟨dv, q, _, upd_same, s5 _ _ e2, s4 _ _ upd_same, Paired.snoc (Paired.mapP e4 fun _ _ z => z.same s5) ⟨t1, rfl, ((s2.trans s3).trans s4) _ _ upd_same⟩, e5.1, hav.new ((s1.trans s2).free hq)⟩
    have x0l : decide (V.str x0 = V.str "log") = false := by
      cases ev with
      | log n v => exact absurd ⟨n, v, rfl⟩ hlog
      | _ => cases exs; decide +kernel
    refine iteE x0l ?_
    refine ⟨_, rfl, e, _, _, _, rfl, rfl, SqT.of ee, a0, rfl, _, rfl, ?_⟩
    by_cases hclr : ev = .clear
    · subst hclr
      cases exs
      refine iteS (by decide +kernel) ?_
      refine ⟨_, rfl, (by show 0 ≤ sizeLine; decide), fun q hq => ⟨(by show 2 ≤ sizeLine; decide), fun p hp => ?_⟩⟩
      have s1 := same_new (o := .lst []) hq
      have s2 := same_new (o := .tup [.ref dv, .ref q]) hp
      exact k p _ (s1.trans s2) ⟨dv, q, [], upd_same, (s1.trans s2) _ _ e2, s2 _ _ upd_same, .nil, e5.1, hav.new hq⟩
    have x0c : decide (V.str x0 = V.str "clear") = false := by
      cases ev with
      | clear => exact absurd rfl hclr
      | _ => cases exs; decide +kernel
    refine iteE x0c ?_
    intro q hq
    have dq := ne_of_none e2 hq
    have s0 := same_new (o := .dK []) hq
    refine ⟨dv, _, s0 _ _ e2, trivial, fun od => ?_⟩
    refine ⟨_, rfl, dv, od, rfl, .inl ⟨_, upd_same, ?_⟩⟩
    refine for_it walk_keys (fun i σ H' => ∃ x : Option V, σ = [some (.ref a), some (.ref e), some (.ref dv), some (.ref dl), some (.ref q), x] ∧ H' dv = some (.frz od (.dK (kvOf l))) ∧ H' q = some (.dK (kvOf (l.take i))) ∧ ∀ b o, H b = some o → b ≠ dv → H' b = some o) ?_ (fun i σ H' _ h' => by obtain ⟨_, _, z, _⟩ := h'; exact z) ?_ ?_
    · exact ⟨none, rfl, upd_same, by rw [upd_ne dq.symm, upd_same]; rfl, fun b o z hb => by rw [upd_ne hb, upd_ne (ne_of_none z hq)]; exact z⟩
    · rintro i v σ H1 H1' hi ⟨x, rfl, c1, c2, c3⟩ ⟨rfl, ky, u, hk, rfl⟩
      obtain ⟨p, hp, rfl, rfl⟩ := kvOf_at hk
      refine ⟨_, rfl, _, rfl, dv, _, rfl, .inl ⟨kvOf l, Sum.inr p.1, .inr ⟨od, c1⟩, rfl, (kvOf_val hp nd).symm⟩, _, rfl, _, rfl, q, _, rfl, DPut.k (k := Sum.inr p.1) c2 ?_, ?_⟩
      · unfold kvOf
        rw [List.length_map, List.length_take]
        exact small1000 (by omega)
      · refine ⟨_, rfl, by rw [upd_ne dq]; exact c1, by rw [upd_same, kvOf_take hp nd], fun b o z hb => ?_⟩
        rw [upd_ne (ne_of_none z hq)]
        exact c3 b o z hb
    · rintro σ H1 ⟨x, rfl, c1, c2, c3⟩
      refine ⟨c1, ?_⟩
      have lk : (kvOf l).length = l.length := List.length_map ..
      rw [lk, List.take_length] at c2
      obtain ⟨H2, eH2⟩ : ∃ H2, H2 = upd H1 dv (.dK (kvOf l)) := ⟨_, rfl⟩
      rw [← eH2]
      have s2 : Same H H2 := fun b o z => by
        rw [eH2]
        by_cases hb : b = dv
        · rw [hb, upd_same, ← e2, ← hb]
          exact z
        · rw [upd_ne hb]
          exact c3 b o z hb
      have q2 : H2 q = some (.dK (kvOf l)) := by rw [eH2, upd_ne dq.symm]; exact c2
      refine ⟨_, rfl, e, _, _, _, rfl, rfl, SqT.of (s2 _ _ ee), a0, rfl, _, rfl, ?_⟩
      cases ev with
      | log n v => exact absurd ⟨n, v, rfl⟩ hlog
      | clear => exact absurd rfl hclr
      | write n v =>
        cases exs
        refine iteS (by decide +kernel) ?_
        refine ⟨_, rfl, e, _, _, _, rfl, rfl, SqT.of (s2 _ _ ee), rfl, _, rfl, _, rfl, e, _, _, _, rfl, rfl, SqT.of (s2 _ _ ee), rfl, q, _, rfl, DPut.k (k := Sum.inr n) q2 ?_, ?_⟩
        · unfold kvOf
          rw [List.length_map]
          exact small1000 (by omega)
        rw [putK_kvOf v ok]
        refine ⟨_, rfl, _, rfl, (by show 2 ≤ sizeLine; decide), fun p hp => ?_⟩
        have s3 : Same H (upd H2 q (.dK (kvOf (setR l n v)))) := fun b o z => by rw [upd_ne (ne_of_none z hq)]; exact s2 b o z
        have s4 := same_new (o := .tup [.ref q, .ref dl]) hp
        have s5 := s3.trans s4
        exact k p _ s5 ⟨q, dl, xs, upd_same, s4 _ _ upd_same, s5 _ _ e3, Paired.mapP e4 (fun _ _ z => z.same s5), hav.new hq, e5.2⟩
      | flush =>
        cases exs
        refine iteE (by decide +kernel) ?_
        refine ⟨_, rfl, _, rfl, (by show 2 ≤ sizeLine; decide), fun p hp => ?_⟩
        have s4 := same_new (o := .tup [.ref q, .ref dl]) hp
        have s5 := s2.trans s4
        exact k p _ s5 ⟨q, dl, xs, upd_same, s4 _ _ q2, s5 _ _ e3, Paired.mapP e4 (fun _ _ z => z.same s5), hav.new hq, e5.2⟩
end

/-! _law_recovered, _law_crashes, _law_event -/
theorem StateAt.upd {av : Addr → Prop} {H : Hp} {a q : Addr} {l g : Recs} {zs : List V} {o : HO} (h : StateAt av H a l g) (hq : av q) (eq : H q = some (.lst zs)) : StateAt av (L2.upd H q o) a l g := by
  obtain ⟨dv, dl, xs, e1, e2, e3, e4, e5, e6⟩ := h
  have n : ∀ {b : Addr} {o' : HO}, H b = some o' → b ≠ q → L2.upd H q o b = some o' := fun {b o'} z ne => by rw [upd_ne ne]; exact z
  exact ⟨dv, dl, xs, n e1 (ne_of e1 eq (by intro z; cases z)), n e2 (ne_of e2 eq (by intro z; cases z)), n e3 (fun z => e6 (z ▸ hq)), Paired.mapP e4 (fun v r ⟨b, e, w⟩ => ⟨b, e, n w (ne_of w eq (by intro z; cases z))⟩), e5, e6⟩
theorem StateAt.sub {av av' : Addr → Prop} {H : Hp} {a : Addr} {l g : Recs} (h : StateAt av H a l g) (hs : ∀ b, av' b → av b) : StateAt av' H a l g := by
  obtain ⟨dv, dl, ys, u1, u2, u3, u4, u5, u6⟩ := h
  exact ⟨dv, dl, ys, u1, u2, u3, u4, fun z => u5 (hs _ z), fun z => u6 (hs _ z)⟩
/-- one more address to be left alone -/
theorem StateAt.add {av : Addr → Prop} {H : Hp} {a q : Addr} {l g : Recs} {o : HO} (h : StateAt av H a l g) (hq : H q = none) : StateAt (fun b => av b ∨ b = q) (L2.upd H q o) a l g := by
  obtain ⟨dv, dl, ys, u1, u2, u3, u4, u5, u6⟩ := h
  have s := same_new (o := o) hq
  exact ⟨dv, dl, ys, s _ _ u1, s _ _ u2, s _ _ u3, Paired.mapP u4 (fun _ _ z => z.same s), fun z => z.elim u5 (ne_of_none u2 hq), fun z => z.elim u6 (ne_of_none u3 hq)⟩
def DueAt (av : Addr → Prop) (H : Hp) (v : V) (st : Recs × Recs) : Prop := ∃ a, v = .ref a ∧ StateAt av H a st.1 st.2
theorem DueAt.same {av : Addr → Prop} {H H' : Hp} (s : Same H H') {v : V} {st : Recs × Recs} (h : DueAt av H v st) : DueAt av H' v st := let ⟨a, e, q⟩ := h; ⟨a, e, q.same s⟩
theorem DueAt.sub {av av' : Addr → Prop} {H : Hp} {v : V} {st : Recs × Recs} (h : DueAt av H v st) (hs : ∀ b, av' b → av b) : DueAt av' H v st := let ⟨a, e, q⟩ := h; ⟨a, e, q.sub hs⟩
theorem DueAt.add {av : Addr → Prop} {H : Hp} {q : Addr} {v : V} {st : Recs × Recs} {o : HO} (h : DueAt av H v st) (hq : H q = none) : DueAt (fun b => av b ∨ b = q) (L2.upd H q o) v st := let ⟨a, e, z⟩ := h; ⟨a, e, z.add hq⟩
theorem DueAt.upd {av : Addr → Prop} {H : Hp} {q : Addr} {v : V} {st : Recs × Recs} {zs : List V} {o : HO} (h : DueAt av H v st) (hq : av q) (eq : H q = some (.lst zs)) : DueAt av (L2.upd H q o) v st := let ⟨a, e, z⟩ := h; ⟨a, e, z.upd hq eq⟩
theorem Paired.app {α β : Type} {F : α → β → Prop} : ∀ {l₁ l₃ : List α} {l₂ l₄ : List β}, Paired F l₁ l₂ → Paired F l₃ l₄ → Paired F (l₁ ++ l₃) (l₂ ++ l₄)
  | _, _, _, _, .nil, h => h
  | _, _, _, _, .cons r t, h => .cons r (Paired.app t h)
def runE (l0 : Recs) (evs : List Evt) : Recs × Recs × List Evt := evs.foldl (fun r e => perf r.1 r.2.1 r.2.2 e) (l0, [], [])
theorem runE_snoc (l0 : Recs) (evs : List Evt) (e : Evt) : runE l0 (evs ++ [e]) = perf (runE l0 evs).1 (runE l0 evs).2.1 (runE l0 evs).2.2 e := by
  unfold runE
  rw [List.foldl_append]
  rfl
theorem runE_inv (l0 : Recs) (nd : ∀ e : Evt, True) : ∀ (n : Nat) (evs : List Evt), evs.length = n → (∀ e ∈ evs, evOk l0 e) → names (runE l0 evs).1 = names l0 ∧ (runE l0 evs).1.length = l0.length ∧ (runE l0 evs).2.1.length + (runE l0 evs).2.2.length ≤ n ∧ (∀ p ∈ (runE l0 evs).2.1, p.1 ∈ names l0) ∧ ∀ e ∈ (runE l0 evs).2.2, evOk l0 e
  | 0, evs, h, _ => by
    rw [List.length_eq_zero_iff.mp h]
    exact ⟨rfl, rfl, Nat.le_refl _, (fun _ z => nomatch z), (fun _ z => nomatch z)⟩
  | n + 1, evs, h, ok => by
    obtain ⟨w, e, rfl⟩ : ∃ w e, evs = w ++ [e] := ⟨evs.dropLast, evs.getLast (by intro z; rw [z] at h; cases h), (List.dropLast_concat_getLast _).symm⟩
    have hw : w.length = n := by rw [List.length_append] at h; simpa using h
    obtain ⟨i1, i2, i3, i4, i5⟩ := runE_inv l0 nd n w hw fun x hx => ok x (List.mem_append_left _ hx)
    have oke := ok e (List.mem_append_right _ List.mem_cons_self)
    rw [runE_snoc]
    obtain ⟨l, g, ws, eq⟩ : ∃ l g ws, runE l0 w = (l, g, ws) := ⟨_, _, _, rfl⟩
    rw [eq] at i1 i2 i3 i4 i5 ⊢
    have plain : perf l g ws e = (l, g, ws ++ [e]) → names (perf l g ws e).1 = names l0 ∧ (perf l g ws e).1.length = l0.length ∧ (perf l g ws e).2.1.length + (perf l g ws e).2.2.length ≤ n + 1 ∧ (∀ p ∈ (perf l g ws e).2.1, p.1 ∈ names l0) ∧ ∀ x ∈ (perf l g ws e).2.2, evOk l0 x := fun z => by
      rw [z]
      refine ⟨i1, i2, by rw [List.length_append]; show g.length + (ws.length + 1) ≤ _; simp only at i3; omega, i4, fun x hx => ?_⟩
      rcases List.mem_append.mp hx with q | q
      · exact i5 x q
      · rw [List.mem_singleton.mp q]; exact oke
    cases e with
    | flush =>
      obtain ⟨j1, j2, j3⟩ := apps_inv (l, g) ws
      have j4 := apps_log (ws := ws) (st := (l, g)) (fun p hp => by rw [i1]; exact i4 p hp) fun x hx => evOk_names i1 (i5 x hx)
      refine ⟨j1.trans i1, j2.trans i2, ?_, fun p hp => ?_, (fun _ z => nomatch z)⟩
      · show (apps (l, g) ws).2.length + 0 ≤ _
        simp only at i3 j3
        omega
      · have z := j4 p hp
        rw [j1] at z
        rw [← i1]
        exact z
    | log a b => exact plain rfl
    | write a b => exact plain rfl
    | clear => exact plain rfl
section
variable {P : Program} {w : World} {K : PySem.W.Frag} {mg : Str → Option Value} {base : Heap} {kw C pp : Addr}
def spLRec : Sp := fun vs H Q _ => ∃ (av : Addr → Prop) (a : Addr) (l g : Recs), vs = [.ref a] ∧ StateAt av H a l g ∧ (names l).Nodup ∧ l.length ≤ 900 ∧ g.length ≤ 900 ∧ (∀ p ∈ g, p.1 ∈ names l) ∧
  ∀ (q : Addr) (H' : Hp), Same H H' → H q = none → H' q = some (.dK (kvOf (recov l g))) → Q (.ref q) H'
theorem ok_LRec {f : Addr} {fd : FuncData} (F : Fun K "_law_recovered" "_law_recovered" sLRec f fd) (T : TxSt K mg kw) : FnOk P w K mg base CX0 1 f fd PLRec spLRec := by
  refine F.ok scLRec (fun vs H Q E h => ?_) (fun cdv A outer s H vs Q E hr h => ?_)
  · obtain ⟨av, a, l, g, rfl, _⟩ := h
    rfl
  · obtain ⟨av, a, l, g, rfl, ⟨d, gl, xs, ea, ed, eg, pg, _⟩, nd, ll, lg, mem, k⟩ := h
    have hu := hu_of hr
    have lx : xs.length = g.length := Paired.length pg
    refine ⟨_, (pss_cons (ps_asg (pv 0) (pg_tup (by rfl) (pgs_cons (pg_name (i := 1) scLRec.nd rfl (Or.inl rfl)) (pgs_cons (pg_name (i := 2) scLRec.nd rfl (Or.inl rfl)) pgs_nil))))
  (pss_cons (ps_set (i := 3) scLRec.nd rfl (Or.inl rfl) pe_dnewK)
  (pss_cons (ps_lock (ps_for PassesOwn.never rfl (pi_keys (pv 1)) (pg_name (i := 4) scLRec.nd rfl (Or.inl rfl))
  (pss_one (ps_dput hu (pv 3) (pv 4) (pe_dget hu (pv 1) (pv 4) (fun _ _ => rfl)) rfl))))
  (pss_cons (ps_for PassesOwn.never rfl (pi_range1 (by rfl) T.n_range (pa_cons (pe_callB call_len_seq (by rfl) T.n_len bb_len (pa_cons (pv 2) pa_nil)) pa_nil)) (pg_name (i := 5) scLRec.nd rfl (Or.inl rfl))
  (pss_cons (ps_set (i := 6) scLRec.nd rfl (Or.inl rfl) (pe_ix (r := rIxL K) ix_list (pv 2) (pe_op op_sub (pe_op op_sub (pe_callB call_len_seq (by rfl) T.n_len bb_len (pa_cons (pv 2) pa_nil)) pe_int) (pv 5)) (fun _ _ => rfl)))
  (pss_one (ps_dput hu (pv 3) (pe_ix (r := rIxT K) ix_tup (pv 6) pe_int (fun _ _ => rfl)) (pe_ix (r := rIxT K) ix_tup (pv 6) pe_int (fun _ _ => rfl)) rfl))))
  (pss_one (ps_ret (pv 3))))))), ?_⟩
    refine ⟨_, rfl, a, _, rfl, SqT.of ea, rfl, _, _, rfl, _, _, rfl, rfl, ?_⟩
    intro q hq
    have dq := ne_of_none ed hq
    have gq := ne_of_none eg hq
    have s0 := same_new (o := .dK []) hq
    refine ⟨d, _, s0 _ _ ed, trivial, fun od => ?_⟩
    refine ⟨_, rfl, d, od, rfl, .inl ⟨_, upd_same, ?_⟩⟩
    refine for_it walk_keys (fun i σ H' => ∃ x : Option V, σ = [some (.ref a), some (.ref d), some (.ref gl), some (.ref q), x, none, none] ∧ H' d = some (.frz od (.dK (kvOf l))) ∧ H' q = some (.dK (kvOf (l.take i))) ∧ ∀ b o, H b = some o → b ≠ d → H' b = some o) ?_ (fun i σ H' _ h' => by obtain ⟨_, _, z, _⟩ := h'; exact z) ?_ ?_
    · exact ⟨none, rfl, upd_same, by rw [upd_ne dq.symm, upd_same]; rfl, fun b o z hb => by rw [upd_ne hb, upd_ne (ne_of_none z hq)]; exact z⟩
    · rintro i v σ H1 H1' hi ⟨x, rfl, e1, e2, e3⟩ ⟨rfl, ky, u, hk, rfl⟩
      obtain ⟨p, hp, rfl, rfl⟩ := kvOf_at hk
      refine ⟨_, rfl, _, rfl, d, _, rfl, .inl ⟨kvOf l, Sum.inr p.1, .inr ⟨od, e1⟩, rfl, (kvOf_val hp nd).symm⟩, _, rfl, _, rfl, q, _, rfl, DPut.k (k := Sum.inr p.1) e2 ?_, ?_⟩
      · unfold kvOf
        rw [List.length_map, List.length_take]
        exact small1000 (by omega)
      · refine ⟨_, rfl, by rw [upd_ne dq]; exact e1, by rw [upd_same, kvOf_take hp nd], fun b o z hb => ?_⟩
        rw [upd_ne (ne_of_none z hq)]
        exact e3 b o z hb
    · rintro σ H1 ⟨x, rfl, e1, e2, e3⟩
      refine ⟨e1, ?_⟩
      have lk : (kvOf l).length = l.length := List.length_map ..
      rw [lk, List.take_length] at e2
      obtain ⟨H2, eH2⟩ : ∃ H2, H2 = upd H1 d (.dK (kvOf l)) := ⟨_, rfl⟩
      rw [← eH2]
      have s2 : Same H H2 := fun b o z => by
        rw [eH2]
        by_cases hb : b = d
        · rw [hb, upd_same, ← ed, ← hb]
          exact z
        · rw [upd_ne hb]
          exact e3 b o z hb
      have q2 : H2 q = some (.dK (kvOf l)) := by rw [eH2, upd_ne dq.symm]; exact e2
      refine ⟨_, rfl, gl, _, rfl, .inl (SqL.of (s2 _ _ eg)), _, rfl, by rw [lx]; omega, by rw [lx]; omega, ?_⟩
      refine for_range (lo := 0) (n := ((xs.length : Int)).toNat) (fun i σ H' => ∃ x y z : Option V, σ = [some (.ref a), some (.ref d), some (.ref gl), some (.ref q), x, y, z] ∧ Same H H' ∧ H' q = some (.dK (kvOf (recF l (g.reverse.take i))))) ⟨_, _, _, rfl, s2, q2⟩ ?_ ?_
      · rintro i σ H3 hi ⟨x, y, z, rfl, s3, e⟩
        rw [Int.toNat_natCast] at hi
        obtain ⟨v, hv⟩ : ∃ v, xs[xs.length - 1 - i]? = some v := ⟨xs[xs.length - 1 - i]'(by omega), by simp [show xs.length - 1 - i < xs.length by omega]⟩
        obtain ⟨r, hr', t, rfl, et⟩ := Paired.at pg hv
        have hrev : g.reverse[i]? = some r := by rw [List.getElem?_reverse (by omega), ← hr', lx]
        obtain ⟨j1, j2⟩ := recF_inv l (g.reverse.take i)
        have hn : r.1 ∈ names (recF l (g.reverse.take i)) := by rw [j1]; exact mem r (List.mem_of_getElem? hr')
        refine ⟨_, rfl, _, rfl, gl, _, rfl, .inl (SqL.of (s3 _ _ eg)), _, _, rfl, rfl, _, rfl, _, _, rfl, rfl, gl, _, _, _, rfl, rfl, SqL.of (s3 _ _ eg), at_of (j := xs.length - 1 - i) (by omega) hv, ?_⟩
        refine ⟨_, rfl, t, _, _, _, rfl, rfl, SqT.of (s3 _ _ et), rfl, _, rfl, _, rfl, t, _, _, _, rfl, rfl, SqT.of (s3 _ _ et), rfl, q, _, rfl, DPut.k (k := Sum.inr r.1) e ?_, ?_⟩
        · unfold kvOf
          rw [List.length_map, j2]
          exact small1000 (by omega)
        · refine ⟨_, _, _, rfl, fun b o z => ?_, ?_⟩
          · rw [upd_ne (ne_of_none z hq)]
            exact s3 b o z
          · rw [upd_same, take_snoc hrev, recF_snoc, putK_kvOf r.2 hn]
      · rintro σ H3 ⟨x, y, z, rfl, s3, e⟩
        rw [Int.toNat_natCast, lx, ← List.length_reverse, List.take_length] at e
        exact ⟨_, rfl, k q H3 s3 hq e⟩
def spLCr : Sp := fun vs H Q _ => ∃ (av : Addr → Prop) (d evl : Addr) (l0 : Recs) (evs : List Evt) (xs : List V), vs = [.ref d, .ref evl] ∧ Av av H ∧ ¬ av d ∧ H d = some (.dK (kvOf l0)) ∧ H evl = some (.lst xs) ∧ Paired (EvAt H) xs evs ∧ (∀ e ∈ evs, evOk l0 e) ∧ (names l0).Nodup ∧ l0.length ≤ 900 ∧ evs.length ≤ 800 ∧ (runE l0 evs).2.2.length ≤ 9 ∧
  ∀ (q : Addr) (ys : List V) (H' : Hp), Same H H' → H q = none → H' q = some (.lst ys) → Paired (DueAt av H') ys (crs ((runE l0 evs).1, (runE l0 evs).2.1) (runE l0 evs).2.2) → Q (.ref q) H'
theorem ok_LCr {f : Addr} {fd : FuncData} (F : Fun K "_law_crashes" "_law_crashes" sLCr f fd) (GA : Has P w K mg base CX0 1 "_law_applied" PLApp spLApp) : FnOk P w K mg base CX0 2 f fd PLCr spLCr := by
  refine F.ok scLCr (fun vs H Q E h => ?_) (fun cdv A outer s H vs Q E hr h => ?_)
  · obtain ⟨av, d, evl, l0, evs, xs, rfl, _⟩ := h
    rfl
  · obtain ⟨av, d, evl, l0, evs, xs, rfl, hav, avd, ed, ee, pe, oke, nd, hl, hle, hp9, k⟩ := h
    refine ⟨_, (pss_cons (ps_set (i := 2) scLCr.nd rfl (Or.inl rfl) (pe_tup (pa_cons (pv 0) (pa_cons (pe_lst pa_nil) pa_nil))))
  (pss_cons (ps_set (i := 3) scLCr.nd rfl (Or.inl rfl) (pe_lst pa_nil))
  (pss_cons (ps_for PassesOwn.never rfl (pi_list (pv 1)) (pg_name (i := 4) scLCr.nd rfl (Or.inr rfl))
  (pss_cons (ps_expr (pe_bm PySem.F.plainAttrs_list PySem.F.slot_list_append PySem.F.type_list_append mt_append (pv 3) (pa_cons (pv 4) pa_nil)))
  (pss_one (ps_if (pt_cmpR op_eq (pe_ix (r := rIxT K) ix_tup (pv 4) pe_int (fun _ _ => rfl)) pe_str (nomark _))
  (pss_cons (ps_for PassesOwn.never rfl (pi_list (pv 3)) (pg_name (i := 5) scLCr.nd rfl (Or.inl rfl))
  (pss_one (ps_set (i := 2) scLCr.nd rfl (Or.inl rfl) (pe_callH GA hr rfl pass0 (pa_cons (pv 2) (pa_cons (pv 5) pa_nil))))))
  (pss_one (ps_set (i := 3) scLCr.nd rfl (Or.inl rfl) (pe_lst pa_nil))))
  pss_nil))))
  (pss_cons (ps_set (i := 6) scLCr.nd rfl (Or.inl rfl) (pe_lst (pa_cons (pv 2) pa_nil)))
  (pss_cons (ps_for PassesOwn.never rfl (pi_list (pv 3)) (pg_name (i := 4) scLCr.nd rfl (Or.inr rfl))
  (pss_one (ps_set (i := 6) scLCr.nd rfl (Or.inl rfl) (pe_op op_cat (pv 6) (pe_lc (own := [("_law_state", 7)]) (g := gName 7) (tt := tYes) rfl scLCr.nd (pi_list (pv 6)) (blkOk_by (own := [("_law_state", 7)]) (N := NLCr) (sc := (defScope sLCr)) (by decide +kernel)) (fun _ _ _ _ _ => (pg_name (i := 7) scLCr.nd rfl (Or.inl rfl))) (fun _ _ _ _ _ => pts_nil) (fun _ _ _ _ _ => (pe_callH GA hr rfl pass0 (pa_cons (pv 7) (pa_cons (pv 4) pa_nil)))))))))
  (pss_one (ps_ret (pv 6)))))))), ?_⟩
    have lx : xs.length = evs.length := Paired.length pe
    refine ⟨_, rfl, (by show 0 ≤ sizeLine; decide), fun q0 hq0 => ⟨(by show 2 ≤ sizeLine; decide), fun t0 ht0 => ⟨(by show 0 ≤ sizeLine; decide), fun p0 hp0 => ?_⟩⟩⟩
    have s1 := same_new (o := .lst []) hq0
    have s2 := same_new (o := .tup [.ref d, .ref q0]) ht0
    have s3 := same_new (o := .lst []) hp0
    have sA := (s1.trans s2).trans s3
    have hp : H p0 = none := (s1.trans s2).free hp0
    refine ⟨_, rfl, evl, rfl, ⟨_, SqL.of (sA _ _ ee)⟩, ?_⟩
    refine for_list (K := K) (a := evl) (xs := xs) (fun i σ H' => ∃ (st pl : Addr) (ys : List V) (x4 x5 : Option V), σ = [some (.ref d), some (.ref evl), some (.ref st), some (.ref pl), x4, x5, none, none] ∧ Same H H' ∧ H pl = none ∧
        StateAt (fun b => av b ∨ b = pl) H' st (runE l0 (evs.take i)).1 (runE l0 (evs.take i)).2.1 ∧ H' pl = some (.lst ys) ∧ Paired (EvAt H') ys (runE l0 (evs.take i)).2.2) ?_ (fun i σ H' _ h' => by obtain ⟨_, _, _, _, _, _, s', _⟩ := h'; exact SqL.of (s' _ _ ee)) ?_ ?_
    · refine ⟨t0, p0, [], none, none, rfl, sA, hp, ⟨d, q0, [], (s3 _ _ upd_same), sA _ _ ed, (s2.trans s3) _ _ upd_same, .nil, fun z => z.elim avd (ne_of_none ed hp), fun z => z.elim (hav.new hq0) (ne_of_none (s2 _ _ upd_same) hp0)⟩, upd_same, .nil⟩
    · rintro i x σ H1 hx ⟨st, pl, ys, x4, x5, rfl, sm, npl, q1, epl, py⟩
      obtain ⟨ev, hev, b, rfl, eb⟩ := Paired.at pe hx
      have hi : i < evs.length := (List.getElem?_eq_some_iff.mp hev).1
      obtain ⟨i1, i2, i3, i4, i5⟩ := runE_inv l0 (fun _ => trivial) _ (evs.take i) rfl fun e he => oke e (List.mem_of_mem_take he)
      have lt : (evs.take i).length = i := by rw [List.length_take]; omega
      rw [lt] at i3
      rw [take_snoc hev, runE_snoc]
      obtain ⟨l, g, ws, eq⟩ : ∃ l g ws, runE l0 (evs.take i) = (l, g, ws) := ⟨_, _, _, rfl⟩
      rw [eq] at q1 py i1 i2 i3 i4 i5 ⊢
      simp only at q1 py i1 i2 i3 i4 i5 ⊢
      have ly : ys.length = ws.length := Paired.length py
      have okev := oke ev (List.mem_of_getElem? hev)
      refine ⟨_, rfl, .inl ⟨rfl, _, SqL.of epl⟩, _, rfl, pl, _, _, rfl, rfl, epl, (small1000 (by omega)), ?_⟩
      obtain ⟨H2, eH2⟩ : ∃ H2, H2 = upd H1 pl (.lst (ys ++ [.ref b])) := ⟨_, rfl⟩
      have sm2 : Same H H2 := fun c o z => by rw [eH2, upd_ne (ne_of_none z npl)]; exact sm c o z
      have q2 : StateAt (fun b => av b ∨ b = pl) H2 st l g := by rw [eH2]; exact q1.upd (.inr rfl) epl
      have py2 : Paired (EvAt H2) (ys ++ [.ref b]) (ws ++ [ev]) := by
        refine Paired.snoc (Paired.mapP py fun v r ⟨c, e, w⟩ => ⟨c, e, ?_⟩) ⟨b, rfl, sm2 _ _ eb⟩
        rw [eH2, upd_ne (ne_of w epl (by intro z; cases z))]
        exact w
      have p2 : H2 pl = some (.lst (ys ++ [.ref b])) := by rw [eH2, upd_same]
      rw [← eH2]
      obtain ⟨x0, xr, exs⟩ := evV_ne ev
      have a0 : atI (evV ev) 0 = some (.str x0) := by rw [exs]; exact atI_nat (j := 0) rfl
      refine ⟨_, rfl, b, _, _, _, rfl, rfl, SqT.of (sm2 _ _ eb), a0, rfl, _, rfl, ?_⟩
      cases ev with
      | flush =>
        cases exs
        refine iteS (by decide +kernel) ?_
        refine ⟨_, rfl, pl, rfl, ⟨_, SqL.of p2⟩, ?_⟩
        refine for_list (K := K) (a := pl) (xs := ys ++ [.ref b]) (fun j σ H' => ∃ (st : Addr) (x4 x5 : Option V), σ = [some (.ref d), some (.ref evl), some (.ref st), some (.ref pl), x4, x5, none, none] ∧ Same H2 H' ∧
          StateAt (fun b => av b ∨ b = pl) H' st (apps (l, g) ((ws ++ [Evt.flush]).take j)).1 (apps (l, g) ((ws ++ [Evt.flush]).take j)).2) ⟨st, _, _, rfl, Same.refl _, q2⟩ (fun i σ H' _ h' => by obtain ⟨_, _, _, _, s', _⟩ := h'; exact SqL.of (s' _ _ p2)) ?_ ?_
        · rintro j v σ H3 hv ⟨st3, y4, y5, rfl, s3, q3⟩
          obtain ⟨e3, he3, c, rfl, ec⟩ := Paired.at py2 hv
          have hj : j < (ws ++ [Evt.flush]).length := (List.getElem?_eq_some_iff.mp he3).1
          rw [List.length_append] at hj
          have hj : j < ws.length + 1 := hj
          obtain ⟨j1, j2, j3⟩ := apps_inv (l, g) ((ws ++ [Evt.flush]).take j)
          have oke3 : evOk l0 e3 := by
            rcases List.mem_append.mp (List.mem_of_getElem? he3) with z | z
            · exact i5 _ z
            · rw [List.mem_singleton.mp z]; trivial
          refine ⟨_, rfl, _, rfl, fun b => av b ∨ b = pl, st3, c, _, _, e3, rfl, (fun b hb => ?_), q3, s3 _ _ ec, evOk_names (j1.trans i1) oke3, by rw [j1]; show (names l).Nodup; rw [i1]; exact nd, by rw [j2]; show l.length ≤ 900; rw [i2]; exact hl, ?_, fun a' H4 s4 q4 => ?_⟩
          · rcases hb with z | z
            · obtain ⟨o, ho⟩ := hav _ z
              exact ⟨o, s3 _ _ (sm2 _ _ ho)⟩
            · subst z
              exact ⟨_, s3 _ _ p2⟩
          · rw [List.length_take, List.length_append] at j3
            simp only at j3
            have : min j (ws.length + [Evt.flush].length) ≤ j := Nat.min_le_left _ _
            omega
          · refine ⟨a', _, _, rfl, s3.trans s4, ?_⟩
            rw [take_snoc he3, apps_snoc]
            exact q4
        · rintro σ H3 ⟨st3, y4, y5, rfl, s3, q3⟩
          have e1 : (ys ++ [V.ref b]).length = (ws ++ [Evt.flush]).length := Paired.length py2
          rw [e1, List.take_length, apps_snoc] at q3
          refine ⟨(by show 0 ≤ sizeLine; decide), fun p' hp' => ?_⟩
          have s4 := same_new (o := .lst []) hp'
          have f' : H p' = none := (sm2.trans s3).free hp'
          exact ⟨st3, p', [], _, _, rfl, (sm2.trans s3).trans s4, f', (q3.sub fun b hb => Or.inl hb).add hp', upd_same, .nil⟩
      | log n v =>
        cases exs
        exact iteE (by decide +kernel) ⟨st, pl, _, _, _, rfl, sm2, npl, q2, p2, py2⟩
      | write n v =>
        cases exs
        exact iteE (by decide +kernel) ⟨st, pl, _, _, _, rfl, sm2, npl, q2, p2, py2⟩
      | clear =>
        cases exs
        exact iteE (by decide +kernel) ⟨st, pl, _, _, _, rfl, sm2, npl, q2, p2, py2⟩
    · rintro σ H1 ⟨st, pl, ys, x4, x5, rfl, sm, npl, q1, epl, py⟩
      rw [lx, List.take_length] at q1 py
      obtain ⟨i1, i2, i3, i4, i5⟩ := runE_inv l0 (fun _ => trivial) _ evs rfl oke
      obtain ⟨l, g, ws, eq⟩ : ∃ l g ws, runE l0 evs = (l, g, ws) := ⟨_, _, _, rfl⟩
      rw [eq] at q1 py i1 i2 i3 i4 i5 k hp9
      simp only at q1 py i1 i2 i3 i4 i5 k hp9
      have ly : ys.length = ws.length := Paired.length py
      refine ⟨_, rfl, (by show 1 ≤ sizeLine; decide), fun s0 hs0 => ?_⟩
      have t1 := same_new (o := .lst [.ref st]) hs0
      refine ⟨_, rfl, pl, rfl, ⟨_, SqL.of (t1 _ _ epl)⟩, ?_⟩
      have q1' : StateAt av H1 st l g := q1.sub fun b hb => Or.inl hb
      have hav1 : Av av H1 := hav.same sm
      refine for_list (K := K) (a := pl) (xs := ys) (fun j σ H' => ∃ (sj : Addr) (zs : List V) (x4 x5 x7 : Option V), σ = [some (.ref d), some (.ref evl), some (.ref st), some (.ref pl), x4, x5, some (.ref sj), x7] ∧ Same H1 H' ∧ H1 sj = none ∧ H' sj = some (.lst zs) ∧
        Paired (DueAt av H') zs (crs (l, g) (ws.take j))) ⟨s0, _, _, _, _, rfl, t1, hs0, upd_same, .cons ⟨st, rfl, q1'.same t1⟩ .nil⟩ (fun i σ H' _ h' => by obtain ⟨_, _, _, _, _, _, s', _⟩ := h'; exact SqL.of (s' _ _ epl)) ?_ ?_
      · rintro j v σ H3 hv ⟨sj, zs, y4, y5, y7, rfl, s3, fj, ej, pz⟩
        obtain ⟨ev, hev, b, rfl, eb⟩ := Paired.at py hv
        have hj : j < ws.length := (List.getElem?_eq_some_iff.mp hev).1
        have lt : (ws.take j).length = j := by rw [List.length_take]; omega
        have lz : zs.length = 2 ^ j := (Paired.length pz).trans (crs_len (l, g) j (ws.take j) lt)
        have p2j : 2 ^ j ≤ 2 ^ 8 := Nat.pow_le_pow_right (by decide) (by omega)
        refine ⟨_, rfl, _, rfl, sj, rfl, ⟨_, SqL.of ej⟩, fun D hD => ?_⟩
        have tD := same_new (o := .lst []) hD
        have eb3 := s3 _ _ eb
        have okev := i5 ev (List.mem_of_getElem? hev)
        have pzD : Paired (DueAt (fun b => av b ∨ b = D) (upd H3 D (.lst []))) zs (crs (l, g) (ws.take j)) := Paired.mapP pz fun _ _ z => z.add hD
        refine lc_list (K := K) (a := sj) (xs := zs) (fun i H' => Same H3 H' ∧ (∃ acc : List V, H' D = some (.lst acc) ∧ Paired (DueAt (fun b => av b ∨ b = D) H') acc (((crs (l, g) (ws.take j)).take i).map fun s => app s ev)) ∧ Paired (DueAt (fun b => av b ∨ b = D) H') zs (crs (l, g) (ws.take j))) ⟨tD, ⟨[], upd_same, .nil⟩, pzD⟩ (fun i H' _ h' => SqL.of (h'.1 _ _ ej)) ?_ ?_
        · rintro i v H4 hv ⟨s4, ⟨acc, eD, pa⟩, pz4⟩
          obtain ⟨sv, hsv, a', rfl, qa⟩ := Paired.at pz4 hv
          have hi : i < zs.length := (List.getElem?_eq_some_iff.mp hv).1
          obtain ⟨j1, j2, j3⟩ : names sv.1 = names l ∧ sv.1.length = l.length ∧ sv.2.length ≤ g.length + j := by
            have hsv := hsv
            rw [crs_at (l, g) j (ws.take j) lt i (by omega)] at hsv
            rw [← Option.some.inj hsv]
            exact cho_inv i (l, g) (ws.take j) j
          have lac : acc.length = i := by
            rw [Paired.length pa, List.length_map, List.length_take, ← Paired.length pz]
            omega
          refine ⟨rfl, _, rfl, _, rfl, fun b => av b ∨ b = D, a', b, sv.1, sv.2, ev, rfl, (fun c hc => ?_), qa, s4 _ _ eb3, evOk_names (j1.trans i1) okev, by rw [j1, i1]; exact nd, by omega, by omega, fun a2 H5 s5 q5 => ?_⟩
          · rcases hc with z | z
            · exact (hav1.same (s3.trans s4)) c z
            · rw [z]; exact ⟨_, eD⟩
          have eD5 := s5 _ _ eD
          refine ⟨acc, eD5, small1000 (by omega), fun c o z => ?_, ⟨acc ++ [.ref a2], upd_same, ?_⟩, Paired.mapP pz4 fun _ _ z => (z.same s5).upd (.inr rfl) eD5⟩
          · rw [upd_ne (ne_of_none z hD)]
            exact s5 _ _ (s4 _ _ z)
          · rw [take_snoc hsv, List.map_append]
            exact Paired.snoc (Paired.mapP pa fun _ _ z => (z.same s5).upd (.inr rfl) eD5) ⟨a2, rfl, q5.upd (.inr rfl) eD5⟩
        · rintro H4 ⟨s4, ⟨acc, eD, pa⟩, pz4⟩
          rw [Paired.length pz, List.take_length] at pa
          have lac : acc.length = zs.length := by rw [Paired.length pa, List.length_map, Paired.length pz]
          refine ⟨sj, D, _, _, rfl, rfl, s4 _ _ ej, eD, ?_, fun r hr => ?_⟩
          · have : (zs ++ acc).length ≤ 1000 := by rw [List.length_append]; omega
            first | exact Nat.le_of_lt (small1000 this) | (rw [← List.length_append]; exact Nat.le_of_lt (small1000 this))
          · have s5 := same_new (o := .lst (zs ++ acc)) hr
            have s6 := s4.trans s5
            refine ⟨r, _, _, _, _, rfl, s3.trans s6, (s3.trans s4).free hr, upd_same, ?_⟩
            rw [take_snoc hev, crs_snoc]
            exact Paired.app (Paired.mapP pz fun _ _ z => z.same s6) (Paired.mapP pa fun _ _ z => (z.same s5).sub fun _ hb => Or.inl hb)
      · rintro σ H3 ⟨sj, zs, y4, y5, y7, rfl, s3, fj, ej, pz⟩
        rw [ly, List.take_length] at pz
        exact ⟨_, rfl, k sj zs H3 (sm.trans s3) (sm.free fj) ej pz⟩
end

/-! _law_event -/
/-- a list of texts is no part of the pool -/
theorem strs_ne1 {H : Hp} {p c q : Addr} {lim : V} {n : Nat} {ns : List Str} (h : PoolAt H p c lim n) (hq : H q = some (.lst (ns.map V.str))) : q ≠ p := by
  obtain ⟨i, cs, cn, sd, md, e1, e2, e⟩ := h
  refine ne_of hq e1 (fun z => ?_)
  injection z with z
  cases ns with
  | nil => cases z
  | cons a r => injection z with z _; cases z
theorem strs_ne2 {H : Hp} {p c q : Addr} {lim : V} {n : Nat} {ns : List Str} (h : PoolAt H p c lim n) (hn : ns ≠ []) (hq : H q = some (.lst (ns.map V.str))) : q ≠ c := by
  obtain ⟨i, cs, cn, sd, md, e1, e2, e⟩ := h
  refine ne_of hq e2 (fun z => ?_)
  injection z with z
  cases ns with
  | nil => exact hn rfl
  | cons a r =>
    cases cs with
    | nil => cases z
    | cons b t => injection z with z _; cases z
theorem PoolAt.lst {H : Hp} {p c : Addr} {lim : V} {n : Nat} (h : PoolAt H p c lim n) : (∃ x, H p = some (.lst x)) ∧ ∃ x, H c = some (.lst x) := by
  obtain ⟨i, cs, cn, sd, md, e1, e2, e⟩ := h
  exact ⟨⟨_, e1⟩, ⟨_, e2⟩⟩
theorem But.free {p c : Addr} {H H' : Hp} (b : But p c H H') {q : Addr} (hq : H' q = none) (h1 : q ≠ p) (h2 : q ≠ c) : H q = none := by
  cases z : H q with
  | none => rfl
  | some o => rw [b q o z h1 h2] at hq; cases hq
theorem But.of_same {p c : Addr} {H H1 H2 : Hp} (a : But p c H H1) (b : Same H1 H2) : But p c H H2 := fun x o e h1 h2 => b x o (a x o e h1 h2)
def spEvent : Sp := fun vs H Q _ => ∃ (p c d nl : Addr) (lim : V) (n : Nat) (l : Recs), vs = [.ref p, .ref d, .ref nl] ∧ PoolAt H p c lim n ∧ n < 100000000000 ∧ H d = some (.dK (kvOf l)) ∧ H nl = some (.lst ((names l).map V.str)) ∧ names l ≠ [] ∧ l.length ≤ 900 ∧
  ∀ (e : Addr) (ev : Evt) (H' : Hp), evOk l ev → PoolAt H' p c lim (n + 4) → But p c H H' → H e = none → H' e = some (.tup (evV ev)) → Q (.ref e) H'
section
variable {P : Program} {w : World} {K : PySem.W.Frag} {mg : Str → Option Value} {base : Heap} {kw C pp : Addr}
theorem ok_Event {f : Addr} {fd : FuncData} (F : Fun K "_law_event" "_law_event" sEvent f fd) (T : TxSt K mg kw) (GD : Has P w K mg base CX0 2 "_law_draw" PDraw spDraw) : FnOk P w K mg base CX0 3 f fd PEvent spEvent := by
  refine F.ok scEvent (fun vs H Q E h => ?_) (fun cdv A outer s H vs Q E hr h => ?_)
  · obtain ⟨p, c, d, nl, lim, n, l, rfl, _⟩ := h
    rfl
  · obtain ⟨p, c, d, nl, lim, n, l, rfl, P0, hn, ed, en, hne, hl, k⟩ := h
    have hu := hu_of hr
    refine ⟨_, (pss_cons (ps_set (i := 3) scEvent.nd rfl (Or.inl rfl) (pe_callH GD hr rfl pass0 (pa_cons (pv 0) (pa_cons pe_int pa_nil))))
  (pss_cons (ps_set (i := 4) scEvent.nd rfl (Or.inl rfl) (pe_ix (r := rIxL K) ix_list (pv 2) (pe_callH GD hr rfl pass0 (pa_cons (pv 0) (pa_cons (pe_callB call_len_seq (by rfl) T.n_len bb_len (pa_cons (pv 2) pa_nil)) pa_nil))) (fun _ _ => rfl)))
  (C8.pss_cut (ps_set (i := 5) scEvent.nd rfl (Or.inl rfl) (pe_ifExp (pt_cmpR op_eq (pe_callH GD hr rfl pass0 (pa_cons (pv 0) (pa_cons pe_int pa_nil))) pe_int (nomark _)) (pe_dget hu (pv 1) (pv 4) (fun _ _ => rfl)) (pe_callH GD hr rfl pass0 (pa_cons (pv 0) (pa_cons pe_int pa_nil)))))
  (pss_cons (ps_if (pt_cmpR op_lt (pv 3) pe_int (nomark _))
  (pss_one (ps_ret (pe_tup (pa_cons pe_str (pa_cons (pv 4) (pa_cons (pv 5) pa_nil))))))
  pss_nil)
  (pss_cons (ps_if (pt_cmpR op_lt (pv 3) pe_int (nomark _))
  (pss_one (ps_ret (pe_tup (pa_cons pe_str (pa_cons (pv 4) (pa_cons (pv 5) pa_nil))))))
  pss_nil)
  (pss_one (ps_ret (pe_ix (r := rIxL K) ix_list (pe_lst (pa_cons (pe_tup (pa_cons pe_str pa_nil)) (pa_cons (pe_tup (pa_cons pe_str pa_nil)) pa_nil))) (pe_op op_sub (pv 3) pe_int) (fun _ _ => rfl))))))))), ?_⟩
    have n1 := strs_ne1 P0 en
    have n2 := strs_ne2 P0 hne en
    have d1 : d ≠ p := by
      obtain ⟨⟨_, z⟩, _⟩ := P0.lst
      exact ne_of ed z (fun z => by cases z)
    have d2 : d ≠ c := by
      obtain ⟨_, ⟨_, z⟩⟩ := P0.lst
      exact ne_of ed z (fun z => by cases z)
    have lpos : 0 < (names l).length := List.length_pos_iff.mpr hne
    have lnl : (names l).length = l.length := List.length_map ..
    refine ⟨_, rfl, p, c, lim, n, 8, rfl, P0, by omega, by decide, by decide, fun ch H1 c0 c1 P1 b1 => ?_⟩
    have en1 := b1 _ _ en n1 n2
    refine ⟨_, rfl, _, rfl, _, rfl, nl, _, rfl, .inl (SqL.of en1), p, c, lim, n + 1, _, rfl, P1, by omega, by rw [List.length_map]; omega, by rw [List.length_map]; omega, fun ix H2 i0 i1 P2 b2 => ?_⟩
    have en2 := b2 _ _ en1 n1 n2
    obtain ⟨v, hv, mv⟩ := atI_in (xs := (names l).map V.str) i0 i1
    obtain ⟨x, hx, rfl⟩ := List.mem_map.mp mv
    have ed2 := b2 _ _ (b1 _ _ ed d1 d2) d1 d2
    refine ⟨nl, _, _, _, rfl, rfl, SqL.of en2, hv, ?_⟩
    refine ⟨fun σ H' => ∃ (z : Int), σ = [some (.ref p), some (.ref d), some (.ref nl), some (.int ch), some (.str x), some (.int z)] ∧ PoolAt H' p c lim (n + 4) ∧ But p c H H', ?_, ?_⟩
    · refine ⟨_, rfl, p, c, lim, n + 2, 2, rfl, P2, by omega, by decide, by decide, fun r H3 r0 r1 P3 b3 => ?_⟩
      have b123 := (b1.trans b2).trans b3
      refine ⟨rfl, _, rfl, ite2 (fun _ => ?_) (fun _ => ?_)⟩
      · refine ⟨_, rfl, _, rfl, d, _, rfl, .inl ⟨kvOf l, Sum.inr x, .inl (b3 _ _ ed2 d1 d2), rfl, (gR_val hx).symm⟩, ?_⟩
        exact ⟨_, rfl, P3.mono (by omega), b123⟩
      · refine ⟨_, rfl, p, c, lim, n + 3, 4, rfl, P3, by omega, by decide, by decide, fun r4 H4 r40 r41 P4 b4 => ?_⟩
        exact ⟨_, rfl, P4, b123.trans b4⟩
    · rintro σ H3 ⟨z, rfl, P3, bb⟩
      refine ⟨_, rfl, _, _, rfl, rfl, _, rfl, ite2 (fun h3 => ?_) (fun h3 => ?_)⟩
      · refine ⟨_, rfl, _, rfl, (by show 3 ≤ sizeLine; decide), fun e he => ?_⟩
        exact k e (.log x _) _ hx (P3.same (same_new he)) (bb.of_same (same_new he)) (bb.free he (P3.ne1 he) (P3.ne2 he)) upd_same
      · refine ⟨_, rfl, _, _, rfl, rfl, _, rfl, ite2 (fun h6 => ?_) (fun h6 => ?_)⟩
        · refine ⟨_, rfl, _, rfl, (by show 3 ≤ sizeLine; decide), fun e he => ?_⟩
          exact k e (.write x _) _ hx (P3.same (same_new he)) (bb.of_same (same_new he)) (bb.free he (P3.ne1 he) (P3.ne2 he)) upd_same
        · have h6 : ¬ ch < 6 := fun z => h6 (decide_eq_true z)
          refine ⟨(by show 1 ≤ sizeLine; decide), fun t1 ht1 => ⟨(by show 1 ≤ sizeLine; decide), fun t2 ht2 => ⟨(by show 2 ≤ sizeLine; decide), fun L hL => ?_⟩⟩⟩
          have s1 := same_new (o := .tup [.str "clear"]) ht1
          have s2 := same_new (o := .tup [.str "flush"]) ht2
          have s3 := same_new (o := .lst [.ref t1, .ref t2]) hL
          have bb' := bb.of_same ((s1.trans s2).trans s3)
          have PP := P3.same ((s1.trans s2).trans s3)
          have f1 : H t1 = none := bb.free ht1 (P3.ne1 ht1) (P3.ne2 ht1)
          have f2 : H t2 = none := bb.free (s1.free ht2) (P3.ne1 (s1.free ht2)) (P3.ne2 (s1.free ht2))
          by_cases e6 : ch = 6
          · subst e6
            exact ⟨_, rfl, _, _, rfl, rfl, L, _, _, _, rfl, rfl, SqL.of upd_same, rfl, k t1 .clear _ trivial PP bb' f1 ((s2.trans s3) _ _ upd_same)⟩
          · obtain rfl : ch = 7 := by omega
            exact ⟨_, rfl, _, _, rfl, rfl, L, _, _, _, rfl, rfl, SqL.of upd_same, rfl, k t2 .flush _ trivial PP bb' f2 (s3 _ _ upd_same)⟩
end

/-! values that are no events -/
inductive OddAt (H : Hp) : V → Prop
  | noname {a : Addr} : H a = some (.tup [.str "write", .str "", .int 1]) → OddAt H (.ref a)
  | truth {a : Addr} (n : Str) : isName n = true → H a = some (.tup [.str "write", .str n, .bl true]) → OddAt H (.ref a)
  | flush {a : Addr} : H a = some (.tup [.str "flush", .int 1]) → OddAt H (.ref a)
  | stop {a : Addr} : H a = some (.tup [.str "stop"]) → OddAt H (.ref a)
  | empty {a : Addr} : H a = some (.tup []) → OddAt H (.ref a)
  | none : OddAt H .non
  | str : OddAt H (.str "flush")
theorem OddAt.same {H H' : Hp} (s : Same H H') {v : V} (h : OddAt H v) : OddAt H' v := by
  cases h with
  | noname e => exact .noname (s _ _ e)
  | truth n k e => exact .truth n k (s _ _ e)
  | flush e => exact .flush (s _ _ e)
  | stop e => exact .stop (s _ _ e)
  | empty e => exact .empty (s _ _ e)
  | none => exact .none
  | str => exact .str
def spOdd (K : PySem.W.Frag) : Sp := fun vs H Q _ => ∃ (v : V) (nl : Addr) (ns : List Str), vs = [v, .ref nl] ∧ SqL K H nl (ns.map V.str) ∧ (∀ n ∈ ns, isName n = true) ∧ OddAt H v ∧ ∀ H', Same H H' → Q (.bl false) H'
theorem FnOk.or {P : Program} {w : World} {K : PySem.W.Frag} {mg : Str → Option Value} {base : Heap} {CX : CXT} {k : Nat} {f : Addr} {fd : FuncData} {ps : List Str} {sp sp' : Sp} (F : FnOk P w K mg base CX k f fd ps sp) (G : FnOk P w K mg base CX k f fd ps sp') : FnOk P w K mg base CX k f fd ps (fun vs H Q E => sp vs H Q E ∨ sp' vs H Q E) :=
  ⟨fun vs H Q E h => h.elim (F.len vs H Q E) (G.len vs H Q E), fun A outer s H args us vs Q E hr e0 hb r h => h.elim (F.run A outer s H args us vs Q E hr e0 hb r) (G.run A outer s H args us vs Q E hr e0 hb r)⟩
section
variable {P : Program} {w : World} {K : PySem.W.Frag} {mg : Str → Option Value} {base : Heap} {kw C : Addr}
theorem ok_Odd {f : Addr} {fd : FuncData} (F : Fun K "is_event" "is_event" sIsEvt f fd) (T : TxSt K mg kw) (GI : Has P w K mg base CX0 1 "is_integer" PIsInt (spIsInt K)) : FnOk P w K mg base CX0 2 f fd PIsEvt (spOdd K) := by
  refine F.ok scIsEvt (fun vs H Q E h => ?_) (fun cdv A outer s H vs Q E hr h => ?_)
  · obtain ⟨v, nl, ns, rfl, _⟩ := h
    rfl
  · obtain ⟨v, nl, ns, rfl, en, nmk, odd, k⟩ := h
    have hu := hu_of hr
    refine ⟨_, (pss_cons (ps_if (PW.pt (pw_or (pt_not (pt_val (pe_callB call_isi (by rfl) T.n_isinstance bb_isinstance (pa_cons (pv 0) (pa_cons (pe_bltn (v := .ty "tuple") (by rfl) T.n_tuple bb_tuple rfl) pa_nil))))) (pw_or (pt_cmpR (op_eqD hr.units) (pv 0) (pe_tup pa_nil) (nomark _)) (pw_or1 (pt_not (pt_val (pe_callB call_isi (by rfl) T.n_isinstance bb_isinstance (pa_cons (pe_ix (r := rIxT K) ix_tup (pv 0) pe_int (fun _ _ => rfl)) (pa_cons (pe_bltn (v := .ty "str") (by rfl) T.n_str bb_str rfl) pa_nil)))))))))
  (pss_one (ps_ret pe_bl))
  pss_nil)
  (pss_cons (ps_if (pt_cmpR op_in_seq (pe_ix (r := rIxT K) ix_tup (pv 0) pe_int (fun _ _ => rfl)) (pe_tup (pa_cons pe_str (pa_cons pe_str pa_nil))) (by rfl))
  (pss_one (ps_ret (pe_cmpR op_eq (pe_callB call_len_seq (by rfl) T.n_len bb_len (pa_cons (pv 0) pa_nil)) pe_int (nomark _))))
  pss_nil)
  (pss_cons (ps_if (PW.pt (pw_or (pt_cmpR op_notIn_seq (pe_ix (r := rIxT K) ix_tup (pv 0) pe_int (fun _ _ => rfl)) (pe_tup (pa_cons pe_str (pa_cons pe_str pa_nil))) (by rfl)) (pw_or1 (pt_cmpR op_ne (pe_callB call_len_seq (by rfl) T.n_len bb_len (pa_cons (pv 0) pa_nil)) pe_int (nomark _)))))
  (pss_one (ps_ret pe_bl))
  pss_nil)
  (pss_one (ps_ret (pe_and (pe_callB call_isi (by rfl) T.n_isinstance bb_isinstance (pa_cons (pe_ix (r := rIxT K) ix_tup (pv 0) pe_int (fun _ _ => rfl)) (pa_cons (pe_bltn (v := .ty "str") (by rfl) T.n_str bb_str rfl) pa_nil))) (pe_and (pe_cmpR op_in_seq (pe_ix (r := rIxT K) ix_tup (pv 0) pe_int (fun _ _ => rfl)) (pv 1) (by rfl)) (pe_one (pe_callH GI hr rfl pass0 (pa_cons (pe_ix (r := rIxT K) ix_tup (pv 0) pe_int (fun _ _ => rfl)) pa_nil)))))))))), ?_⟩
    have tup : ∀ (a : Addr) (x0 : Str) (xs : List V), H a = some (.tup (.str x0 :: xs)) → ((V.str x0 :: xs).all flatV = true) → ((V.str x0 :: xs).all okV = true) → True := fun _ _ _ _ _ _ => trivial
    cases odd with
    | none =>
      refine ⟨_, rfl, _, _, _, _, _, rfl, .ty _, .base .non, kit_ty (r := false) (by decide +kernel), _, rfl, ?_⟩
      exact k _ (Same.refl _)
    | str =>
      refine ⟨_, rfl, _, _, _, _, _, rfl, .ty _, .base (.str _), kit_ty (r := false) (by decide +kernel), _, rfl, ?_⟩
      exact k _ (Same.refl _)
    | @empty a ea =>
      refine ⟨_, rfl, _, _, _, _, _, rfl, .ty _, .base (.tup ea), kit_ty (r := true) (by decide +kernel), _, rfl, ?_⟩
      refine ⟨_, rfl, (by show 0 ≤ sizeLine; decide), fun t1 h1 => ?_⟩
      have s1 : Same H _ := same_new (o := .tup []) h1
      refine ⟨_, _, .tup (SqT.of (s1 _ _ ea)) .nil, .tup (SqT.of upd_same) .nil, rfl, rfl, _, rfl, iteS rfl ?_⟩
      exact k _ s1
    | @stop a ea =>
      refine ⟨_, rfl, _, _, _, _, _, rfl, .ty _, .base (.tup ea), kit_ty (r := true) (by decide +kernel), _, rfl, ?_⟩
      refine ⟨_, rfl, (by show 0 ≤ sizeLine; decide), fun t1 h1 => ?_⟩
      have s1 : Same H _ := same_new (o := .tup []) h1
      refine ⟨_, _, .tup (SqT.of (s1 _ _ ea)) (dpAll_flat rfl), .tup (SqT.of upd_same) .nil, shaped_tup (by decide +kernel), rfl, _, rfl, iteE rfl ?_⟩
      refine ⟨_, rfl, a, _, _, _, rfl, rfl, SqT.of (s1 _ _ ea), atI_nat (j := 0) rfl, _, _, _, _, _, rfl, .ty _, .base (.str _), kit_ty (r := true) (by decide +kernel), _, rfl, ?_⟩
      refine ⟨_, rfl, a, _, _, _, rfl, rfl, SqT.of (s1 _ _ ea), atI_nat (j := 0) rfl, (by show 2 ≤ sizeLine; decide), fun t2 h2 => ?_⟩
      have s2 : Same H _ := s1.trans (same_new (o := .tup [.str "clear", .str "flush"]) h2)
      refine ⟨t2, _, rfl, .inr (SqT.of upd_same), rfl, rfl, _, rfl, iteE (by decide +kernel) ?_⟩
      refine ⟨_, rfl, a, _, _, _, rfl, rfl, SqT.of (s2 _ _ ea), atI_nat (j := 0) rfl, (by show 2 ≤ sizeLine; decide), fun t3 h3 => ?_⟩
      have s3 : Same H _ := s2.trans (same_new (o := .tup [.str "log", .str "write"]) h3)
      refine ⟨t3, _, rfl, .inr (SqT.of upd_same), rfl, rfl, _, rfl, iteS (by decide +kernel) ?_⟩
      exact k _ s3
    | @flush a ea =>
      refine ⟨_, rfl, _, _, _, _, _, rfl, .ty _, .base (.tup ea), kit_ty (r := true) (by decide +kernel), _, rfl, ?_⟩
      refine ⟨_, rfl, (by show 0 ≤ sizeLine; decide), fun t1 h1 => ?_⟩
      have s1 : Same H _ := same_new (o := .tup []) h1
      refine ⟨_, _, .tup (SqT.of (s1 _ _ ea)) (dpAll_flat rfl), .tup (SqT.of upd_same) .nil, shaped_tup (by decide +kernel), rfl, _, rfl, iteE rfl ?_⟩
      refine ⟨_, rfl, a, _, _, _, rfl, rfl, SqT.of (s1 _ _ ea), atI_nat (j := 0) rfl, _, _, _, _, _, rfl, .ty _, .base (.str _), kit_ty (r := true) (by decide +kernel), _, rfl, ?_⟩
      refine ⟨_, rfl, a, _, _, _, rfl, rfl, SqT.of (s1 _ _ ea), atI_nat (j := 0) rfl, (by show 2 ≤ sizeLine; decide), fun t2 h2 => ?_⟩
      have s2 : Same H _ := s1.trans (same_new (o := .tup [.str "clear", .str "flush"]) h2)
      refine ⟨t2, _, rfl, .inr (SqT.of upd_same), rfl, rfl, _, rfl, iteS (by decide +kernel) ?_⟩
      exact ⟨_, rfl, a, _, rfl, .inr (SqT.of (s2 _ _ ea)), rfl, k _ s2⟩
    | @noname a ea =>
      refine ⟨_, rfl, _, _, _, _, _, rfl, .ty _, .base (.tup ea), kit_ty (r := true) (by decide +kernel), _, rfl, ?_⟩
      refine ⟨_, rfl, (by show 0 ≤ sizeLine; decide), fun t1 h1 => ?_⟩
      have s1 : Same H _ := same_new (o := .tup []) h1
      refine ⟨_, _, .tup (SqT.of (s1 _ _ ea)) (dpAll_flat rfl), .tup (SqT.of upd_same) .nil, shaped_tup (by decide +kernel), rfl, _, rfl, iteE rfl ?_⟩
      refine ⟨_, rfl, a, _, _, _, rfl, rfl, SqT.of (s1 _ _ ea), atI_nat (j := 0) rfl, _, _, _, _, _, rfl, .ty _, .base (.str _), kit_ty (r := true) (by decide +kernel), _, rfl, ?_⟩
      refine ⟨_, rfl, a, _, _, _, rfl, rfl, SqT.of (s1 _ _ ea), atI_nat (j := 0) rfl, (by show 2 ≤ sizeLine; decide), fun t2 h2 => ?_⟩
      have s2 : Same H _ := s1.trans (same_new (o := .tup [.str "clear", .str "flush"]) h2)
      refine ⟨t2, _, rfl, .inr (SqT.of upd_same), rfl, rfl, _, rfl, iteE (by decide +kernel) ?_⟩
      refine ⟨_, rfl, a, _, _, _, rfl, rfl, SqT.of (s2 _ _ ea), atI_nat (j := 0) rfl, (by show 2 ≤ sizeLine; decide), fun t3 h3 => ?_⟩
      have s3 : Same H _ := s2.trans (same_new (o := .tup [.str "log", .str "write"]) h3)
      refine ⟨t3, _, rfl, .inr (SqT.of upd_same), rfl, rfl, _, rfl, iteE (by decide +kernel) ?_⟩
      refine ⟨_, rfl, a, _, rfl, .inr (SqT.of (s3 _ _ ea)), rfl, _, rfl, ?_⟩
      refine ⟨_, rfl, a, _, _, _, rfl, rfl, SqT.of (s3 _ _ ea), rfl, _, _, _, _, _, rfl, .ty _, .base (.str _), kit_ty (r := true) (by decide +kernel), _, rfl, ?_⟩
      have nin : inV (.str "") (ns.map V.str) = false := by
        unfold inV
        rw [List.any_eq_false]
        rintro v hv
        obtain ⟨n, hn, rfl⟩ := List.mem_map.mp hv
        have := nmk n hn
        have bad : isName ("" : Str) = false := by decide +kernel
        intro z
        unfold eqV at z
        simp at z
        rw [z] at this
        rw [bad] at this
        cases this
      refine ⟨_, rfl, a, _, _, _, rfl, rfl, SqT.of (s3 _ _ ea), rfl, _, rfl, nl, _, rfl, .inl (s3.seq en), rfl, flat_names _, false, congrArg V.bl nin, ?_⟩
      exact k _ s3
    | @truth a n hn ea =>
      refine ⟨_, rfl, _, _, _, _, _, rfl, .ty _, .base (.tup ea), kit_ty (r := true) (by decide +kernel), _, rfl, ?_⟩
      have ok : ([V.str "write", .str n, .bl true]).all okV = true := by
        simp only [List.all_cons, List.all_nil, okV, strOk_name hn, Bool.and_true]
        decide +kernel
      refine ⟨_, rfl, (by show 0 ≤ sizeLine; decide), fun t1 h1 => ?_⟩
      have s1 : Same H _ := same_new (o := .tup []) h1
      refine ⟨_, _, .tup (SqT.of (s1 _ _ ea)) (dpAll_flat rfl), .tup (SqT.of upd_same) .nil, shaped_tup ok, rfl, _, rfl, iteE rfl ?_⟩
      refine ⟨_, rfl, a, _, _, _, rfl, rfl, SqT.of (s1 _ _ ea), atI_nat (j := 0) rfl, _, _, _, _, _, rfl, .ty _, .base (.str _), kit_ty (r := true) (by decide +kernel), _, rfl, ?_⟩
      refine ⟨_, rfl, a, _, _, _, rfl, rfl, SqT.of (s1 _ _ ea), atI_nat (j := 0) rfl, (by show 2 ≤ sizeLine; decide), fun t2 h2 => ?_⟩
      have s2 : Same H _ := s1.trans (same_new (o := .tup [.str "clear", .str "flush"]) h2)
      refine ⟨t2, _, rfl, .inr (SqT.of upd_same), rfl, rfl, _, rfl, iteE (by decide +kernel) ?_⟩
      refine ⟨_, rfl, a, _, _, _, rfl, rfl, SqT.of (s2 _ _ ea), atI_nat (j := 0) rfl, (by show 2 ≤ sizeLine; decide), fun t3 h3 => ?_⟩
      have s3 : Same H _ := s2.trans (same_new (o := .tup [.str "log", .str "write"]) h3)
      refine ⟨t3, _, rfl, .inr (SqT.of upd_same), rfl, rfl, _, rfl, iteE (by decide +kernel) ?_⟩
      refine ⟨_, rfl, a, _, rfl, .inr (SqT.of (s3 _ _ ea)), rfl, _, rfl, ?_⟩
      refine ⟨_, rfl, a, _, _, _, rfl, rfl, SqT.of (s3 _ _ ea), rfl, _, _, _, _, _, rfl, .ty _, .base (.str n), kit_ty (r := true) (by decide +kernel), _, rfl, ?_⟩
      refine ⟨_, rfl, a, _, _, _, rfl, rfl, SqT.of (s3 _ _ ea), rfl, _, rfl, nl, _, rfl, .inl (s3.seq en), rfl, flat_names _, inV (.str n) (ns.map V.str), rfl, ?_⟩
      cases inV (.str n) (ns.map V.str) with
      | false => exact k _ s3
      | true => exact ⟨_, rfl, a, _, _, _, rfl, rfl, SqT.of (s3 _ _ ea), rfl, _, rfl, .inr ⟨⟨_, true, .base (.bl true), kit_ty (r := true) (by decide +kernel), fun _ => kit_ty (r := true) (by decide +kernel)⟩, k _ s3⟩⟩
end

/-! is_safe -/
abbrev sSafe : Stmt := topS 17
abbrev NSafe : List Str := ["values", "events", "one", "store", "event", "wanted", "found", "left"]
abbrev PSafe : List Str := ["values", "events"]
theorem scSafe : FnScope NSafe PSafe (defScope sSafe) := ⟨rfl, rfl, rfl, by decide +kernel, rfl, by decide +kernel, by decide +kernel⟩
theorem cut_take {xs : List V} {k : Nat} : cutV xs none (some (k : Int)) = xs.take k := by
  unfold cutV
  rw [HT.sIx_none, HT.sIx_nat, List.drop_zero]
  rw [Nat.sub_zero, List.take_eq_take_iff]
  omega
theorem cut_drop {xs : List V} {k : Nat} : cutV xs (some (k : Int)) none = xs.drop k := by
  unfold cutV
  rw [HT.sIx_nat, HT.sIx_none, List.take_of_length_le (by rw [List.length_drop]; omega)]
  by_cases h : k ≤ xs.length
  · rw [Nat.min_eq_left h]
  · rw [Nat.min_eq_right (by omega), List.drop_length, List.drop_of_length_le (by omega)]
theorem Paired.take {α β : Type} {F : α → β → Prop} : ∀ {l₁ : List α} {l₂ : List β}, Paired F l₁ l₂ → ∀ n, Paired F (l₁.take n) (l₂.take n)
  | _, _, .nil, n => by simp; exact .nil
  | _, _, .cons r t, 0 => .nil
  | _, _, .cons r t, n + 1 => .cons r (Paired.take t n)
theorem Paired.drop {α β : Type} {F : α → β → Prop} : ∀ {l₁ : List α} {l₂ : List β}, Paired F l₁ l₂ → ∀ n, Paired F (l₁.drop n) (l₂.drop n)
  | _, _, .nil, n => by simp; exact .nil
  | _, _, .cons r t, 0 => .cons r t
  | _, _, .cons r t, n + 1 => Paired.drop t n
theorem Kvs.same {H H' : Hp} {N : List Str} {v : V} {l : Recs} (s : Same H H') (h : Kvs H N v l) : Kvs H' N v l := let ⟨a, e1, e2, e3⟩ := h; ⟨a, e1, s _ _ e2, e3⟩
def finR (l : Recs) (evs : List Evt) : Recs := (apps ((runE l evs).1, (runE l evs).2.1) (runE l evs).2.2).1
def okSt (l f : Recs) (st : Recs × Recs) : Bool := [l, f].any fun l' => decide (l' = recov st.1 st.2)
def okUp (l f : Recs) (evs : List Evt) : Bool := (crs ((runE l evs).1, (runE l evs).2.1) (runE l evs).2.2).all (okSt l f)
def safeB (l : Recs) (evs : List Evt) : Bool := (List.range evs.length).all fun i => okUp l (finR l evs) (evs.take (i + 1))
def Good (H : Hp) (l : Recs) (x : V) : Prop := ∃ ev, evOk l ev ∧ EvAt H x ev
def spSafe (K : PySem.W.Frag) : Sp := fun vs H Q _ => ∃ (d : Addr) (l : Recs) (v : V), vs = [.ref d, v] ∧ H d = some (.dK (kvOf l)) ∧ GoodR l ∧ l.length ≤ 900 ∧
  ((∃ t, (∀ H', Same H H' → TyX K H' v t) ∧ PySem.W.kitOne K t (.type "list") = some false ∧ ∀ H', Same H H' → Q (.bl false) H') ∨
   (∃ (evl : Addr) (xs : List V) (B : V → Bool), v = .ref evl ∧ H evl = some (.lst xs) ∧ (∀ x ∈ xs, (B x = true ∧ Good H l x) ∨ (B x = false ∧ OddAt H x)) ∧ xs.length ≤ 100 ∧
     ((xs.all B = false ∧ ∀ H', Same H H' → Q (.bl false) H') ∨
      (xs.all B = true ∧ ∃ evs, Paired (EvAt H) xs evs ∧ (∀ e ∈ evs, evOk l e) ∧ (∀ n, (runE l (evs.take n)).2.2.length ≤ 9) ∧ ∀ H', Same H H' → Q (.bl (safeB l evs)) H'))))
section
variable {P : Program} {w : World} {K : PySem.W.Frag} {mg : Str → Option Value} {base : Heap} {kw C : Addr}
theorem WellS.run {l0 : Recs} (gl : GoodR l0) {evs : List Evt} (ok : ∀ e ∈ evs, evOk l0 e) (hl : evs.length < 900) : WellS (runE l0 evs).1 (runE l0 evs).2.1 (runE l0 evs).2.2 := by
  obtain ⟨i1, i2, i3, i4, i5⟩ := runE_inv l0 (fun _ => trivial) _ evs rfl ok
  exact ⟨gl.of_names i1 i2, by omega, fun p hp => by rw [i1]; exact i4 p hp, fun e he => evOk_names i1 (i5 e he)⟩
theorem WellS.cho {l g : Recs} {ws : List Evt} (wf : WellS l g ws) (i : Nat) : WellS (cho i (l, g) ws ws.length).1 (cho i (l, g) ws ws.length).2 [] := by
  obtain ⟨k1, k2, k3⟩ := cho_inv i (l, g) ws ws.length
  have k4 := cho_log i (st := (l, g)) (ws := ws) wf.2.2.1 wf.2.2.2 ws.length
  have w2 := wf.2.1
  exact ⟨wf.1.of_names k1 k2, by simp only at k3; show _ + 0 < 900; omega, k4, (fun _ z => nomatch z)⟩
def RunAt (C : Addr) (Hs H : Hp) (S wl : Addr) (l : Recs) (evs : List Evt) : Prop := Same Hs H ∧ Hs S = none ∧ Hs wl = none ∧ StoreAt C (fun _ => False) H S wl (runE l evs).1 (runE l evs).2.1 (runE l evs).2.2
theorem run_in {Hs H1 : Hp} {S wl : Addr} {l : Recs} {evs : List Evt} {i : Nat} {ev : Evt} (R : RunAt C Hs H1 S wl l (evs.take i)) (gl : GoodR l) (oke : ∀ e ∈ evs, evOk l e) (hl : evs.length ≤ 100) (hev : evs[i]? = some ev) :
    WellS (runE l (evs.take i)).1 (runE l (evs.take i)).2.1 (runE l (evs.take i)).2.2 ∧ evOk (runE l (evs.take i)).1 ev := by
  have okT : ∀ x ∈ evs.take i, evOk l x := fun x hx => oke x (List.mem_of_mem_take hx)
  have i1 := (runE_inv l (fun _ => trivial) _ (evs.take i) rfl okT).1
  exact ⟨WellS.run gl okT (by rw [List.length_take]; omega), evOk_names i1 (oke ev (List.mem_of_getElem? hev))⟩
theorem run_next {Hs H1 H2 : Hp} {S wl wl2 : Addr} {l : Recs} {evs : List Evt} {i : Nat} {ev : Evt} (R : RunAt C Hs H1 S wl l (evs.take i)) (hev : evs[i]? = some ev) (hw2 : wl2 = wl ∨ H1 wl2 = none) (b2 : But S wl H1 H2)
    (st2 : StoreAt C (fun _ => False) H2 S wl2 (perf (runE l (evs.take i)).1 (runE l (evs.take i)).2.1 (runE l (evs.take i)).2.2 ev).1 (perf (runE l (evs.take i)).1 (runE l (evs.take i)).2.1 (runE l (evs.take i)).2.2 ev).2.1 (perf (runE l (evs.take i)).1 (runE l (evs.take i)).2.1 (runE l (evs.take i)).2.2 ev).2.2) : RunAt C Hs H2 S wl2 l (evs.take (i + 1)) := by
  obtain ⟨s1, fS, fw, st⟩ := R
  refine ⟨fun b o z => b2 _ _ (s1 _ _ z) (ne_of_none z fS) (ne_of_none z fw), fS, ?_, ?_⟩
  · rcases hw2 with z | z
    · rw [z]; exact fw
    · exact s1.free z
  · rw [take_snoc hev, runE_snoc]
    exact st2
theorem crs_mem {st : Recs × Recs} {ws : List Evt} {s : Recs × Recs} (h : s ∈ crs st ws) : ∃ i, i < 2 ^ ws.length ∧ s = cho i st ws ws.length := by
  obtain ⟨i, hi, rfl⟩ := List.mem_iff_getElem.mp h
  rw [crs_len st _ ws rfl] at hi
  have z := crs_at st _ ws rfl i hi
  rw [List.getElem?_eq_getElem (by rw [crs_len st _ ws rfl]; exact hi)] at z
  exact ⟨i, hi, Option.some.inj z⟩
theorem ok_Safe {f : Addr} {fd : FuncData} (F : Fun K "is_safe" "is_safe" sSafe f fd) (T : TxSt K mg kw) (TC : TxC K C) (GV : Has P w K mg base CX0 2 "is_values" PIsVals spVals) (GE : Has P w K mg base CX0 2 "is_event" PIsEvt (fun vs H Q E => spEvt K vs H Q E ∨ spOdd K vs H Q E)) (HC : HasC P w K mg base CX0 3 "Store" C PSInit (spSInit C))
    (MF : HasM P w K mg base CX0 3 C "perform" PSPerf (spPerf C)) (MC : HasM P w K mg base CX0 3 C "current" PSCur (spCur C)) (MR : HasM P w K mg base CX0 5 C "recovered" PSRec (spRec C)) (MG : HasGM P w K mg base 6 C "crashes" PSCr (spCr C)) : FnOk P w K mg base CX0 8 f fd PSafe (spSafe K) := by
  refine F.ok scSafe (fun vs H Q E h => ?_) (fun cdv A outer s H vs Q E hr h => ?_)
  · obtain ⟨d, l, v, rfl, _⟩ := h
    rfl
  · obtain ⟨d, l, v, rfl, ed, gl, hl, h⟩ := h
    have hu := hu_of hr
    have hr6 := hr.mono (j := 6) (by decide)
    have hr5 := hr.mono (j := 5) (by decide)
    have hr4 := hr.mono (j := 4) (by decide)
    have hr3 := hr.mono (j := 3) (by decide)
    have hr2 := hr.mono (j := 2) (by decide)
    refine ⟨_, (pss_cons (ps_if (pt_not (pt_val (pe_callH GV hr2 rfl pass0 (pa_cons (pv 0) pa_nil))))
  (pss_one ps_never)
  pss_nil)
  (pss_cons (ps_if (PW.pt (pw_or (pt_not (pt_val (pe_callB call_isi (by rfl) T.n_isinstance bb_isinstance (pa_cons (pv 1) (pa_cons (pe_bltn (v := .ty "list") (by rfl) T.n_list bb_list rfl) pa_nil))))) (pw_or1 (pt_not (pt_val (pe_callB (cr_all rfl) (by rfl) T.n_all bb_all (pa_cons (pe_lc (own := [("one", 2)]) (g := gName 2) (tt := tYes) rfl scSafe.nd (pi_list (pv 1)) (blkOk_by (own := [("one", 2)]) (N := NSafe) (sc := (defScope sSafe)) (by decide +kernel)) (fun _ _ _ _ _ => (pg_name (i := 2) scSafe.nd rfl (Or.inl rfl))) (fun _ _ _ _ _ => pts_nil) (fun _ _ _ _ _ => (pe_callH GE hr2 rfl pass0 (pa_cons (pv 2) (pa_cons (pe_callTy (call_list_dK rfl) (by rfl) T.n_list bb_list (pa_cons (pv 0) pa_nil)) pa_nil))))) pa_nil)))))))
  (pss_one (ps_ret pe_bl))
  pss_nil)
  (pss_cons (ps_set (i := 3) scSafe.nd rfl (Or.inl rfl) (pe_makeH HC hr4 rfl pass0 (pa_cons (pv 0) pa_nil)))
  (pss_cons (ps_for PassesOwn.never rfl (pi_list (pv 1)) (pg_name (i := 4) scSafe.nd rfl (Or.inl rfl))
  (pss_one (ps_expr (pe_methH (pv 3) TC.cl MF hr3 pass0 (pa_cons (pv 4) pa_nil)))))
  (pss_cons (ps_set (i := 5) scSafe.nd rfl (Or.inl rfl) (pe_lst (pa_cons (pe_callTy call_dictOf (by rfl) T.n_dict bb_dict (pa_cons (pv 0) pa_nil)) (pa_cons (pe_methH0 (pv 3) TC.cl MC hr3 pass0) pa_nil))))
  (pss_cons (ps_set (i := 3) scSafe.nd rfl (Or.inl rfl) (pe_makeH HC hr4 rfl pass0 (pa_cons (pv 0) pa_nil)))
  (pss_cons (ps_for PassesOwn.never rfl (pi_list (pv 1)) (pg_name (i := 4) scSafe.nd rfl (Or.inl rfl))
  (pss_cons (ps_expr (pe_methH (pv 3) TC.cl MF hr3 pass0 (pa_cons (pv 4) pa_nil)))
  (pss_one (GX.ps_forX (fun _ _ z => z) rfl hr (pgx_methH0 (pv 3) TC.cl MG hr6) (pg_name (i := 6) scSafe.nd rfl (Or.inl rfl))
  (pss_cons (ps_set (i := 7) scSafe.nd rfl (Or.inl rfl) (pe_methH0 (pv 6) TC.cl MR hr5 pass0))
  (pss_one (ps_if (pt_cmpR (op_notInLD (hu_of hr)) (pe_methH0 (pv 7) TC.cl MC hr3 pass0) (pv 5) (by rfl))
  (pss_one (ps_ret pe_bl))
  pss_nil)))))))
  (pss_one (ps_ret pe_bl))))))))), ?_⟩
    refine ⟨_, rfl, d, l, rfl, ed, gl, fun H1 s1 => ⟨true, rfl, ?_⟩⟩
    refine iteE rfl ?_
    rcases h with ⟨t, ty, kt, k⟩ | ⟨evl, xs, B, rfl, ee, hB, hlx, h⟩
    · exact ⟨_, rfl, _, _, _, _, _, rfl, .ty _, ty _ s1, kt, _, rfl, k _ s1⟩
    refine ⟨_, rfl, _, _, _, _, _, rfl, .ty _, .base (.lst (s1 _ _ ee)), kit_ty (r := true) (by decide +kernel), _, rfl, ?_⟩
    have ee1 := s1 _ _ ee
    have nmk : ∀ n ∈ names l, isName n = true := fun n hn => (gl.2.2 n hn).1
    refine ⟨_, rfl, evl, rfl, ⟨_, SqL.of ee1⟩, fun D hD => ?_⟩
    refine lc_list (K := K) (a := evl) (xs := xs) (fun i H' => Same H1 H' ∧ H' D = some (.lst (((xs.take i).map B).map V.bl))) ⟨same_new hD, upd_same⟩ (fun i H' _ h' => SqL.of (h'.1 _ _ ee1)) ?_ ?_
    · rintro i x H2 hx ⟨s2, eD⟩
      have hi : i < xs.length := (List.getElem?_eq_some_iff.mp hx).1
      have t2 := s1.trans s2
      refine ⟨rfl, _, rfl, _, rfl, d, _, rfl, t2 _ _ ed, fun q hq => ?_⟩
      have s3 := same_new (o := .lst ((kvOf l).map fun kv => kV kv.1)) hq
      have t3 := t2.trans s3
      have nl3 : SqL K (upd H2 q (.lst ((kvOf l).map fun kv => kV kv.1))) q ((names l).map V.str) := SqL.of (by rw [← keys_kvOf]; exact upd_same)
      have fin : ∀ (b : Bool), B x = b → ∀ H4, Same (upd H2 q (.lst ((kvOf l).map fun kv => kV kv.1))) H4 → ∃ acc, H4 D = some (.lst acc) ∧ acc.length < sizeLine ∧ Same H1 (upd H4 D (.lst (acc ++ [V.bl b]))) ∧ (upd H4 D (.lst (acc ++ [V.bl b]))) D = some (.lst (((xs.take (i + 1)).map B).map V.bl)) := fun b hb H4 s4 => by
        have eD4 := s4 _ _ (s3 _ _ eD)
        refine ⟨_, eD4, small1000 (by rw [List.length_map, List.length_map, List.length_take]; omega), fun c o z => ?_, ?_⟩
        · rw [upd_ne (ne_of_none z hD)]
          exact s4 _ _ (s3 _ _ (s2 _ _ z))
        · rw [upd_same, take_snoc hx, List.map_append, List.map_append, ← hb]
          rfl
      rcases hB x (List.mem_of_getElem? hx) with ⟨b1, ev, oke, e, rfl, eev⟩ | ⟨b0, odd⟩
      · exact .inl ⟨e, q, ev, l, rfl, t3 _ _ eev, nl3, oke, nmk, fun H4 s4 => fin true b1 H4 s4⟩
      · exact .inr ⟨x, q, names l, rfl, nl3, nmk, odd.same t3, fun H4 s4 => fin false b0 H4 s4⟩
    rintro H2 ⟨s2, eD⟩
    rw [List.take_length] at eD
    refine ⟨D, _, rfl, SqL.of eD, _, rfl, ?_⟩
    have eall : (xs.map B).all id = xs.all B := by rw [List.all_map]; rfl
    rw [eall]
    have t2 := s1.trans s2
    rcases h with ⟨b0, k⟩ | ⟨b1, evs, pe, oke, hp9, k⟩
    · exact iteS (by rw [b0]; rfl) (k _ t2)
    refine iteE (by rw [b1]; rfl) ?_
    have le : xs.length = evs.length := Paired.length pe
    have le' : evs.length ≤ 100 := by omega
    have ed2 := t2 _ _ ed
    have pe2 : Paired (EvAt H2) xs evs := Paired.mapP pe fun _ _ z => z.same t2
    -- the first store
    refine ⟨_, rfl, fun S dS hS' hdS ne => ?_⟩
    have s3 : Same H2 (upd (upd H2 dS (.own S)) S (.ins C dS [])) := fun b o z => by
      rw [upd_ne (ne_of_none z hS'), upd_ne (ne_of_none z hdS)]
      exact z
    refine ⟨fun _ => False, S, d, dS, l, rfl, (fun _ z => z.elim), upd_same, s3 _ _ ed2, gl, fun wl H3 hw st3 kp => ⟨rfl, ?_⟩⟩
    have s4 : Same H2 H3 := fun b o z => kp b o (s3 b o z) (ne_of_none z hS')
    have ee3 := t2 _ _ ee
    refine ⟨_, rfl, evl, rfl, ⟨_, SqL.of (s4 _ _ ee3)⟩, ?_⟩
    refine for_list (K := K) (a := evl) (xs := xs) (fun i σ H' => ∃ (wl : Addr) (x4 : Option V), σ = [some (.ref d), some (.ref evl), none, some (.ref S), x4, none, none, none] ∧ RunAt C H2 H' S wl l (evs.take i)) ⟨wl, _, rfl, s4, hS', s3.free hw, st3⟩ (fun i σ H' _ h' => by obtain ⟨_, _, _, z⟩ := h'; exact SqL.of (z.1 _ _ ee3)) ?_ ?_
    · rintro i x σ H4 hx ⟨wl4, x4, rfl, R⟩
      obtain ⟨ev, hev, e, rfl, eev⟩ := Paired.at pe2 hx
      obtain ⟨_, _, _, dx, a0, ys0, y1, _⟩ := id R
      obtain ⟨wf4, ok4⟩ := run_in R gl oke le' hev
      exact ⟨_, rfl, S, dx, _, rfl, y1, rfl, _, rfl, fun _ => False, S, wl4, e, _, _, _, ev, rfl, (fun _ z => z.elim), R.2.2.2, wf4, R.1 _ _ eev, ok4, fun wl5 H5 hw5 b5 st5 => ⟨wl5, _, rfl, run_next R hev hw5 b5 st5⟩⟩
    rintro σ H4 ⟨wl4, x4, rfl, R⟩
    rw [le, List.take_length] at R
    obtain ⟨s5, _, _, st5⟩ := R
    have wfE := WellS.run gl oke (by omega)
    obtain ⟨dx5, a5, ys5, y5, _⟩ := id st5
    -- wanted
    refine ⟨_, rfl, d, _, rfl, .inl (s5 _ _ ed2), fun p1 hp1 => ?_⟩
    have s6 := same_new (o := .dK (kvOf l)) hp1
    refine ⟨_, rfl, S, dx5, _, rfl, s6 _ _ y5, rfl, fun _ => False, S, wl4, _, _, _, rfl, (fun _ z => z.elim), st5.same s6, wfE, fun p2 H6 s7 fp2 ep2 => ?_⟩
    have ep2 : H6 p2 = some (.dK (kvOf (finR l evs))) := ep2
    refine ⟨(by show 2 ≤ sizeLine; decide), fun W hW => ?_⟩
    have s8 := same_new (o := .lst [.ref p1, .ref p2]) hW
    have nmF : names (finR l evs) = names l := (apps_inv _ _).1.trans (runE_inv l (fun _ => trivial) _ evs rfl oke).1
    obtain ⟨H7, eH7⟩ : ∃ H7, H7 = upd H6 W (.lst [.ref p1, .ref p2]) := ⟨_, rfl⟩
    have t7 : Same H2 H7 := by rw [eH7]; exact ((s5.trans s6).trans s7).trans s8
    have eW : H7 W = some (.lst [.ref p1, .ref p2]) := by rw [eH7]; exact upd_same
    have pW : Paired (Kvs H7 (names l)) [.ref p1, .ref p2] [l, finR l evs] := by
      rw [eH7]
      exact .cons ⟨p1, rfl, s8 _ _ (s7 _ _ upd_same), rfl⟩ (.cons ⟨p2, rfl, s8 _ _ ep2, nmF⟩ .nil)
    rw [← eH7]
    -- the second store
    refine ⟨_, rfl, fun S2 dS2 hS2 hdS2 ne2 => ?_⟩
    have s9 : Same H7 (upd (upd H7 dS2 (.own S2)) S2 (.ins C dS2 [])) := fun b o z => by
      rw [upd_ne (ne_of_none z hS2), upd_ne (ne_of_none z hdS2)]
      exact z
    refine ⟨fun _ => False, S2, d, dS2, l, rfl, (fun _ z => z.elim), upd_same, s9 _ _ (t7 _ _ ed2), gl, fun wl2 H8 hw2 st8 kp2 => ⟨rfl, ?_⟩⟩
    have s10 : Same H7 H8 := fun b o z => kp2 b o (s9 b o z) (ne_of_none z hS2)
    have ee7 := t7 _ _ ee3
    have pe7 : Paired (EvAt H7) xs evs := Paired.mapP pe2 fun _ _ z => z.same t7
    refine ⟨_, rfl, evl, rfl, ⟨_, SqL.of (s10 _ _ ee7)⟩, ?_⟩
    refine for_list (K := K) (a := evl) (xs := xs) (fun i σ H' => ∃ (wl : Addr) (x4 x6 x7 : Option V), σ = [some (.ref d), some (.ref evl), none, some (.ref S2), x4, some (.ref W), x6, x7] ∧ RunAt C H7 H' S2 wl l (evs.take i) ∧ ∀ j, j < i → okUp l (finR l evs) (evs.take (j + 1)) = true) ⟨wl2, _, _, _, rfl, ⟨s10, hS2, s9.free hw2, st8⟩, fun j hj => absurd hj (Nat.not_lt_zero _)⟩ (fun i σ H' _ h' => by obtain ⟨_, _, _, _, _, z, _⟩ := h'; exact SqL.of (z.1 _ _ ee7)) ?_ ?_
    · rintro i x σ H9 hx ⟨wl9, x4, x6, x7, rfl, R, hok⟩
      obtain ⟨ev, hev, e, rfl, eev⟩ := Paired.at pe7 hx
      have hi : i < evs.length := (List.getElem?_eq_some_iff.mp hev).1
      obtain ⟨_, _, _, dx, a0, ys0, y1, _⟩ := id R
      obtain ⟨wf9, ok9⟩ := run_in R gl oke le' hev
      refine ⟨_, rfl, S2, dx, _, rfl, y1, rfl, _, rfl, fun _ => False, S2, wl9, e, _, _, _, ev, rfl, (fun _ z => z.elim), R.2.2.2, wf9, R.1 _ _ eev, ok9, fun wl10 H10 hw10 b10 st10 => ?_⟩
      have R10 := run_next R hev hw10 b10 st10
      have okT1 : ∀ x ∈ evs.take (i + 1), evOk l x := fun x hx => oke x (List.mem_of_mem_take hx)
      have wf10 := WellS.run gl okT1 (by rw [List.length_take]; omega)
      have nm10 := (runE_inv l (fun _ => trivial) _ (evs.take (i + 1)) rfl okT1).1
      have hp10 := hp9 (i + 1)
      have eUp : okUp l (finR l evs) (evs.take (i + 1)) = (crs ((runE l (evs.take (i + 1))).1, (runE l (evs.take (i + 1))).2.1) (runE l (evs.take (i + 1))).2.2).all (okSt l (finR l evs)) := rfl
      obtain ⟨sR, fS2, fw10, st10'⟩ := id R10
      obtain ⟨l2, g2, ws2, eq2⟩ : ∃ l2 g2 ws2, runE l (evs.take (i + 1)) = (l2, g2, ws2) := ⟨_, _, _, rfl⟩
      rw [eq2] at wf10 nm10 hp10 eUp st10'
      simp only at wf10 nm10 hp10 eUp st10'
      obtain ⟨dx10, a10, ys10, y10, _⟩ := id st10'
      refine ⟨_, rfl, S2, dx10, _, rfl, y10, rfl, crIt C S2 wl10 l2 g2 ws2, (0 : Nat), .mk st10' wf10 (by omega), ?_⟩
      refine ⟨fun γ σ H' => ∃ (k : Nat) (x6 x7 : Option V), k = γ ∧ σ = [some (.ref d), some (.ref evl), none, some (.ref S2), some (.ref e), some (.ref W), x6, x7] ∧ Same H10 H' ∧ ∀ j, j < k → okSt l (finR l evs) (cho j (l2, g2) ws2 ws2.length) = true, ⟨0, _, _, rfl, rfl, Same.refl _, fun j hj => absurd hj (Nat.not_lt_zero _)⟩, ?_⟩
      rintro γ σ H11 ⟨k11, x6, x7, rfl, rfl, s11, ok11⟩
      refine ⟨st10'.same s11, ?_, ?_⟩
      · rintro H' ⟨rfl, hk⟩
        have hk : k11 = 2 ^ ws2.length := hk
        refine ⟨wl10, _, _, _, rfl, ⟨sR.trans s11, fS2, fw10, by rw [eq2]; exact st10'.same s11⟩, fun j hj => ?_⟩
        by_cases hji : j < i
        · exact hok j hji
        · obtain rfl : j = i := by omega
          rw [eUp]
          refine List.all_eq_true.mpr fun s hs => ?_
          obtain ⟨m, hm, rfl⟩ := crs_mem hs
          exact ok11 m (by omega)
      · rintro x H12 γ' ⟨eγ, hlt, p, wl', rfl, s12, fp, fw, out⟩
        obtain rfl : k11 + 1 = γ' := eγ.symm
        have hlt : k11 < 2 ^ ws2.length := hlt
        have st12 := out (fun _ => False) (fun _ z => z.elim) (st10'.same s11)
        obtain ⟨L, hL⟩ : ∃ L, L = cho k11 (l2, g2) ws2 ws2.length := ⟨_, rfl⟩
        have wfL := wf10.cho k11
        have ch := cho_inv k11 (l2, g2) ws2 ws2.length
        rw [← hL] at st12 wfL ch
        obtain ⟨dx12, a12, ys12, y12, _⟩ := id st12
        refine ⟨_, rfl, p, dx12, _, rfl, y12, rfl, fun _ => False, p, wl', L.1, L.2, [], rfl, (fun _ z => z.elim), st12, wfL, fun S3 wl3 H13 s13 f13 fw13 st13 => ?_⟩
        have st13 : StoreAt C (fun _ => False) H13 S3 wl3 (recov L.1 L.2) [] [] := st13
        obtain ⟨r1, r2⟩ := recF_inv L.1 L.2.reverse
        have gR1 : GoodR (recov L.1 L.2) := wfL.1.of_names r1 r2
        have wf13 : WellS (recov L.1 L.2) [] [] := ⟨gR1, by decide, (fun _ z => nomatch z), (fun _ z => nomatch z)⟩
        obtain ⟨dx13, a13, ys13, y13, _⟩ := id st13
        refine ⟨_, rfl, S3, dx13, _, rfl, y13, rfl, fun _ => False, S3, wl3, _, [], [], rfl, (fun _ z => z.elim), st13, wf13, fun p14 H14 s14 f14 e14 => ?_⟩
        have e14 : H14 p14 = some (.dK (kvOf (recov L.1 L.2))) := e14
        have t14 := (s11.trans s12).trans (s13.trans s14)
        have nmR : names (recov L.1 L.2) = names l := r1.trans (ch.1.trans nm10)
        have sW : Same H7 H14 := sR.trans t14
        refine ⟨_, rfl, p14, W, recov L.1 L.2, [.ref p1, .ref p2], [l, finR l evs], names l, rfl, rfl, e14, nmR, sW _ _ eW, Paired.mapP pW (fun _ _ z => z.same sW), gl.1, _, rfl, ?_⟩
        have eok : ([l, finR l evs].any fun l' => decide (l' = recov L.1 L.2)) = okSt l (finR l evs) L := rfl
        cases hb : okSt l (finR l evs) L with
        | false =>
          refine iteS (by rw [eok, hb]; rfl) ?_
          have : safeB l evs = false := by
            refine List.all_eq_false.mpr ⟨i, List.mem_range.mpr hi, ?_⟩
            rw [eUp]
            intro z
            have := List.all_eq_true.mp z L (by
              have y := crs_at (l2, g2) ws2.length ws2 rfl k11 hlt
              rw [← hL] at y
              exact List.mem_of_getElem? y)
            rw [hb] at this
            cases this
          rw [this] at k
          exact k _ (t2.trans (t7.trans sW))
        | true =>
          refine iteE (by rw [eok, hb]; rfl) ?_
          refine ⟨k11 + 1, _, _, rfl, rfl, t14, fun j hj => ?_⟩
          by_cases hjk : j < k11
          · exact ok11 j hjk
          · obtain rfl : j = k11 := by omega
            rw [← hL]; exact hb
    · rintro σ H9 ⟨wl9, x4, x6, x7, rfl, R, hok⟩
      rw [le] at hok
      have : safeB l evs = true := List.all_eq_true.mpr fun i hi => hok i (List.mem_range.mp hi)
      rw [this] at k
      exact k _ (t2.trans (t7.trans R.1))
end

/-! k28: the law's parts -/
abbrev sLSafe : Stmt := topS 28
abbrev NLSafe : List Str := ["_law_values", "_law_events", "_law_state", "_law_event_here", "_law_count", "_law_left", "_law_found"]
abbrev PLSafe : List Str := ["_law_values", "_law_events"]
theorem scLSafe : FnScope NLSafe PLSafe (defScope sLSafe) := ⟨rfl, rfl, rfl, by decide +kernel, rfl, by decide +kernel, by decide +kernel⟩
abbrev sProt : Stmt := topS 29
abbrev NProt : List Str := ["_law_pool_here", "_law_values", "_law_names_here", "_law_events", "_law_name", "_law_worth", "_law_at", "_law_choice", "_law_moved", "_law_rest", "_law_spot"]
abbrev PProt : List Str := ["_law_pool_here", "_law_values", "_law_names_here"]
theorem scProt : FnScope NProt PProt (defScope sProt) := ⟨rfl, rfl, rfl, by decide +kernel, rfl, by decide +kernel, by decide +kernel⟩
abbrev sFlu : Stmt := topS 30
abbrev NFlu : List Str := ["_law_events", "_law_found", "_law_pending", "_law_event_here"]
abbrev PFlu : List Str := ["_law_events"]
theorem scFlu : FnScope NFlu PFlu (defScope sFlu) := ⟨rfl, rfl, rfl, by decide +kernel, rfl, by decide +kernel, by decide +kernel⟩
abbrev sLaw : Stmt := topS 31
abbrev NLaw : List Str := ["_law_script", "_law_pool_here", "_law_names_here", "_law_values", "_law_kept_values", "_law_name", "_law_events", "_law_k", "_law_given", "_law_told", "_law_at", "_law_odd", "_law_wrong"]
abbrev PLaw : List Str := ["_law_script"]
theorem scLaw : FnScope NLaw PLaw (defScope sLaw) := ⟨rfl, rfl, rfl, by decide +kernel, rfl, by decide +kernel, by decide +kernel⟩
theorem finR_apps (l : Recs) : ∀ (n : Nat) (evs : List Evt), evs.length = n → (apps ((runE l evs).1, (runE l evs).2.1) (runE l evs).2.2) = apps (l, []) evs
  | 0, evs, h => by rw [List.length_eq_zero_iff.mp h]; rfl
  | n + 1, evs, h => by
    obtain ⟨w, e, rfl⟩ : ∃ w e, evs = w ++ [e] := ⟨evs.dropLast, evs.getLast (by intro z; rw [z] at h; cases h), (List.dropLast_concat_getLast _).symm⟩
    have hw : w.length = n := by rw [List.length_append] at h; simpa using h
    have ih := finR_apps l n w hw
    rw [runE_snoc, apps_snoc, ← ih]
    cases e with
    | flush => rfl
    | log a b => exact apps_snoc ..
    | write a b => exact apps_snoc ..
    | clear => exact apps_snoc ..
section
variable {P : Program} {w : World} {K : PySem.W.Frag} {mg : Str → Option Value} {base : Heap} {kw C pp : Addr}
def spLSafe : Sp := fun vs H Q _ => ∃ (d evl : Addr) (l : Recs) (evs : List Evt) (xs : List V), vs = [.ref d, .ref evl] ∧ H d = some (.dK (kvOf l)) ∧ H evl = some (.lst xs) ∧ Paired (EvAt H) xs evs ∧ (∀ e ∈ evs, evOk l e) ∧ GoodR l ∧ l.length ≤ 900 ∧ evs.length ≤ 100 ∧ (∀ n, (runE l (evs.take n)).2.2.length ≤ 9) ∧ ∀ H', Same H H' → Q (.bl (safeB l evs)) H'
theorem ok_LSafe {f : Addr} {fd : FuncData} (F : Fun K "_law_is_safe" "_law_is_safe" sLSafe f fd) (T : TxSt K mg kw) (GA : Has P w K mg base CX0 1 "_law_applied" PLApp spLApp) (GC : Has P w K mg base CX0 2 "_law_crashes" PLCr spLCr) (GR : Has P w K mg base CX0 1 "_law_recovered" PLRec spLRec) : FnOk P w K mg base CX0 3 f fd PLSafe spLSafe := by
  refine F.ok scLSafe (fun vs H Q E h => ?_) (fun cdv A outer s H vs Q E hr h => ?_)
  · obtain ⟨d, evl, l, evs, xs, rfl, _⟩ := h
    rfl
  · obtain ⟨d, evl, l, evs, xs, rfl, ed, ee, pe, oke, gl, hl, hle, hp9, k⟩ := h
    have hr1 := hr.mono (j := 1) (by decide)
    refine ⟨_, (pss_cons (ps_set (i := 2) scLSafe.nd rfl (Or.inl rfl) (pe_tup (pa_cons (pv 0) (pa_cons (pe_lst pa_nil) pa_nil))))
  (pss_cons (ps_for PassesOwn.never rfl (pi_list (pv 1)) (pg_name (i := 3) scLSafe.nd rfl (Or.inl rfl))
  (pss_one (ps_set (i := 2) scLSafe.nd rfl (Or.inl rfl) (pe_callH GA hr1 rfl pass0 (pa_cons (pv 2) (pa_cons (pv 3) pa_nil))))))
  (pss_cons (ps_for PassesOwn.never rfl (pi_range1 (by rfl) T.n_range (pa_cons (pe_op op_add (pe_callB call_len_seq (by rfl) T.n_len bb_len (pa_cons (pv 1) pa_nil)) pe_int) pa_nil)) (pg_name (i := 4) scLSafe.nd rfl (Or.inl rfl))
  (pss_one (ps_for PassesOwn.never rfl (pi_list (pe_callH GC hr rfl pass0 (pa_cons (pv 0) (pa_cons (pe_slice sl_list (pv 1) po_none (po_some (pv 4))) pa_nil)))) (pg_name (i := 5) scLSafe.nd rfl (Or.inl rfl))
  (pss_cons (ps_set (i := 6) scLSafe.nd rfl (Or.inl rfl) (pe_callH GR hr1 rfl pass0 (pa_cons (pv 5) pa_nil)))
  (pss_one (ps_if (PW.pt (pw_and (pt_cmpR (op_neKv hr.units0) (pv 6) (pv 0) (nomark _)) (pw_and1 (pt_cmpR (op_neKv hr.units0) (pv 6) (pe_ix (r := rIxT K) ix_tup (pv 2) pe_int (fun _ _ => rfl)) (nomark _)))))
  (pss_one (ps_ret pe_bl))
  pss_nil))))))
  (pss_one (ps_ret pe_bl))))), ?_⟩
    have lx : xs.length = evs.length := Paired.length pe
    have noA : ∀ Hx : Hp, Av (fun _ => False) Hx := fun _ _ z => z.elim
    refine ⟨_, rfl, (by show 0 ≤ sizeLine; decide), fun q0 hq0 => ⟨(by show 2 ≤ sizeLine; decide), fun t0 ht0 => ?_⟩⟩
    have s1 := same_new (o := .lst []) hq0
    have s2 := same_new (o := .tup [.ref d, .ref q0]) ht0
    have sA := s1.trans s2
    refine ⟨_, rfl, evl, rfl, ⟨_, SqL.of (sA _ _ ee)⟩, ?_⟩
    refine for_list (K := K) (a := evl) (xs := xs) (fun i σ H' => ∃ (st : Addr) (x3 : Option V), σ = [some (.ref d), some (.ref evl), some (.ref st), x3, none, none, none] ∧ Same H H' ∧ StateAt (fun _ => False) H' st (apps (l, []) (evs.take i)).1 (apps (l, []) (evs.take i)).2) ⟨t0, _, rfl, sA, ⟨d, q0, [], upd_same, sA _ _ ed, s2 _ _ upd_same, .nil, (fun z => z), (fun z => z)⟩⟩ (fun i σ H' _ h' => by obtain ⟨_, _, _, s', _⟩ := h'; exact SqL.of (s' _ _ ee)) ?_ ?_
    · rintro i x σ H1 hx ⟨st, x3, rfl, sm, q1⟩
      obtain ⟨ev, hev, e, rfl, eev⟩ := Paired.at pe hx
      have hi : i < evs.length := (List.getElem?_eq_some_iff.mp hev).1
      obtain ⟨i1, i2, i3⟩ := apps_inv (l, []) (evs.take i)
      have lt : (evs.take i).length = i := by rw [List.length_take]; omega
      refine ⟨_, rfl, _, rfl, fun _ => False, st, e, _, _, ev, rfl, noA _, q1, sm _ _ eev, evOk_names i1 (oke ev (List.mem_of_getElem? hev)), by rw [i1]; exact gl.1, by rw [i2]; exact hl, by rw [lt] at i3; simp only [List.length_nil] at i3; omega, fun a' H2 s3 q2 => ?_⟩
      refine ⟨a', _, rfl, sm.trans s3, ?_⟩
      rw [take_snoc hev, apps_snoc]
      exact q2
    rintro σ H1 ⟨st, x3, rfl, sm, q1⟩
    rw [lx, List.take_length] at q1
    obtain ⟨i1, i2, i3⟩ := apps_inv (l, []) evs
    have eF : (apps (l, []) evs).1 = finR l evs := by rw [← finR_apps l _ evs rfl]; rfl
    rw [eF] at q1 i1
    obtain ⟨dv, dl, zs, u1, u2, u3, u4, u5⟩ := id q1
    refine ⟨_, rfl, evl, _, rfl, .inl (SqL.of (sm _ _ ee)), _, _, rfl, rfl, _, rfl, by rw [lx]; omega, by rw [lx]; omega, ?_⟩
    have nat1 : ((xs.length : Int) + 1).toNat = evs.length + 1 := by rw [lx]; omega
    refine for_range (lo := 0) (n := ((xs.length : Int) + 1).toNat) (fun c σ H' => ∃ x3 x4 x5 x6 : Option V, σ = [some (.ref d), some (.ref evl), some (.ref st), x3, x4, x5, x6] ∧ Same H1 H' ∧ ∀ j, j < c → okUp l (finR l evs) (evs.take j) = true) ⟨_, _, _, _, rfl, Same.refl _, fun j hj => absurd hj (Nat.not_lt_zero _)⟩ ?_ ?_
    · rintro c σ H2 hc ⟨y3, y4, y5, y6, rfl, s2, hok⟩
      rw [nat1] at hc
      have t2 := sm.trans s2
      refine ⟨_, rfl, _, rfl, _, rfl, _, rfl, evl, _, rfl, SqL.of (t2 _ _ ee), fun p hp => ?_⟩
      have s3 := same_new (o := .lst (cutV xs none (some (0 + (c : Int))))) hp
      have okT : ∀ x ∈ evs.take c, evOk l x := fun x hx => oke x (List.mem_of_mem_take hx)
      refine ⟨fun _ => False, d, p, l, evs.take c, xs.take c, rfl, noA _, (fun z => z), s3 _ _ (t2 _ _ ed), by rw [upd_same, Int.zero_add, cut_take], Paired.mapP (Paired.take pe c) (fun _ _ z => (z.same t2).same s3), okT, gl.1, hl, by rw [List.length_take]; omega, hp9 c, fun q ys H3 s4 fq eq pz => ?_⟩
      have wf := WellS.run gl okT (by rw [List.length_take]; omega)
      have nmc := (runE_inv l (fun _ => trivial) _ (evs.take c) rfl okT).1
      have hlc := (runE_inv l (fun _ => trivial) _ (evs.take c) rfl okT).2.1
      have eUp : okUp l (finR l evs) (evs.take c) = (crs ((runE l (evs.take c)).1, (runE l (evs.take c)).2.1) (runE l (evs.take c)).2.2).all (okSt l (finR l evs)) := rfl
      obtain ⟨l2, g2, ws2, eq2⟩ : ∃ l2 g2 ws2, runE l (evs.take c) = (l2, g2, ws2) := ⟨_, _, _, rfl⟩
      rw [eq2] at wf pz nmc hlc eUp
      simp only at wf pz nmc hlc eUp
      have t4 := (t2.trans s3).trans s4
      have s14 := (s2.trans s3).trans s4
      refine ⟨q, rfl, ⟨_, SqL.of eq⟩, ?_⟩
      refine for_list (K := K) (a := q) (xs := ys) (fun j σ H' => ∃ x5 x6 : Option V, σ = [some (.ref d), some (.ref evl), some (.ref st), y3, some (.int (0 + (c : Int))), x5, x6] ∧ Same H3 H' ∧ ∀ s ∈ (crs (l2, g2) ws2).take j, okSt l (finR l evs) s = true) ⟨_, _, rfl, Same.refl _, fun s hs => by rw [List.take_zero] at hs; cases hs⟩ (fun j σ H' _ h' => by obtain ⟨_, _, _, s', _⟩ := h'; exact SqL.of (s' _ _ eq)) ?_ ?_
      · rintro j x σ H5 hx ⟨z5, z6, rfl, s5, hs5⟩
        obtain ⟨sv, hsv, a', rfl, sa⟩ := Paired.at pz hx
        obtain ⟨m, hm, em⟩ := crs_mem (List.mem_of_getElem? hsv)
        have ch := cho_inv m (l2, g2) ws2 ws2.length
        have cl := cho_log m (st := (l2, g2)) (ws := ws2) wf.2.2.1 wf.2.2.2 ws2.length
        have wL := wf.cho m
        rw [← em] at ch cl wL
        simp only at ch
        have wg := wL.2.1
        have w2g := wf.2.1
        refine ⟨_, rfl, fun _ => False, a', sv.1, sv.2, rfl, sa.same s5, wL.1.1, by omega, by omega, cl, fun r H6 s6 fr er => ?_⟩
        have t6 := s5.trans s6
        have nmr : names (recov sv.1 sv.2) = names l := (recF_inv sv.1 sv.2.reverse).1.trans (ch.1.trans nmc)
        have nnd : (names (recov sv.1 sv.2)).Nodup := by rw [nmr]; exact gl.1
        have eok : okSt l (finR l evs) sv = (decide (l = recov sv.1 sv.2) || (decide (finR l evs = recov sv.1 sv.2) || false)) := rfl
        refine ⟨_, rfl, _, rfl, r, d, _, _, rfl, rfl, er, (s4.trans t6) _ _ (s3 _ _ (t2 _ _ ed)), nmr, nnd, _, rfl, ?_⟩
        have next : okSt l (finR l evs) sv = true → ∃ x5 x6 : Option V, ([some (.ref d), some (.ref evl), some (.ref st), y3, some (.int (0 + (c : Int))), some (.ref a'), some (.ref r)] : L2.St) = [some (.ref d), some (.ref evl), some (.ref st), y3, some (.int (0 + (c : Int))), x5, x6] ∧ Same H3 H6 ∧ ∀ s ∈ (crs (l2, g2) ws2).take (j + 1), okSt l (finR l evs) s = true := fun hb => ⟨_, _, rfl, t6, fun s hs => by
          rw [take_snoc hsv] at hs
          rcases List.mem_append.mp hs with z | z
          · exact hs5 s z
          · rw [List.mem_singleton.mp z]; exact hb⟩
        by_cases h1 : recov sv.1 sv.2 = l
        · refine iteE (by rw [decide_eq_true h1]; rfl) ?_
          exact next (by rw [eok, decide_eq_true h1.symm]; rfl)
        · refine iteS (by rw [decide_eq_false h1]; rfl) ?_
          refine ⟨_, rfl, _, rfl, st, _, _, _, rfl, rfl, SqT.of ((s14.trans t6) _ _ u1), rfl, r, dv, _, _, rfl, rfl, er, (s14.trans t6) _ _ u2, nmr.trans i1.symm, nnd, _, rfl, ?_⟩
          by_cases h2 : recov sv.1 sv.2 = finR l evs
          · refine iteE (by rw [decide_eq_true h2]; rfl) ?_
            exact next (by rw [eok, decide_eq_true h2.symm, Bool.or_comm]; rfl)
          · refine iteS (by rw [decide_eq_false h2]; rfl) ?_
            have hb : okSt l (finR l evs) sv = false := by rw [eok, decide_eq_false (fun z => h1 z.symm), decide_eq_false (fun z => h2 z.symm)]; rfl
            have hU : ¬ okUp l (finR l evs) (evs.take c) = true := fun z => by
              rw [eUp] at z
              have := List.all_eq_true.mp z sv (List.mem_of_getElem? hsv)
              rw [hb] at this
              cases this
            have : safeB l evs = false := by
              cases c with
              | zero =>
                refine absurd ?_ hU
                have e0 : runE l (evs.take 0) = (l, [], []) := by rw [List.take_zero]; rfl
                rw [eq2] at e0
                cases e0
                rw [eUp]
                show (okSt l (finR l evs) (l, []) && true) = true
                have : okSt l (finR l evs) (l, []) = (decide (l = l) || (decide (finR l evs = l) || false)) := rfl
                rw [this, decide_eq_true rfl]
                rfl
              | succ c => exact List.all_eq_false.mpr ⟨c, List.mem_range.mpr (by omega), hU⟩
            rw [this] at k
            exact k _ (t4.trans t6)
      · rintro σ H5 ⟨z5, z6, rfl, s5, hs5⟩
        rw [Paired.length pz, List.take_length] at hs5
        refine ⟨_, _, _, _, rfl, s14.trans s5, fun j hj => ?_⟩
        by_cases hjc : j < c
        · exact hok j hjc
        · obtain rfl : j = c := by omega
          rw [eUp]
          exact List.all_eq_true.mpr hs5
    · rintro σ H2 ⟨y3, y4, y5, y6, rfl, s2, hok⟩
      rw [nat1] at hok
      have : safeB l evs = true := List.all_eq_true.mpr fun i hi => hok (i + 1) (by have := List.mem_range.mp hi; omega)
      rw [this] at k
      exact k _ (sm.trans s2)
end

/-! _law_with_flushes, _law_protocol -/
theorem Good.same {H H' : Hp} {l : Recs} {x : V} (s : Same H H') (h : Good H l x) : Good H' l x := let ⟨ev, o, e⟩ := h; ⟨ev, o, e.same s⟩
theorem Good.but {H H' : Hp} {p c : Addr} {lim : V} {n : Nat} {l : Recs} {x : V} (P : PoolAt H p c lim n) (b : But p c H H') (h : Good H l x) : Good H' l x := by
  obtain ⟨ev, o, a, e, w⟩ := h
  obtain ⟨⟨y1, h1⟩, ⟨y2, h2⟩⟩ := P.lst
  exact ⟨ev, o, a, e, b _ _ w (ne_of w h1 fun z => by cases z) (ne_of w h2 fun z => by cases z)⟩
theorem Good.upd {H : Hp} {q : Addr} {zs : List V} {o : HO} {l : Recs} {x : V} (eq : H q = some (.lst zs)) (h : Good H l x) : Good (L2.upd H q o) l x := by
  obtain ⟨ev, ok, a, e, w⟩ := h
  exact ⟨ev, ok, a, e, by rw [upd_ne (ne_of w eq fun z => by cases z)]; exact w⟩
theorem good_evs {H : Hp} {l : Recs} : ∀ {xs : List V}, (∀ x ∈ xs, Good H l x) → ∃ evs, Paired (EvAt H) xs evs ∧ ∀ e ∈ evs, evOk l e
  | [], _ => ⟨[], .nil, fun _ z => nomatch z⟩
  | x :: r, h => by
    obtain ⟨evs, p, o⟩ := good_evs (xs := r) fun y hy => h y (List.mem_cons_of_mem _ hy)
    obtain ⟨ev, ok, e⟩ := h x List.mem_cons_self
    exact ⟨ev :: evs, .cons e p, fun y hy => by
      rcases List.mem_cons.mp hy with z | z
      · rw [z]; exact ok
      · exact o y z⟩
theorem evs_good {H : Hp} {l : Recs} {xs : List V} {evs : List Evt} (p : Paired (EvAt H) xs evs) (o : ∀ e ∈ evs, evOk l e) : ∀ x ∈ xs, Good H l x := fun x hx => by
  obtain ⟨i, hi, rfl⟩ := List.mem_iff_getElem.mp hx
  obtain ⟨ev, hev, e⟩ := Paired.at p (List.getElem?_eq_getElem hi)
  exact ⟨ev, o ev (List.mem_of_getElem? hev), e⟩
theorem perf_len (l g : Recs) (ws : List Evt) (ev : Evt) : (perf l g ws ev).2.2.length = if ev matches .flush then 0 else ws.length + 1 := by
  have q : ∀ e : Evt, (ws ++ [e]).length = ws.length + 1 := fun e => by rw [List.length_append]; rfl
  cases ev with
  | flush => rfl
  | log n v => exact q _
  | write n v => exact q _
  | clear => exact q _
theorem six_snoc {l : Recs} {evs : List Evt} {ev : Evt} {N : Nat} (h : ∀ k, (runE l (evs.take k)).2.2.length ≤ N) (hl : (runE l (evs ++ [ev])).2.2.length ≤ N) : ∀ k, (runE l ((evs ++ [ev]).take k)).2.2.length ≤ N := fun k => by
  by_cases hk : k ≤ evs.length
  · rw [List.take_append_of_le_length hk]
    exact h k
  · rw [List.take_of_length_le (by rw [List.length_append]; show evs.length + 1 ≤ k; omega)]
    exact hl
section
variable {P : Program} {w : World} {K : PySem.W.Frag} {mg : Str → Option Value} {base : Heap} {kw C pp : Addr}
def spFlu : Sp := fun vs H Q _ => ∃ (evl : Addr) (l : Recs) (evs : List Evt) (xs : List V), vs = [.ref evl] ∧ H evl = some (.lst xs) ∧ Paired (EvAt H) xs evs ∧ (∀ e ∈ evs, evOk l e) ∧ evs.length ≤ 40 ∧
  ∀ (q : Addr) (ys : List V) (es : List Evt) (H' : Hp), Same H H' → H q = none → H' q = some (.lst ys) → Paired (EvAt H') ys es → (∀ e ∈ es, evOk l e) → (∀ n, (runE l (es.take n)).2.2.length ≤ 5) → es.length ≤ 80 → Q (.ref q) H'
/-- what is found so far -/
def FluI (H0 H : Hp) (q : Addr) (l : Recs) (i : Nat) (pend : Int) : Prop := Same H0 H ∧ ∃ ys es, H q = some (.lst ys) ∧ Paired (EvAt H) ys es ∧ (∀ e ∈ es, evOk l e) ∧ (∀ n, (runE l (es.take n)).2.2.length ≤ 5) ∧ es.length ≤ i ∧ pend = ((runE l es).2.2.length : Int)
theorem FluI.put {H0 H : Hp} {q e : Addr} {l : Recs} {i : Nat} {pend : Int} {ev : Evt} (f : H0 q = none) (h : FluI H0 H q l i pend) (he : H e = some (.tup (evV ev))) (ok : evOk l ev) (h5 : pend = 5 → ev = .flush) (hi : i ≤ 100) :
    ∃ ys, H q = some (.lst ys) ∧ ys.length < sizeLine ∧ FluI H0 (L2.upd H q (.lst (ys ++ [.ref e]))) q l (i + 1) (if ev matches .flush then 0 else pend + 1) := by
  obtain ⟨s, ys, es, eq, pe, oke, six, hl, pd⟩ := h
  have last : (runE l (es ++ [ev])).2.2.length ≤ 5 ∧ (if ev matches .flush then (0 : Int) else pend + 1) = ((runE l (es ++ [ev])).2.2.length : Int) := by
    have h1 := six es.length
    rw [List.take_length] at h1
    rw [runE_snoc, perf_len]
    cases ev with
    | flush => exact ⟨Nat.zero_le _, rfl⟩
    | log a b =>
      have : pend ≠ 5 := fun z => by have := h5 z; cases this
      refine ⟨?_, ?_⟩
      · show (runE l es).2.2.length + 1 ≤ 5
        omega
      · show pend + 1 = (((runE l es).2.2.length + 1 : Nat) : Int)
        omega
    | write a b =>
      have : pend ≠ 5 := fun z => by have := h5 z; cases this
      refine ⟨?_, ?_⟩
      · show (runE l es).2.2.length + 1 ≤ 5
        omega
      · show pend + 1 = (((runE l es).2.2.length + 1 : Nat) : Int)
        omega
    | clear =>
      have : pend ≠ 5 := fun z => by have := h5 z; cases this
      refine ⟨?_, ?_⟩
      · show (runE l es).2.2.length + 1 ≤ 5
        omega
      · show pend + 1 = (((runE l es).2.2.length + 1 : Nat) : Int)
        omega
  have nt : ∀ {y : Addr} {ts : List V}, H y = some (.tup ts) → L2.upd H q (.lst (ys ++ [.ref e])) y = some (.tup ts) := fun {y ts} z => by rw [upd_ne (ne_of z eq fun z => by cases z)]; exact z
  have ly : ys.length = es.length := Paired.length pe
  refine ⟨ys, eq, small1000 (by omega), fun b o z => ?_, _, es ++ [ev], upd_same, Paired.snoc (Paired.mapP pe fun v r ⟨y, e, w⟩ => ⟨y, e, nt w⟩) ⟨e, rfl, nt he⟩, fun x hx => ?_, six_snoc six last.1, by rw [List.length_append]; show es.length + 1 ≤ i + 1; omega, last.2⟩
  · rw [upd_ne (ne_of_none z f)]
    exact s b o z
  · rcases List.mem_append.mp hx with z | z
    · exact oke x z
    · rw [List.mem_singleton.mp z]; exact ok
theorem ok_Flu {f : Addr} {fd : FuncData} (F : Fun K "_law_with_flushes" "_law_with_flushes" sFlu f fd) : FnOk P w K mg base CX0 1 f fd PFlu spFlu := by
  refine F.ok scFlu (fun vs H Q E h => ?_) (fun cdv A outer s H vs Q E hr h => ?_)
  · obtain ⟨evl, l, evs, xs, rfl, _⟩ := h
    rfl
  · obtain ⟨evl, l, evs, xs, rfl, ee, pe, oke, hle, k⟩ := h
    refine ⟨_, (pss_cons (ps_set (i := 1) scFlu.nd rfl (Or.inl rfl) (pe_lst pa_nil))
  (pss_cons (ps_set (i := 2) scFlu.nd rfl (Or.inl rfl) pe_int)
  (pss_cons (ps_for PassesOwn.never rfl (pi_list (pv 0)) (pg_name (i := 3) scFlu.nd rfl (Or.inl rfl))
  (C8.pss_cut (ps_if (pt_cmpR op_eq (pv 2) pe_int (nomark _))
  (pss_cons (ps_expr (pe_bm PySem.F.plainAttrs_list PySem.F.slot_list_append PySem.F.type_list_append mt_append (pv 1) (pa_cons (pe_tup (pa_cons pe_str pa_nil)) pa_nil)))
  (pss_one (ps_set (i := 2) scFlu.nd rfl (Or.inl rfl) pe_int)))
  pss_nil)
  (pss_cons (ps_set (i := 2) scFlu.nd rfl (Or.inl rfl) (pe_ifExp (pt_cmpR op_eq (pe_ix (r := rIxT K) ix_tup (pv 3) pe_int (fun _ _ => rfl)) pe_str (nomark _)) pe_int (pe_op op_add (pv 2) pe_int)))
  (pss_one (ps_expr (pe_bm PySem.F.plainAttrs_list PySem.F.slot_list_append PySem.F.type_list_append mt_append (pv 1) (pa_cons (pv 3) pa_nil)))))))
  (pss_one (ps_ret (pv 1)))))), ?_⟩
    have lx : xs.length = evs.length := Paired.length pe
    refine ⟨(by show 0 ≤ sizeLine; decide), fun q hq => ?_⟩
    have s1 := same_new (o := .lst []) hq
    refine ⟨_, rfl, evl, rfl, ⟨_, SqL.of (s1 _ _ ee)⟩, ?_⟩
    refine for_list (K := K) (a := evl) (xs := xs) (fun i σ H' => ∃ (pend : Int) (x3 : Option V), σ = [some (.ref evl), some (.ref q), some (.int pend), x3] ∧ FluI H H' q l (2 * i) pend) ⟨0, _, rfl, s1, [], [], upd_same, .nil, (fun _ z => nomatch z), (fun n => by rw [List.take_nil]; exact Nat.zero_le _), Nat.le_refl _, rfl⟩ (fun i σ H' _ h' => by obtain ⟨_, _, _, s', _⟩ := h'; exact SqL.of (s' _ _ ee)) ?_ ?_
    · rintro i x σ H1 hx ⟨pend, x3, rfl, FI⟩
      obtain ⟨ev, hev, e, rfl, eev⟩ := Paired.at pe hx
      have hi : i < evs.length := (List.getElem?_eq_some_iff.mp hev).1
      have okev := oke ev (List.mem_of_getElem? hev)
      refine ⟨fun σ H' => ∃ pend2 : Int, σ = [some (.ref evl), some (.ref q), some (.int pend2), some (.ref e)] ∧ FluI H H' q l (2 * i + 1) pend2 ∧ pend2 ≠ 5, ?_, ?_⟩
      · refine ⟨_, rfl, rfl, _, rfl, ite2 (fun h5 => ?_) (fun h5 => ?_)⟩
        · obtain ⟨ys, _, eqy, _⟩ := id FI.2
          refine ⟨_, rfl, .inl ⟨rfl, _, SqL.of eqy⟩, (by show 1 ≤ sizeLine; decide), fun t ht => ?_⟩
          have s2 := same_new (o := .tup [.str "flush"]) ht
          have FI2 : FluI H (upd H1 t (.tup [.str "flush"])) q l (2 * i) pend := by
            obtain ⟨s, ys, es, eq, pe, o, six, hl, pd⟩ := FI
            exact ⟨s.trans s2, ys, es, s2 _ _ eq, Paired.mapP pe (fun _ _ z => z.same s2), o, six, hl, pd⟩
          obtain ⟨ys', eq', hz, FI3⟩ := FI2.put (ev := .flush) hq upd_same trivial (fun _ => rfl) (by omega)
          exact ⟨q, ys', _, rfl, rfl, eq', hz, 0, rfl, FI3, by decide⟩
        · refine ⟨pend, rfl, ?_, fun z => h5 (by rw [z]; rfl)⟩
          obtain ⟨s, ys, es, eq, pe, o, six, hl, pd⟩ := FI
          exact ⟨s, ys, es, eq, pe, o, six, by omega, pd⟩
      · rintro σ H2 ⟨pend2, rfl, FI2, n5⟩
        have eev2 := FI2.1 _ _ eev
        obtain ⟨x0, xr, exs⟩ := evV_ne ev
        have a0 : atI (evV ev) 0 = some (.str x0) := by rw [exs]; exact atI_nat (j := 0) rfl
        obtain ⟨ys', eq', hz, FI3⟩ := FI2.put (ev := ev) hq eev2 okev (fun z => absurd z n5) (by omega)
        refine ⟨_, rfl, e, _, _, _, rfl, rfl, SqT.of eev2, a0, rfl, _, rfl, ?_⟩
        cases ev with
        | flush =>
          cases exs
          refine iteS (by decide +kernel) ?_
          exact ⟨_, rfl, .inl ⟨rfl, _, SqL.of eq'⟩, _, rfl, q, ys', _, rfl, rfl, eq', hz, _, _, rfl, FI3⟩
        | log a b =>
          cases exs
          refine iteE (by decide +kernel) ?_
          exact ⟨_, rfl, _, _, rfl, rfl, _, rfl, .inl ⟨rfl, _, SqL.of eq'⟩, _, rfl, q, ys', _, rfl, rfl, eq', hz, _, _, rfl, FI3⟩
        | write a b =>
          cases exs
          refine iteE (by decide +kernel) ?_
          exact ⟨_, rfl, _, _, rfl, rfl, _, rfl, .inl ⟨rfl, _, SqL.of eq'⟩, _, rfl, q, ys', _, rfl, rfl, eq', hz, _, _, rfl, FI3⟩
        | clear =>
          cases exs
          refine iteE (by decide +kernel) ?_
          exact ⟨_, rfl, _, _, rfl, rfl, _, rfl, .inl ⟨rfl, _, SqL.of eq'⟩, _, rfl, q, ys', _, rfl, rfl, eq', hz, _, _, rfl, FI3⟩
    · rintro σ H1 ⟨pend, x3, rfl, s, ys, es, eq, pe', o, six, hl, pd⟩
      exact ⟨_, rfl, k q ys es H1 s hq eq pe' o six (by omega)⟩
end

/-! _law_protocol -/
section
variable {P : Program} {w : World} {K : PySem.W.Frag} {mg : Str → Option Value} {base : Heap} {kw C pp : Addr}
def spProt : Sp := fun vs H Q _ => ∃ (p c d nl : Addr) (lim : V) (n : Nat) (l : Recs), vs = [.ref p, .ref d, .ref nl] ∧ PoolAt H p c lim n ∧ n < 10000000000 ∧ H d = some (.dK (kvOf l)) ∧ H nl = some (.lst ((names l).map V.str)) ∧ names l ≠ [] ∧ l.length ≤ 4 ∧
  ∀ (q : Addr) (xs : List V) (H' : Hp), PoolAt H' p c lim (n + 20) → But p c H H' → H q = none → H' q = some (.lst xs) → (∀ x ∈ xs, Good H' l x) → xs.length ≤ 16 → q ≠ p ∧ q ≠ c → Q (.ref q) H'
/-- a list of events, new since H0 -/
structure EL (H0 H : Hp) (p c : Addr) (l : Recs) (q : Addr) (xs : List V) : Prop where
  fr : H0 q = none
  at_ : H q = some (.lst xs)
  gd : ∀ x ∈ xs, Good H l x
  ne : q ≠ p ∧ q ≠ c
theorem EL.same {H0 H H' : Hp} {p c q : Addr} {l : Recs} {xs : List V} (s : Same H H') (h : EL H0 H p c l q xs) : EL H0 H' p c l q xs := ⟨h.fr, s _ _ h.at_, fun x hx => (h.gd x hx).same s, h.ne⟩
theorem EL.but {H0 H H' : Hp} {p c q : Addr} {lim : V} {n : Nat} {l : Recs} {xs : List V} (P : PoolAt H p c lim n) (b : But p c H H') (h : EL H0 H p c l q xs) : EL H0 H' p c l q xs := ⟨h.fr, b _ _ h.at_ h.ne.1 h.ne.2, fun x hx => (h.gd x hx).but P b, h.ne⟩
theorem EL.new {H0 H : Hp} {p c q : Addr} {lim : V} {n : Nat} {l : Recs} {xs : List V} (P : PoolAt H p c lim n) (b : But p c H0 H) (hq : H q = none) (g : ∀ x ∈ xs, Good H l x) : EL H0 (L2.upd H q (.lst xs)) p c l q xs :=
  ⟨b.free hq (P.ne1 hq) (P.ne2 hq), upd_same, fun x hx => (g x hx).same (same_new hq), P.ne1 hq, P.ne2 hq⟩
theorem good_app {H : Hp} {l : Recs} {xs ys : List V} (h : ∀ x ∈ xs, Good H l x) (k : ∀ x ∈ ys, Good H l x) : ∀ x ∈ xs ++ ys, Good H l x := fun x hx => (List.mem_append.mp hx).elim (h x) (k x)
theorem ok_Prot {f : Addr} {fd : FuncData} (F : Fun K "_law_protocol" "_law_protocol" sProt f fd) (T : TxSt K mg kw) (GD : Has P w K mg base CX0 2 "_law_draw" PDraw spDraw) (GV : Has P w K mg base CX0 3 "_law_event" PEvent spEvent) : FnOk P w K mg base CX0 4 f fd PProt spProt := by
  refine F.ok scProt (fun vs H Q E h => ?_) (fun cdv A outer s H vs Q E hr h => ?_)
  · obtain ⟨p, c, d, nl, lim, n, l, rfl, _⟩ := h
    rfl
  · obtain ⟨p, c, d, nl, lim, n, l, rfl, P0, hn, ed, en, hne, hl, k⟩ := h
    have hu := hu_of hr
    have hr2 := hr.mono (j := 2) (by decide)
    refine ⟨_, (pss_cons (ps_set (i := 3) scProt.nd rfl (Or.inl rfl) (pe_lst pa_nil))
  (pss_cons (ps_for PassesOwn.never rfl (pi_list (pv 2)) (pg_name (i := 4) scProt.nd rfl (Or.inl rfl))
  (pss_cons (ps_set (i := 5) scProt.nd rfl (Or.inl rfl) (pe_callH GD hr2 rfl pass0 (pa_cons (pv 0) (pa_cons pe_int pa_nil))))
  (pss_one (ps_set (i := 3) scProt.nd rfl (Or.inl rfl) (pe_op op_cat (pv 3) (pe_lst (pa_cons (pe_tup (pa_cons pe_str (pa_cons (pv 4) (pa_cons (pe_dget hu (pv 1) (pv 4) (fun _ _ => rfl)) pa_nil)))) (pa_cons (pe_tup (pa_cons pe_str pa_nil)) (pa_cons (pe_tup (pa_cons pe_str (pa_cons (pv 4) (pa_cons (pv 5) pa_nil)))) pa_nil)))))))))
  (pss_cons (ps_set (i := 3) scProt.nd rfl (Or.inl rfl) (pe_op op_cat (pv 3) (pe_lst (pa_cons (pe_tup (pa_cons pe_str pa_nil)) (pa_cons (pe_tup (pa_cons pe_str pa_nil)) (pa_cons (pe_tup (pa_cons pe_str pa_nil)) pa_nil))))))
  (pss_cons (ps_set (i := 6) scProt.nd rfl (Or.inl rfl) (pe_callH GD hr2 rfl pass0 (pa_cons (pv 0) (pa_cons (pe_callB call_len_seq (by rfl) T.n_len bb_len (pa_cons (pv 3) pa_nil)) pa_nil))))
  (pss_cons (ps_set (i := 7) scProt.nd rfl (Or.inl rfl) (pe_callH GD hr2 rfl pass0 (pa_cons (pv 0) (pa_cons pe_int pa_nil))))
  (pss_cons (ps_if (pt_cmpR op_eq (pv 7) pe_int (nomark _))
  (pss_one (ps_ret (pv 3)))
  pss_nil)
  (pss_cons (ps_set (i := 8) scProt.nd rfl (Or.inl rfl) (pe_ix (r := rIxL K) ix_list (pv 3) (pv 6) (fun _ _ => rfl)))
  (pss_cons (ps_set (i := 9) scProt.nd rfl (Or.inl rfl) (pe_op op_cat (pe_slice sl_list (pv 3) po_none (po_some (pv 6))) (pe_slice sl_list (pv 3) (po_some (pe_op op_add (pv 6) pe_int)) po_none)))
  (pss_cons (ps_if (pt_cmpR op_eq (pv 7) pe_int (nomark _))
  (pss_one (ps_ret (pv 9)))
  pss_nil)
  (pss_cons (ps_set (i := 10) scProt.nd rfl (Or.inl rfl) (pe_callH GD hr2 rfl pass0 (pa_cons (pv 0) (pa_cons (pe_callB call_len_seq (by rfl) T.n_len bb_len (pa_cons (pv 3) pa_nil)) pa_nil))))
  (pss_cons (ps_if (pt_cmpR op_eq (pv 7) pe_int (nomark _))
  (pss_one (ps_ret (pe_op op_cat (pe_op op_cat (pe_slice sl_list (pv 9) po_none (po_some (pv 10))) (pe_lst (pa_cons (pv 8) pa_nil))) (pe_slice sl_list (pv 9) (po_some (pv 10)) po_none))))
  pss_nil)
  (pss_one (ps_ret (pe_op op_cat (pe_op op_cat (pe_slice sl_list (pv 3) po_none (po_some (pv 10))) (pe_lst (pa_cons (pe_callH GV hr rfl pass0 (pa_cons (pv 0) (pa_cons (pv 1) (pa_cons (pv 2) pa_nil)))) pa_nil))) (pe_slice sl_list (pv 3) (po_some (pv 10)) po_none))))))))))))))), ?_⟩
    have n1 := strs_ne1 P0 en
    have n2 := strs_ne2 P0 hne en
    have d1 : d ≠ p := by
      obtain ⟨⟨_, z⟩, _⟩ := P0.lst
      exact ne_of ed z (fun z => by cases z)
    have d2 : d ≠ c := by
      obtain ⟨_, ⟨_, z⟩⟩ := P0.lst
      exact ne_of ed z (fun z => by cases z)
    have lnl : (names l).length = l.length := List.length_map ..
    have lpos : 0 < (names l).length := List.length_pos_iff.mpr hne
    refine ⟨(by show 0 ≤ sizeLine; decide), fun q0 hq0 => ?_⟩
    have s1 := same_new (o := .lst []) hq0
    refine ⟨_, rfl, nl, rfl, ⟨_, SqL.of (s1 _ _ en)⟩, ?_⟩
    refine for_list (K := K) (a := nl) (xs := (names l).map V.str) (fun i σ H' => ∃ (q : Addr) (xs : List V) (x4 x5 : Option V), σ = [some (.ref p), some (.ref d), some (.ref nl), some (.ref q), x4, x5, none, none, none, none, none] ∧ PoolAt H' p c lim (n + i) ∧ But p c H H' ∧ EL H H' p c l q xs ∧ xs.length = 3 * i) ⟨q0, [], _, _, rfl, P0.same s1, But.of_same But.refl s1, EL.new P0 But.refl hq0 (fun _ z => nomatch z), rfl⟩ (fun i σ H' _ h' => by obtain ⟨_, _, _, _, _, _, b', _⟩ := h'; exact SqL.of (b' _ _ en n1 n2)) ?_ ?_
    · rintro i x σ H1 hx ⟨q, xs, x4, x5, rfl, P1, b1, L1, lx⟩
      rw [List.getElem?_map] at hx
      obtain ⟨z, hz, rfl⟩ := Option.map_eq_some_iff.mp hx
      have mz := List.mem_of_getElem? hz
      have hi : i < (names l).length := (List.getElem?_eq_some_iff.mp hz).1
      refine ⟨_, rfl, p, c, lim, n + i, 4, rfl, P1, by omega, by decide, by decide, fun r H2 r0 r1 P2 b2 => ?_⟩
      have b12 := b1.trans b2
      have L2 := L1.but P1 b2
      have ed2 := b12 _ _ ed d1 d2
      refine ⟨_, rfl, _, rfl, _, rfl, _, rfl, d, _, rfl, .inl ⟨kvOf l, Sum.inr z, .inl ed2, rfl, (gR_val mz).symm⟩, (by show 3 ≤ sizeLine; decide), fun t1 ht1 => ⟨(by show 1 ≤ sizeLine; decide), fun t2 ht2 => ⟨_, rfl, _, rfl, (by show 3 ≤ sizeLine; decide), fun t3 ht3 => ⟨(by show 3 ≤ sizeLine; decide), fun t4 ht4 => ?_⟩⟩⟩⟩
      have u1 := same_new (o := .tup [.str "log", .str z, .int (gR l z)]) ht1
      have u2 := same_new (o := .tup [.str "flush"]) ht2
      have u3 := same_new (o := .tup [.str "write", .str z, .int r]) ht3
      have u4 := same_new (o := .lst [.ref t1, .ref t2, .ref t3]) ht4
      have u14 := ((u1.trans u2).trans u3).trans u4
      have L3 := L2.same u14
      have P3 := P2.same u14
      have b13 := b12.of_same u14
      have g3 : ∀ x ∈ [V.ref t1, .ref t2, .ref t3], Good (upd (upd (upd (upd H2 t1 (.tup [.str "log", .str z, .int (gR l z)])) t2 (.tup [.str "flush"])) t3 (.tup [.str "write", .str z, .int r])) t4 (.lst [.ref t1, .ref t2, .ref t3])) l x := fun x hx => by
        simp only [List.mem_cons, List.not_mem_nil, or_false] at hx
        rcases hx with rfl | rfl | rfl
        · exact ⟨.log z (gR l z), mz, t1, rfl, ((u2.trans u3).trans u4) _ _ upd_same⟩
        · exact ⟨.flush, trivial, t2, rfl, (u3.trans u4) _ _ upd_same⟩
        · exact ⟨.write z r, mz, t3, rfl, u4 _ _ upd_same⟩
      refine ⟨q, t4, _, _, rfl, rfl, L3.at_, upd_same, Nat.le_of_lt (small1000 (by show xs.length + 3 ≤ 1000; omega)), fun r2 hr2 => ?_⟩
      exact ⟨r2, xs ++ [.ref t1, .ref t2, .ref t3], _, _, rfl, (P3.same (same_new hr2)).mono (by omega), b13.of_same (same_new hr2), EL.new P3 b13 hr2 (good_app L3.gd g3), by rw [List.length_append, lx]; show 3 * i + 3 = _; omega⟩
    · rintro σ H1 ⟨q, xs, x4, x5, rfl, P1, b1, L1, lx⟩
      rw [List.length_map] at lx P1
      refine ⟨_, rfl, (by show 1 ≤ sizeLine; decide), fun t1 ht1 => ⟨(by show 1 ≤ sizeLine; decide), fun t2 ht2 => ⟨(by show 1 ≤ sizeLine; decide), fun t3 ht3 => ⟨(by show 3 ≤ sizeLine; decide), fun t4 ht4 => ?_⟩⟩⟩⟩
      have u1 := same_new (o := .tup [.str "flush"]) ht1
      have u2 := same_new (o := .tup [.str "clear"]) ht2
      have u3 := same_new (o := .tup [.str "flush"]) ht3
      have u4 := same_new (o := .lst [.ref t1, .ref t2, .ref t3]) ht4
      have u14 := ((u1.trans u2).trans u3).trans u4
      have L3 := L1.same u14
      have P3 := P1.same u14
      have b13 := b1.of_same u14
      have g3 : ∀ x ∈ [V.ref t1, .ref t2, .ref t3], Good (upd (upd (upd (upd H1 t1 (.tup [.str "flush"])) t2 (.tup [.str "clear"])) t3 (.tup [.str "flush"])) t4 (.lst [.ref t1, .ref t2, .ref t3])) l x := fun x hx => by
        simp only [List.mem_cons, List.not_mem_nil, or_false] at hx
        rcases hx with rfl | rfl | rfl
        · exact ⟨.flush, trivial, t1, rfl, ((u2.trans u3).trans u4) _ _ upd_same⟩
        · exact ⟨.clear, trivial, t2, rfl, (u3.trans u4) _ _ upd_same⟩
        · exact ⟨.flush, trivial, t3, rfl, u4 _ _ upd_same⟩
      refine ⟨q, t4, _, _, rfl, rfl, L3.at_, upd_same, Nat.le_of_lt (small1000 (by show xs.length + 3 ≤ 1000; omega)), fun e he => ?_⟩
      obtain ⟨es, hes⟩ : ∃ es, es = xs ++ [V.ref t1, .ref t2, .ref t3] := ⟨_, rfl⟩
      have L4 := EL.new P3 b13 he (good_app L3.gd g3)
      have P4 := P3.same (same_new (o := .lst (xs ++ [.ref t1, .ref t2, .ref t3])) he)
      have b14 := b13.of_same (same_new (o := .lst (xs ++ [.ref t1, .ref t2, .ref t3])) he)
      obtain ⟨H4, eH4⟩ : ∃ H4, H4 = upd (upd (upd (upd (upd H1 t1 (.tup [.str "flush"])) t2 (.tup [.str "clear"])) t3 (.tup [.str "flush"])) t4 (.lst [.ref t1, .ref t2, .ref t3])) e (.lst (xs ++ [.ref t1, .ref t2, .ref t3])) := ⟨_, rfl⟩
      have les : es.length = 3 * l.length + 3 := by rw [hes, List.length_append, lx, lnl]; rfl
      rw [← eH4, ← hes] at L4
      rw [← eH4] at P4 b14 ⊢
      -- at, choice
      refine ⟨_, rfl, _, rfl, e, _, rfl, .inl (SqL.of L4.at_), p, c, lim, _, _, rfl, P4, by omega, by omega, by omega, fun ra H5 ra0 ra1 P5 b5 => ?_⟩
      have L5 := L4.but P4 b5
      refine ⟨_, rfl, p, c, lim, _, 4, rfl, P5, by omega, by decide, by decide, fun ch H6 c0 c1 P6 b6 => ?_⟩
      have L6 := L5.but P5 b6
      have b16 := (b14.trans b5).trans b6
      refine ⟨_, rfl, rfl, _, rfl, ite2 (fun _ => ?_) (fun _ => ?_)⟩
      · exact ⟨_, rfl, k e es H6 (P6.mono (by omega)) b16 L6.fr L6.at_ L6.gd (by omega) L6.ne⟩
      obtain ⟨a, rfl⟩ : ∃ a : Nat, ra = (a : Int) := ⟨ra.toNat, by omega⟩
      have ha : a < es.length := by omega
      obtain ⟨mv, hmv⟩ : ∃ v, es[a]? = some v := ⟨es[a], by simp [ha]⟩
      have gmv := L6.gd mv (List.mem_of_getElem? hmv)
      refine ⟨_, rfl, _, rfl, e, _, _, _, rfl, rfl, SqL.of L6.at_, at_of (j := a) rfl hmv, ?_⟩
      refine ⟨_, rfl, _, rfl, _, rfl, e, _, rfl, SqL.of L6.at_, fun v1 hv1 => ?_⟩
      have w1 := same_new (o := .lst (cutV es none (some (a : Int)))) hv1
      refine ⟨_, rfl, _, rfl, _, _, rfl, rfl, _, rfl, e, _, rfl, SqL.of (w1 _ _ L6.at_), fun v2 hv2 => ?_⟩
      have w2 := same_new (o := .lst (cutV es (some ((a : Int) + 1)) none)) hv2
      have c1 : cutV es none (some (a : Int)) = es.take a := cut_take
      have c2 : cutV es (some ((a : Int) + 1)) none = es.drop (a + 1) := by rw [show (a : Int) + 1 = ((a + 1 : Nat) : Int) by omega]; exact cut_drop
      have ltk : (es.take a).length = a := by rw [List.length_take]; omega
      have ldr : (es.drop (a + 1)).length = es.length - (a + 1) := List.length_drop ..
      refine ⟨v1, v2, _, _, rfl, rfl, w2 _ _ upd_same, upd_same, ?_, fun r hr => ?_⟩
      · rw [c1, c2]
        exact Nat.le_of_lt (small1000 (by rw [ltk, ldr]; omega))
      rw [c1, c2]
      have L7 := (L6.same w1).same w2
      have P7 := (P6.same w1).same w2
      have b7 := b16.of_same (w1.trans w2)
      rw [c1] at L7 P7 b7
      rw [c2] at L7 P7 b7
      obtain ⟨H7, eH7⟩ : ∃ H7, H7 = upd (upd H6 v1 (.lst (es.take a))) v2 (.lst (es.drop (a + 1))) := ⟨_, rfl⟩
      rw [c1, c2, ← eH7] at hr
      rw [← eH7] at L7 P7 b7 ⊢
      have gtk : ∀ x ∈ es.take a, Good H7 l x := fun x hx => L7.gd x (List.mem_of_mem_take hx)
      have gdr : ∀ x ∈ es.drop (a + 1), Good H7 l x := fun x hx => L7.gd x (List.mem_of_mem_drop hx)
      have w3 := same_new (o := .lst (es.take a ++ es.drop (a + 1))) hr
      have R7 := EL.new P7 b7 hr (good_app gtk gdr)
      have L8 := L7.same w3
      have P8 := P7.same w3
      have b8 := b7.of_same w3
      have gmv8 : Good H7 l mv := L7.gd mv (List.mem_of_getElem? hmv)
      have gmv8 := gmv8.same w3
      obtain ⟨rs, hrs⟩ : ∃ rs, rs = es.take a ++ es.drop (a + 1) := ⟨_, rfl⟩
      have lrs : rs.length = es.length - 1 := by rw [hrs, List.length_append, ltk, ldr]; omega
      obtain ⟨H8, eH8⟩ : ∃ H8, H8 = upd H7 r (.lst (es.take a ++ es.drop (a + 1))) := ⟨_, rfl⟩
      rw [← eH8] at R7 L8 P8 b8 gmv8 ⊢
      rw [← hrs] at R7
      refine ⟨_, rfl, rfl, _, rfl, ite2 (fun _ => ?_) (fun _ => ?_)⟩
      · exact ⟨_, rfl, k r rs H8 (P8.mono (by omega)) b8 R7.fr R7.at_ R7.gd (by omega) R7.ne⟩
      refine ⟨_, rfl, _, rfl, e, _, rfl, .inl (SqL.of L8.at_), p, c, lim, _, _, rfl, P8, by omega, by omega, by omega, fun rb H9 rb0 rb1 P9 b9 => ?_⟩
      obtain ⟨b, rfl⟩ : ∃ b : Nat, rb = (b : Int) := ⟨rb.toNat, by omega⟩
      have hb : b < es.length := by omega
      have L9 := L8.but P8 b9
      have R9 := R7.but P8 b9
      have b19 := b8.trans b9
      have gmv9 := gmv8.but P8 b9
      refine ⟨_, rfl, rfl, _, rfl, ite2 (fun _ => ?_) (fun _ => ?_)⟩
      · -- moved
        refine ⟨_, rfl, _, rfl, _, rfl, r, _, rfl, SqL.of R9.at_, fun v1 hv1 => ?_⟩
        have w1 := same_new (o := .lst (cutV rs none (some (b : Int)))) hv1
        refine ⟨_, rfl, (by show 1 ≤ sizeLine; decide), fun v2 hv2 => ?_⟩
        have w2 := same_new (o := .lst [mv]) hv2
        refine ⟨v1, v2, _, _, rfl, rfl, w2 _ _ upd_same, upd_same, ?_, fun v3 hv3 => ?_⟩
        · rw [show cutV rs none (some (b : Int)) = rs.take b from cut_take]
          exact Nat.le_of_lt (small1000 (by rw [List.length_take]; show min b rs.length + 1 ≤ 1000; omega))
        have w3 := same_new (o := .lst (cutV rs none (some (b : Int)) ++ [mv])) hv3
        have w13 := (w1.trans w2).trans w3
        refine ⟨_, rfl, _, rfl, _, rfl, r, _, rfl, SqL.of (w13 _ _ R9.at_), fun v4 hv4 => ?_⟩
        have w4 := same_new (o := .lst (cutV rs (some (b : Int)) none)) hv4
        refine ⟨v3, v4, _, _, rfl, rfl, w4 _ _ upd_same, upd_same, ?_, fun v5 hv5 => ?_⟩
        · rw [show cutV rs none (some (b : Int)) = rs.take b from cut_take, show cutV rs (some (b : Int)) none = rs.drop b from cut_drop]
          exact Nat.le_of_lt (small1000 (by rw [List.length_append, List.length_take, List.length_drop]; show min b rs.length + 1 + (rs.length - b) ≤ 1000; omega))
        have w14 := w13.trans w4
        have P10 := P9.same w14
        have b10 := b19.of_same w14
        have gA : ∀ x ∈ rs.take b, Good _ l x := fun x hx => (R9.gd x (List.mem_of_mem_take hx)).same w14
        have gB : ∀ x ∈ rs.drop b, Good _ l x := fun x hx => (R9.gd x (List.mem_of_mem_drop hx)).same w14
        have gM : ∀ x ∈ [mv], Good _ l x := fun x hx => by rw [List.mem_singleton.mp hx]; exact gmv9.same w14
        have N := EL.new P10 b10 hv5 (xs := cutV rs none (some (b : Int)) ++ [mv] ++ cutV rs (some (b : Int)) none) (by
          rw [show cutV rs none (some (b : Int)) = rs.take b from cut_take, show cutV rs (some (b : Int)) none = rs.drop b from cut_drop]
          rw [show cutV rs none (some (b : Int)) = rs.take b from cut_take, show cutV rs (some (b : Int)) none = rs.drop b from cut_drop] at gA gB gM
          exact good_app (good_app gA gM) gB)
        refine k v5 _ _ ((P10.same (same_new hv5)).mono (by omega)) (b10.of_same (same_new hv5)) N.fr N.at_ N.gd ?_ N.ne
        rw [show cutV rs none (some (b : Int)) = rs.take b from cut_take, show cutV rs (some (b : Int)) none = rs.drop b from cut_drop, List.length_append, List.length_append, List.length_take, List.length_drop]
        show min b rs.length + 1 + (rs.length - b) ≤ 16
        omega
      · -- put in
        refine ⟨_, rfl, _, rfl, _, rfl, e, _, rfl, SqL.of L9.at_, fun v1 hv1 => ?_⟩
        have w1 := same_new (o := .lst (cutV es none (some (b : Int)))) hv1
        have P91 := P9.same w1
        have b91 := b19.of_same w1
        refine ⟨_, rfl, _, rfl, _, rfl, p, c, d, nl, lim, _, l, rfl, P91, by omega, b91 _ _ ed d1 d2, b91 _ _ en n1 n2, hne, by omega, fun ne ev H10 oke P10 b10 fe ee => ?_⟩
        have L10 := (L9.same w1).but P91 b10
        have b110 := b91.trans b10
        have v1p := P9.ne1 hv1
        have v1c := P9.ne2 hv1
        have ev1 := b10 _ _ (show upd H9 v1 (.lst (cutV es none (some (b : Int)))) v1 = _ from upd_same) v1p v1c
        refine ⟨(by show 1 ≤ sizeLine; decide), fun v2 hv2 => ?_⟩
        have w2 := same_new (o := .lst [.ref ne]) hv2
        refine ⟨v1, v2, _, _, rfl, rfl, w2 _ _ ev1, upd_same, ?_, fun v3 hv3 => ?_⟩
        · rw [show cutV es none (some (b : Int)) = es.take b from cut_take]
          exact Nat.le_of_lt (small1000 (by rw [List.length_take]; show min b es.length + 1 ≤ 1000; omega))
        have w3 := same_new (o := .lst (cutV es none (some (b : Int)) ++ [.ref ne])) hv3
        have w23 := w2.trans w3
        refine ⟨_, rfl, _, rfl, _, rfl, e, _, rfl, SqL.of (w23 _ _ L10.at_), fun v4 hv4 => ?_⟩
        have w4 := same_new (o := .lst (cutV es (some (b : Int)) none)) hv4
        refine ⟨v3, v4, _, _, rfl, rfl, w4 _ _ upd_same, upd_same, ?_, fun v5 hv5 => ?_⟩
        · rw [show cutV es none (some (b : Int)) = es.take b from cut_take, show cutV es (some (b : Int)) none = es.drop b from cut_drop]
          exact Nat.le_of_lt (small1000 (by rw [List.length_append, List.length_take, List.length_drop]; show min b es.length + 1 + (es.length - b) ≤ 1000; omega))
        have w24 := w23.trans w4
        have P11 := P10.same w24
        have b11 := b110.of_same w24
        have gA : ∀ x ∈ es.take b, Good _ l x := fun x hx => (L10.gd x (List.mem_of_mem_take hx)).same w24
        have gB : ∀ x ∈ es.drop b, Good _ l x := fun x hx => (L10.gd x (List.mem_of_mem_drop hx)).same w24
        have gM : ∀ x ∈ [V.ref ne], Good _ l x := fun x hx => by rw [List.mem_singleton.mp hx]; exact ⟨ev, oke, ne, rfl, w24 _ _ ee⟩
        have N := EL.new P11 b11 hv5 (xs := cutV es none (some (b : Int)) ++ [.ref ne] ++ cutV es (some (b : Int)) none) (by
          rw [show cutV es none (some (b : Int)) = es.take b from cut_take, show cutV es (some (b : Int)) none = es.drop b from cut_drop]
          rw [show cutV es none (some (b : Int)) = es.take b from cut_take, show cutV es (some (b : Int)) none = es.drop b from cut_drop] at gA gB gM
          exact good_app (good_app gA gM) gB)
        refine k v5 _ _ ((P11.same (same_new hv5)).mono (by omega)) (b11.of_same (same_new hv5)) N.fr N.at_ N.gd ?_ N.ne
        rw [show cutV es none (some (b : Int)) = es.take b from cut_take, show cutV es (some (b : Int)) none = es.drop b from cut_drop, List.length_append, List.length_append, List.length_take, List.length_drop]
        show min b es.length + 1 + (es.length - b) ≤ 16
        omega
end

/-! law -/
def spLaw (K : PySem.W.Frag) : Sp := fun vs H Q _ => ∃ (a : Addr) (ns : List Int), vs = [.ref a] ∧ SqL K H a (ns.map V.int) ∧ ns.length ≤ 63 ∧ ∀ H', Q (.bl true) H'
theorem cut_strs {ns : List Str} {k : Nat} : cutV (ns.map V.str) none (some (k : Int)) = (ns.take k).map V.str := by
  rw [cut_take, List.map_take]
theorem putK_more {l : Recs} {n : Str} (v : Int) (h : n ∉ names l) : putK (kvOf l) (Sum.inr n) (V.int v) = kvOf (l ++ [(n, v)]) := by
  have no : valV (kvOf l) (Sum.inr n) = none := by
    cases q : valV (kvOf l) (Sum.inr n) with
    | none => rfl
    | some z =>
      have m := valV_in q
      unfold kvOf at m
      rw [List.map_map] at m
      obtain ⟨x, hx, e⟩ := List.mem_map.mp m
      exact absurd (List.mem_map.mpr ⟨x, hx, Sum.inr.inj e⟩) h
  rw [putK_new _ no]
  unfold kvOf
  rw [List.map_append]
  rfl
theorem not_take {l : List Str} (nd : l.Nodup) {i : Nat} {x : Str} (h : l[i]? = some x) : x ∉ l.take i := fun m => by
  obtain ⟨j, hj, e⟩ := List.mem_iff_getElem.mp m
  rw [List.length_take] at hj
  rw [List.getElem_take] at e
  obtain ⟨hi, e2⟩ := List.getElem?_eq_some_iff.mp h
  have z := (List.getElem_inj (h₀ := by omega) (h₁ := hi) nd).mp (e.trans e2.symm)
  omega
def dEvs (es : List Evt) : PyData := .list (es.map fun e => .tuple ((evV e).map dOf))
theorem dp_evs {K : PySem.W.Frag} {H : Hp} {p : Addr} {xs : List V} {es : List Evt} (e : H p = some (.lst xs)) (h : Paired (EvAt H) xs es) : Dp K H (.ref p) (dEvs es) := by
  refine .lst (SqL.of e) ?_
  clear e
  induction h with
  | nil => exact .nil
  | @cons x ev _ _ r _ ih =>
    obtain ⟨a, rfl, q⟩ := r
    exact .cons (.tup (SqT.of q) (dpAll_flat (by cases ev <;> rfl))) ih
theorem lay_evs {l : Recs} (gn : ∀ n ∈ names l, isName n = true) : ∀ {es : List Evt}, (∀ e ∈ es, evOk l e) → PyData.canLayAll0 (es.map fun e => .tuple ((evV e).map dOf)) = true
  | [], _ => by simp [PyData.canLayAll0]
  | e :: r, h => by
    have q := layAll_dOf (evV_ok (h e List.mem_cons_self) gn)
    simp only [List.map_cons, PyData.canLayAll0, PyData.canLay0, q, Bool.true_and]
    exact lay_evs gn fun x hx => h x (List.mem_cons_of_mem _ hx)
theorem depth_evs : ∀ es : List Evt, PyData.depthAll (es.map fun e => .tuple ((evV e).map dOf)) ≤ 1
  | [] => by simp [PyData.depthAll]
  | e :: r => by
    have := depth_evs r
    simp only [List.map_cons, PyData.depthAll, PyData.depth, depthAll_dOf]
    omega
theorem shaped_evs {l : Recs} (gn : ∀ n ∈ names l, isName n = true) {es : List Evt} (h : ∀ e ∈ es, evOk l e) : SeqAt.shaped (dEvs es) = true := by
  have q := depth_evs es
  unfold SeqAt.shaped dEvs
  rw [Bool.and_eq_true]
  refine ⟨by simp only [PyData.canLay0]; exact lay_evs gn h, decide_eq_true ?_⟩
  simp only [PyData.depth]
  omega
theorem eqv_evs {l : Recs} (gn : ∀ n ∈ names l, isName n = true) {es : List Evt} (h : ∀ e ∈ es, evOk l e) : PyData.eqv (dEvs es) (dEvs es) = true :=
  SeqAt.eqv_refl _ (by simp only [dEvs, PyData.canLay0]; exact lay_evs gn h)
section
variable {P : Program} {w : World} {K : PySem.W.Frag} {mg : Str → Option Value} {base : Heap} {kw C pp : Addr}
theorem ok_Law {f : Addr} {fd : FuncData} (F : Fun K "law" "law" sLaw f fd) (T : TxSt K mg kw) (GP : Has P w K mg base CX0 1 "_law_pool" PPool (spPool K)) (GD : Has P w K mg base CX0 2 "_law_draw" PDraw spDraw) (GN : Has P w K mg base CX0 3 "_law_names" PNames spNames)
    (GV : Has P w K mg base CX0 3 "_law_event" PEvent spEvent) (GT : Has P w K mg base CX0 4 "_law_protocol" PProt spProt) (GF : Has P w K mg base CX0 1 "_law_with_flushes" PFlu spFlu) (GS : Has P w K mg base CX0 8 "is_safe" PSafe (spSafe K)) (GL : Has P w K mg base CX0 3 "_law_is_safe" PLSafe spLSafe) :
    FnOk P w K mg base CX0 9 f fd PLaw (spLaw K) := by
  refine F.ok scLaw (fun vs H Q E h => ?_) (fun cdv A outer s H vs Q E hr h => ?_)
  · obtain ⟨a, ns, rfl, _⟩ := h
    rfl
  · obtain ⟨a, ns0, rfl, hS, hlen, k⟩ := h
    have hu := hu_of hr
    have hr4 := hr.mono (j := 4) (by decide)
    have hr3 := hr.mono (j := 3) (by decide)
    have hr2 := hr.mono (j := 2) (by decide)
    have hr1 := hr.mono (j := 1) (by decide)
    refine ⟨_, (pss_cons (ps_set (i := 1) scLaw.nd rfl (Or.inr rfl) (pe_callH GP hr1 rfl pass0 (pa_cons (pv 0) pa_nil)))
  (pss_cons (ps_set (i := 2) scLaw.nd rfl (Or.inr rfl) (pe_slice sl_list (pe_callH GN hr3 rfl pass0 (pa_cons (pv 1) pa_nil)) po_none (po_some (pe_op op_add pe_int (pe_callH GD hr2 rfl pass0 (pa_cons (pv 1) (pa_cons pe_int pa_nil)))))))
  (pss_cons (ps_set (i := 3) scLaw.nd rfl (Or.inr rfl) pe_dnewK)
  (pss_cons (ps_set (i := 4) scLaw.nd rfl (Or.inl rfl) pe_dnewK)
  (pss_cons (ps_for PassesOwn.never rfl (pi_list (pv 2)) (pg_name (i := 5) scLaw.nd rfl (Or.inl rfl))
  (pss_cons (ps_dput hu (pv 3) (pv 5) (pe_callH GD hr2 rfl pass0 (pa_cons (pv 1) (pa_cons pe_int pa_nil))) rfl)
  (pss_one (ps_dput hu (pv 4) (pv 5) (pe_dget hu (pv 3) (pv 5) (fun _ _ => rfl)) rfl))))
  (pss_cons (ps_set (i := 6) scLaw.nd rfl (Or.inl rfl) (pe_callH GT hr4 rfl pass0 (pa_cons (pv 1) (pa_cons (pv 3) (pa_cons (pv 2) pa_nil)))))
  (C8.pss_cut (ps_if (pt_cmpR op_eq (pe_callH GD hr2 rfl pass0 (pa_cons (pv 1) (pa_cons pe_int pa_nil))) pe_int (nomark _))
  (pss_one (ps_setLc (i := 6) (own := [("_law_k", 7)]) (g := gName 7) (tt := tYes) rfl scLaw.nd rfl rfl (sw_true rfl rfl rfl (by decide +kernel)) (pi_range1 (by rfl) T.n_range (pa_cons (pe_callH GD hr2 rfl pass0 (pa_cons (pv 1) (pa_cons pe_int pa_nil))) pa_nil)) (blkOk_by (own := [("_law_k", 7)]) (N := NLaw) (sc := (defScope sLaw)) (by decide +kernel)) (fun _ _ _ _ _ => (pg_name (i := 7) scLaw.nd rfl (Or.inl rfl))) (fun _ _ _ _ _ => pts_nil) (fun _ _ _ _ _ => (pe_callH GV hr3 rfl pass0 (pa_cons (pv 1) (pa_cons (pv 3) (pa_cons (pv 2) pa_nil)))))))
  pss_nil)
  (pss_cons (ps_set (i := 6) scLaw.nd rfl (Or.inl rfl) (pe_callH GF hr1 rfl pass0 (pa_cons (pv 6) pa_nil)))
  (pss_cons (ps_set (i := 8) scLaw.nd rfl (Or.inl rfl) (pe_callTy call_list_of (by rfl) T.n_list bb_list (pa_cons (pv 6) pa_nil)))
  (pss_cons (ps_set (i := 9) scLaw.nd rfl (Or.inl rfl) (pe_callH GS hr rfl pass0 (pa_cons (pv 3) (pa_cons (pv 8) pa_nil))))
  (pss_cons (ps_if (pt_cmpR (op_neD hr.units) (pv 8) (pv 6) (nomark _))
  (pss_one (ps_ret pe_bl))
  pss_nil)
  (pss_cons (ps_if (PW.pt (pw_or (pt_not (pt_val (pe_callB call_isi (by rfl) T.n_isinstance bb_isinstance (pa_cons (pv 9) (pa_cons (pe_bltn (v := .ty "bool") (by rfl) T.n_bool bb_bool rfl) pa_nil))))) (pw_or (pt_cmpR op_ne (pv 9) (pe_callH GL hr3 rfl pass0 (pa_cons (pv 3) (pa_cons (pv 6) pa_nil))) (nomark _)) (pw_or1 (pt_cmpR (op_neKv hr.units0) (pv 3) (pv 4) (nomark _))))))
  (pss_one (ps_ret pe_bl))
  pss_nil)
  (pss_cons (ps_set (i := 10) scLaw.nd rfl (Or.inl rfl) (pe_callH GD hr2 rfl pass0 (pa_cons (pv 1) (pa_cons (pe_op op_add (pe_callB call_len_seq (by rfl) T.n_len bb_len (pa_cons (pv 6) pa_nil)) pe_int) pa_nil))))
  (pss_cons (ps_set (i := 11) scLaw.nd rfl (Or.inl rfl) (pe_ix (r := rIxL K) ix_list (pe_lst (pa_cons (pe_tup (pa_cons pe_str (pa_cons pe_str (pa_cons pe_int pa_nil)))) (pa_cons (pe_tup (pa_cons pe_str (pa_cons (pe_ix (r := rIxL K) ix_list (pv 2) pe_int (fun _ _ => rfl)) (pa_cons pe_bl pa_nil)))) (pa_cons (pe_tup (pa_cons pe_str (pa_cons pe_int pa_nil))) (pa_cons (pe_tup (pa_cons pe_str pa_nil)) (pa_cons (pe_tup pa_nil) (pa_cons pe_non (pa_cons pe_str pa_nil)))))))) (pe_callH GD hr2 rfl pass0 (pa_cons (pv 1) (pa_cons pe_int pa_nil))) (fun _ _ => rfl)))
  (pss_cons (ps_set (i := 12) scLaw.nd rfl (Or.inl rfl) (pe_ix (r := rIxL K) ix_list (pe_lst (pa_cons (pe_op op_cat (pe_op op_cat (pe_slice sl_list (pv 6) po_none (po_some (pv 10))) (pe_lst (pa_cons (pv 11) pa_nil))) (pe_slice sl_list (pv 6) (po_some (pv 10)) po_none)) (pa_cons (pe_callTy call_tuple_of (by rfl) T.n_tuple bb_tuple (pa_cons (pv 6) pa_nil)) (pa_cons pe_non (pa_cons (pe_tup (pa_cons pe_str pa_nil)) (pa_cons pe_int pa_nil)))))) (pe_callH GD hr2 rfl pass0 (pa_cons (pv 1) (pa_cons pe_int pa_nil))) (fun _ _ => rfl)))
  (pss_one (ps_ret (pe_cmpR op_is_bl (pe_callH GS hr rfl pass0 (pa_cons (pv 3) (pa_cons (pv 12) pa_nil))) pe_bl (nomark _))))))))))))))))))), ?_⟩
    refine ⟨_, rfl, a, ns0, rfl, hS, hlen, fun p c H1 s1 hp0 hc0 P1 => ?_⟩
    -- the names
    refine ⟨_, rfl, p, c, _, 0, rfl, P1, by decide, fun q all H2 okA lA P2 b2 hq e2 => ?_⟩
    refine ⟨_, rfl, p, c, _, _, 3, rfl, P2, by decide, by decide, by decide, fun r H3 r0 r1 P3 b3 => ?_⟩
    have q1 := strs_ne1 P2 e2
    have q2 := strs_ne2 P2 (by intro z; rw [z] at lA; cases lA) e2
    have e3 := b3 _ _ e2 q1 q2
    refine ⟨_, _, rfl, rfl, _, rfl, q, _, rfl, SqL.of e3, fun nl hnl => ?_⟩
    obtain ⟨m, hm⟩ : ∃ m : Nat, 1 + r = (m : Int) := ⟨(1 + r).toNat, by omega⟩
    rw [hm, cut_strs]
    obtain ⟨ns, ens⟩ : ∃ ns, ns = all.take m := ⟨_, rfl⟩
    rw [← ens]
    have okN : NamesOk ns := by
      rw [ens]
      exact ⟨okA.nd.sublist (List.take_sublist ..), fun x hx => okA.name x (List.mem_of_mem_take hx), fun x hx => okA.len x (List.mem_of_mem_take hx)⟩
    have lns : ns.length = m := by rw [ens, List.length_take, lA]; omega
    have nne : ns ≠ [] := fun z => by rw [z] at lns; simp at lns; omega
    have P4 := P3.same (same_new (o := .lst (ns.map V.str)) hnl)
    have n1 := P3.ne1 hnl
    have n2 := P3.ne2 hnl
    -- the values
    intro d hd
    have P5 := P4.same (same_new (o := .dK []) hd)
    have d1 := P4.ne1 hd
    have d2 := P4.ne2 hd
    have dnl := ne_of_none upd_same hd
    intro kd hkd
    have P6 := P5.same (same_new (o := .dK []) hkd)
    have k1 := P5.ne1 hkd
    have k2 := P5.ne2 hkd
    have dkd : d ≠ kd := ne_of_none upd_same hkd
    have nlk : nl ≠ kd := ne_of_none (show upd (upd H3 nl (.lst (ns.map V.str))) d (.dK []) nl = some (.lst (ns.map V.str)) by rw [upd_ne dnl, upd_same]) hkd
    refine ⟨_, rfl, nl, rfl, ⟨_, SqL.of (by rw [upd_ne nlk, upd_ne dnl]; exact upd_same)⟩, ?_⟩
    refine for_list (K := K) (a := nl) (xs := ns.map V.str) (fun i σ H' => ∃ (x : Option V) (l : Recs), σ = [some (.ref a), some (.ref p), some (.ref nl), some (.ref d), some (.ref kd), x, none, none, none, none, none, none, none] ∧ PoolAt H' p c (.int 30) (3 + i) ∧ H' nl = some (.lst (ns.map V.str)) ∧ H' d = some (.dK (kvOf l)) ∧ H' kd = some (.dK (kvOf l)) ∧ names l = ns.take i) ?_ (fun i σ H' _ h' => by obtain ⟨_, _, _, _, z, _⟩ := h'; exact SqL.of z) ?_ ?_
    · exact ⟨none, [], rfl, P6, by rw [upd_ne nlk, upd_ne dnl, upd_same], by rw [upd_ne dkd, upd_same]; rfl, upd_same, rfl⟩
    · rintro i v σ H6 hv ⟨x, l, rfl, P6, e6, d6, f6, nl6⟩
      have hi : i < ns.length := by
        have z := (List.getElem?_eq_some_iff.mp hv).1
        rw [List.length_map] at z
        exact z
      rw [List.getElem?_map] at hv
      obtain ⟨z, hz⟩ : ∃ z, ns[i]? = some z := ⟨ns[i], by simp [hi]⟩
      rw [hz] at hv
      cases hv
      have ll : l.length = i := by
        have q : l.length = (names l).length := (List.length_map ..).symm
        rw [nl6, List.length_take] at q
        omega
      have nz : z ∉ names l := by rw [nl6]; exact not_take okN.nd hz
      refine ⟨_, rfl, p, c, _, _, 4, rfl, P6, by omega, by decide, by decide, fun r6 H7 r60 r61 P7 b7 => ?_⟩
      have nm7 : names (l ++ [(z, r6)]) = ns.take (i + 1) := by
        unfold names
        rw [List.map_append]
        show names l ++ [z] = _
        rw [nl6, take_snoc hz]
      have mz : z ∈ names (l ++ [(z, r6)]) := by unfold names; rw [List.map_append]; exact List.mem_append_right _ List.mem_cons_self
      have gz : gR (l ++ [(z, r6)]) z = r6 := gR_mem (p := (z, r6)) (by rw [nm7]; exact okN.nd.sublist (List.take_sublist ..)) (List.mem_append_right _ List.mem_cons_self)
      refine ⟨_, rfl, _, rfl, d, _, rfl, DPut.k (k := Sum.inr z) (b7 _ _ d6 d1 d2) ?_, ?_⟩
      · unfold kvOf
        rw [List.length_map]
        exact small1000 (by omega)
      rw [putK_more _ nz]
      have f7 : upd H7 d (.dK (kvOf (l ++ [(z, r6)]))) kd = some (.dK (kvOf l)) := by rw [upd_ne dkd.symm]; exact b7 _ _ f6 k1 k2
      refine ⟨_, rfl, _, rfl, d, _, rfl, .inl ⟨_, Sum.inr z, .inl upd_same, rfl, (gR_val mz).symm⟩, _, rfl, _, rfl, kd, _, rfl, DPut.k (k := Sum.inr z) f7 ?_, ?_⟩
      · unfold kvOf
        rw [List.length_map]
        exact small1000 (by omega)
      rw [gz, putK_more _ nz]
      exact ⟨_, l ++ [(z, r6)], rfl, ((P7.upd d1 d2).upd k1 k2).mono (by omega), by rw [upd_ne nlk, upd_ne dnl]; exact b7 _ _ e6 n1 n2, by rw [upd_ne dkd, upd_same], upd_same, nm7⟩
    rintro σ H6 ⟨x, l, rfl, P6, e6, d6, f6, nl6⟩
    rw [List.length_map, List.take_length] at nl6
    rw [List.length_map] at P6
    have ll : l.length = ns.length := by rw [← nl6]; exact (List.length_map ..).symm
    have l4 : l.length ≤ 4 := by omega
    have gl0 : GoodR l := ⟨by rw [nl6]; exact okN.nd, by omega, fun n hn => by rw [nl6] at hn; exact ⟨okN.name n hn, Nat.le_trans (okN.len n hn) (by decide)⟩⟩
    have lnm : names l ≠ [] := by rw [nl6]; exact nne
    rw [← nl6] at e6
    refine ⟨_, rfl, _, rfl, _, rfl, p, c, d, nl, _, _, l, rfl, P6, by omega, d6, e6, lnm, l4, fun q xs H7 P7 b7 fq eq gq lq nq => ?_⟩
    have d7 := b7 _ _ d6 d1 d2
    have f7 := b7 _ _ f6 k1 k2
    have e7 := b7 _ _ e6 n1 n2
    refine ⟨fun σ H' => ∃ (q : Addr) (xs : List V) (x7 : Option V), σ = [some (.ref a), some (.ref p), some (.ref nl), some (.ref d), some (.ref kd), x, some (.ref q), x7, none, none, none, none, none] ∧ PoolAt H' p c (.int 30) 1000 ∧ H' nl = some (.lst ((names l).map V.str)) ∧ H' d = some (.dK (kvOf l)) ∧ H' kd = some (.dK (kvOf l)) ∧ H' q = some (.lst xs) ∧ (∀ x ∈ xs, Good H' l x) ∧ xs.length ≤ 16 ∧ q ≠ p ∧ q ≠ c, ?_, ?_⟩
    · refine ⟨_, rfl, p, c, _, _, 4, rfl, P7, by omega, by decide, by decide, fun r8 H8 r80 r81 P8 b8 => ?_⟩
      have d8 := b8 _ _ d7 d1 d2
      have f8 := b8 _ _ f7 k1 k2
      have e8 := b8 _ _ e7 n1 n2
      refine ⟨rfl, _, rfl, ite2 (fun _ => ?_) (fun _ => ?_)⟩
      · refine ⟨_, rfl, p, c, _, _, 9, rfl, P8, by omega, by decide, by decide, fun r9 H9 r90 r91 P9 b9 => ⟨_, rfl, by omega, by omega, fun D hD => ?_⟩⟩
        have d9 := b9 _ _ d8 d1 d2
        have f9 := b9 _ _ f8 k1 k2
        have e9 := b9 _ _ e8 n1 n2
        have sD := same_new (o := .lst []) hD
        have D1 := P9.ne1 hD
        have D2 := P9.ne2 hD
        refine lc_range (lo := 0) (n := r9.toNat) (fun i H' => PoolAt H' p c (.int 30) (100 + 4 * i) ∧ But p c H9 H' ∧ ∃ acc, H' D = some (.lst acc) ∧ (∀ x ∈ acc, Good H' l x) ∧ acc.length = i) ⟨(P9.same sD).mono (by omega), But.of_same But.refl sD, [], upd_same, (fun _ z => nomatch z), rfl⟩ ?_ ?_
        · rintro i H10 hi ⟨P10, b10, acc, eD, gD, lD⟩
          refine ⟨rfl, _, rfl, _, rfl, _, rfl, p, c, d, nl, _, _, l, rfl, P10, by omega, b10 _ _ d9 d1 d2, b10 _ _ e9 n1 n2, lnm, by omega, fun e ev H11 oke P11 b11 fe ee => ?_⟩
          have eD11 := b11 _ _ eD D1 D2
          refine ⟨acc, eD11, small1000 (by omega), (P11.upd D1 D2).mono (by omega), fun c' o z n1' n2' => ?_, acc ++ [.ref e], upd_same, ?_, by rw [List.length_append, lD]; rfl⟩
          · rw [upd_ne (ne_of_none z hD)]
            exact b11 _ _ (b10 _ _ z n1' n2') n1' n2'
          · intro y hy
            rcases List.mem_append.mp hy with w | w
            · exact ((gD y w).but P10 b11).upd eD11
            · rw [List.mem_singleton.mp w]
              exact Good.upd eD11 ⟨ev, oke, e, rfl, ee⟩
        · rintro H10 ⟨P10, b10, acc, eD, gD, lD⟩
          exact ⟨D, acc, _, rfl, P10.mono (by omega), b10 _ _ e9 n1 n2, b10 _ _ d9 d1 d2, b10 _ _ f9 k1 k2, eD, gD, by omega, D1, D2⟩
      · exact ⟨q, xs, _, rfl, P8.mono (by omega), e8, d8, f8, b8 _ _ eq nq.1 nq.2, fun x hx => (gq x hx).but P7 b8, lq, nq.1, nq.2⟩
    rintro σ H8 ⟨q, xs, x7, rfl, P8, e8, d8, f8, eq, gq, lq, q1, q2⟩
    obtain ⟨evs, pe, oke⟩ := good_evs gq
    refine ⟨_, rfl, q, l, evs, xs, rfl, eq, pe, oke, by rw [← Paired.length pe]; omega, fun q9 ys es H9 s9 fq9 eq9 pe9 oke9 five le9 => ?_⟩
    have ly : ys.length = es.length := Paired.length pe9
    -- given
    refine ⟨_, rfl, q9, _, rfl, .inl (SqL.of eq9), fun g hg => ?_⟩
    have s10 := same_new (o := .lst ys) hg
    have t10 := s9.trans s10
    have gn : ∀ n ∈ names l, isName n = true := fun n hn => (gl0.2.2 n hn).1
    have q9p : q9 ≠ p ∧ q9 ≠ c := ⟨P8.ne1 fq9, P8.ne2 fq9⟩
    -- told
    refine ⟨_, rfl, _, rfl, d, l, .ref g, rfl, t10 _ _ d8, gl0, by omega, .inr ⟨g, ys, fun _ => true, rfl, upd_same, fun x hx => .inl ⟨rfl, (evs_good pe9 oke9 x hx).same s10⟩, by omega, .inr ⟨by rw [List.all_eq_true]; exact fun _ _ => rfl, es, Paired.mapP pe9 (fun _ _ z => z.same s10), oke9, fun n => Nat.le_trans (five n) (by decide), fun H11 s11 => ?_⟩⟩⟩
    have t11 := t10.trans s11
    have eq11 := (s10.trans s11) _ _ eq9
    have pe11 : Paired (EvAt H11) ys es := Paired.mapP pe9 fun _ _ z => (z.same s10).same s11
    refine ⟨_, rfl, _, rfl, _, _, dp_evs (s11 _ _ upd_same) pe11, dp_evs eq11 pe11, shaped_evs gn oke9, shaped_evs gn oke9, _, rfl, iteE (by rw [eqv_evs gn oke9]; rfl) ?_⟩
    refine ⟨_, rfl, _, _, _, _, _, rfl, .ty _, .base (.bl _), kit_ty (r := true) (by decide +kernel), _, rfl, ?_⟩
    refine ⟨_, rfl, _, rfl, _, rfl, d, q9, l, es, ys, rfl, t11 _ _ d8, eq11, pe11, oke9, gl0, by omega, by omega, fun n => Nat.le_trans (five n) (by decide), fun H12 s12 => ⟨rfl, _, rfl, iteE (by rw [decide_eq_true rfl]; rfl) ?_⟩⟩
    have t12 := t11.trans s12
    refine ⟨_, rfl, _, rfl, d, kd, l, l, rfl, rfl, t12 _ _ d8, t12 _ _ f8, rfl, gl0.1, _, rfl, iteE (by rw [decide_eq_true rfl]; rfl) ?_⟩
    have eq12 := s12 _ _ eq11
    have P12 := P8.same t12
    have g12 : ∀ x ∈ ys, Good H12 l x := evs_good (Paired.mapP pe11 fun _ _ z => z.same s12) oke9
    -- at
    refine ⟨_, rfl, _, rfl, q9, _, rfl, .inl (SqL.of eq12), _, _, rfl, rfl, p, c, _, _, _, rfl, P12, by omega, by omega, by omega, fun ra H13 ra0 ra1 P13 b13 => ?_⟩
    obtain ⟨at_, rfl⟩ : ∃ n : Nat, ra = (n : Int) := ⟨ra.toNat, by omega⟩
    have g13 : ∀ x ∈ ys, Good H13 l x := fun x hx => (g12 x hx).but P12 b13
    have eq13 := b13 _ _ eq12 q9p.1 q9p.2
    have d13 := b13 _ _ (t12 _ _ d8) d1 d2
    have e13 := b13 _ _ (t12 _ _ e8) n1 n2
    obtain ⟨z0, hz0⟩ : ∃ z, (names l)[0]? = some z := by
      cases e : names l with
      | nil => exact absurd e lnm
      | cons z r => exact ⟨z, rfl⟩
    have nz0 := gn z0 (List.mem_of_getElem? hz0)
    have hz0' : ((names l).map V.str)[0]? = some (.str z0) := by rw [List.getElem?_map, hz0]; rfl
    -- odd
    refine ⟨(by show 3 ≤ sizeLine; decide), fun o1 ho1 => ?_⟩
    have u1 := same_new (o := .tup [.str "write", .str "", .int 1]) ho1
    refine ⟨_, rfl, nl, _, _, _, rfl, rfl, SqL.of (u1 _ _ e13), atI_nat (j := 0) hz0', (by show 3 ≤ sizeLine; decide), fun o2 ho2 => ?_⟩
    have u2 := same_new (o := .tup [.str "write", .str z0, .bl true]) ho2
    refine ⟨(by show 2 ≤ sizeLine; decide), fun o3 ho3 => ⟨(by show 1 ≤ sizeLine; decide), fun o4 ho4 => ⟨(by show 0 ≤ sizeLine; decide), fun o5 ho5 => ⟨(by show 7 ≤ sizeLine; decide), fun oL hoL => ?_⟩⟩⟩⟩
    have u3 := same_new (o := .tup [.str "flush", .int 1]) ho3
    have u4 := same_new (o := .tup [.str "stop"]) ho4
    have u5 := same_new (o := .tup []) ho5
    have u6 := same_new (o := .lst [.ref o1, .ref o2, .ref o3, .ref o4, .ref o5, .non, .str "flush"]) hoL
    have v16 := ((((u1.trans u2).trans u3).trans u4).trans u5).trans u6
    have P14 := P13.same v16
    refine ⟨_, rfl, p, c, _, _, 7, rfl, P14, by omega, by decide, by decide, fun rb H15 rb0 rb1 P15 b15 => ?_⟩
    have odds : ∀ v ∈ [V.ref o1, .ref o2, .ref o3, .ref o4, .ref o5, .non, .str "flush"], OddAt H15 v := fun v hv => by
      have nt : ∀ {y : Addr} {ts : List V}, _ = some (HO.tup ts) → H15 y = some (.tup ts) := fun {y ts} z => b15 y _ z (ne_of z P14.lst.1.choose_spec fun z => by cases z) (ne_of z P14.lst.2.choose_spec fun z => by cases z)
      simp only [List.mem_cons, List.not_mem_nil, or_false] at hv
      rcases hv with rfl | rfl | rfl | rfl | rfl | rfl | rfl
      · exact .noname (nt (((((u2.trans u3).trans u4).trans u5).trans u6) _ _ upd_same))
      · exact .truth z0 nz0 (nt ((((u3.trans u4).trans u5).trans u6) _ _ upd_same))
      · exact .flush (nt (((u4.trans u5).trans u6) _ _ upd_same))
      · exact .stop (nt ((u5.trans u6) _ _ upd_same))
      · exact .empty (nt (u6 _ _ upd_same))
      · exact .none
      · exact .str
    have oL1 := P13.same (((((u1.trans u2).trans u3).trans u4).trans u5)) |>.ne1 hoL
    have oL2 := P13.same (((((u1.trans u2).trans u3).trans u4).trans u5)) |>.ne2 hoL
    have eoL := b15 _ _ (show upd _ oL (.lst [V.ref o1, .ref o2, .ref o3, .ref o4, .ref o5, .non, .str "flush"]) oL = _ from upd_same) oL1 oL2
    obtain ⟨ov, hov, mov⟩ := atI_in (xs := [V.ref o1, .ref o2, .ref o3, .ref o4, .ref o5, .non, .str "flush"]) rb0 rb1
    have odd15 := odds ov mov
    have g15 : ∀ x ∈ ys, Good H15 l x := fun x hx => ((g13 x hx).same v16).but P14 b15
    have eq15 := b15 _ _ (v16 _ _ eq13) q9p.1 q9p.2
    have d15 := b15 _ _ (v16 _ _ d13) d1 d2
    refine ⟨oL, _, _, _, rfl, rfl, SqL.of eoL, hov, ?_⟩
    -- wrong
    have ct : cutV ys none (some (at_ : Int)) = ys.take at_ := cut_take
    have cd : cutV ys (some (at_ : Int)) none = ys.drop at_ := cut_drop
    refine ⟨_, rfl, _, rfl, _, rfl, q9, _, rfl, SqL.of eq15, fun v1 hv1 => ?_⟩
    have w1 := same_new (o := .lst (cutV ys none (some (at_ : Int)))) hv1
    refine ⟨_, rfl, (by show 1 ≤ sizeLine; decide), fun v2 hv2 => ?_⟩
    have w2 := same_new (o := .lst [ov]) hv2
    refine ⟨v1, v2, _, _, rfl, rfl, w2 _ _ upd_same, upd_same, ?_, fun v3 hv3 => ?_⟩
    · rw [ct]
      exact Nat.le_of_lt (small1000 (by rw [List.length_take]; show min at_ ys.length + 1 ≤ 1000; omega))
    have w3 := same_new (o := .lst (cutV ys none (some (at_ : Int)) ++ [ov])) hv3
    have w13 := (w1.trans w2).trans w3
    refine ⟨_, rfl, _, rfl, _, rfl, q9, _, rfl, SqL.of (w13 _ _ eq15), fun v4 hv4 => ?_⟩
    have w4 := same_new (o := .lst (cutV ys (some (at_ : Int)) none)) hv4
    refine ⟨v3, v4, _, _, rfl, rfl, w4 _ _ upd_same, upd_same, ?_, fun v5 hv5 => ?_⟩
    · rw [ct, cd]
      exact Nat.le_of_lt (small1000 (by rw [List.length_append, List.length_take, List.length_drop]; show min at_ ys.length + 1 + (ys.length - at_) ≤ 1000; omega))
    have w5 := same_new (o := .lst (cutV ys none (some (at_ : Int)) ++ [ov] ++ cutV ys (some (at_ : Int)) none)) hv5
    have w15 := (w13.trans w4).trans w5
    refine ⟨_, rfl, q9, _, rfl, .inl ⟨SqL.of (w15 _ _ eq15), fun v6 hv6 => ?_⟩⟩
    have w6 := same_new (o := .tup ys) hv6
    refine ⟨(by show 1 ≤ sizeLine; decide), fun v7 hv7 => ⟨(by show 5 ≤ sizeLine; decide), fun v8 hv8 => ?_⟩⟩
    have w7 := same_new (o := .tup [.str "flush"]) hv7
    have w8 := same_new (o := .lst [.ref v5, .ref v6, .non, .ref v7, .int 5]) hv8
    have w18 := ((w15.trans w6).trans w7).trans w8
    have P16 := P15.same w18
    refine ⟨_, rfl, p, c, _, _, 5, rfl, P16, by omega, by decide, by decide, fun rc H17 rc0 rc1 P17 b17 => ?_⟩
    have nT : ∀ {y : Addr} {ts : List V}, _ = some (HO.tup ts) → H17 y = some (.tup ts) := fun {y ts} z => b17 y _ z (ne_of z P16.lst.1.choose_spec fun z => by cases z) (ne_of z P16.lst.2.choose_spec fun z => by cases z)
    have P15s := P15.same ((w15.trans w6).trans w7)
    have ev8 := b17 _ _ (show upd _ v8 (.lst [V.ref v5, .ref v6, .non, .ref v7, .int 5]) v8 = _ from upd_same) (P15s.ne1 hv8) (P15s.ne2 hv8)
    obtain ⟨wv, hwv, mwv⟩ := atI_in (xs := [V.ref v5, .ref v6, .non, .ref v7, .int 5]) rc0 rc1
    refine ⟨v8, _, _, _, rfl, rfl, SqL.of ev8, hwv, ?_⟩
    have d17 := b17 _ _ (w18 _ _ d15) d1 d2
    have fin : ∀ H', Same H17 H' → ∃ (a b : Bool), V.bl false = V.bl a ∧ V.bl false = V.bl b ∧ Q (.bl (decide (a = b))) H' := fun H' _ => ⟨false, false, rfl, rfl, k H'⟩
    refine ⟨_, rfl, _, rfl, d, l, wv, rfl, d17, gl0, by omega, ?_⟩
    simp only [List.mem_cons, List.not_mem_nil, or_false] at mwv
    rcases mwv with rfl | rfl | rfl | rfl | rfl
    · have v5n := P15.same (w13.trans w4)
      have ev5 := b17 _ _ (((w6.trans w7).trans w8) _ _ (show upd _ v5 (.lst (cutV ys none (some (at_ : Int)) ++ [ov] ++ cutV ys (some (at_ : Int)) none)) v5 = _ from upd_same)) (v5n.ne1 hv5) (v5n.ne2 hv5)
      have odd17 : OddAt H17 ov := by
        have o16 := odd15.same w18
        cases o16 with
        | noname e => exact .noname (nT e)
        | truth n k e => exact .truth n k (nT e)
        | flush e => exact .flush (nT e)
        | stop e => exact .stop (nT e)
        | empty e => exact .empty (nT e)
        | none => exact .none
        | str => exact .str
      have g17 : ∀ x ∈ ys, Good H17 l x := fun x hx => ((g15 x hx).same w18).but P16 b17
      refine .inr ⟨v5, _, fun x => @decide (x ≠ ov) (Classical.propDecidable _), rfl, ev5, fun x hx => ?_, ?_, .inl ⟨?_, fun H' s' => fin H' s'⟩⟩
      · by_cases hx1 : x = ov
        · exact .inr ⟨@decide_eq_false _ (Classical.propDecidable _) (fun z => z hx1), hx1 ▸ odd17⟩
        · refine .inl ⟨@decide_eq_true _ (Classical.propDecidable _) hx1, ?_⟩
          rw [ct, cd] at hx
          rcases List.mem_append.mp hx with z | z
          · rcases List.mem_append.mp z with z | z
            · exact g17 x (List.mem_of_mem_take z)
            · exact absurd (List.mem_singleton.mp z) hx1
          · exact g17 x (List.mem_of_mem_drop z)
      · rw [ct, cd, List.length_append, List.length_append, List.length_take, List.length_drop]
        show min at_ ys.length + 1 + (ys.length - at_) ≤ 100
        omega
      · refine List.all_eq_false.mpr ⟨ov, List.mem_append_left _ (List.mem_append_right _ List.mem_cons_self), ?_⟩
        rw [@decide_eq_false _ (Classical.propDecidable _) (fun z => z rfl)]
        decide
    · exact .inl ⟨_, fun H' s' => .base (.tup (s' _ _ (nT ((w7.trans w8) _ _ upd_same)))), kit_ty (r := false) (by decide +kernel), fin⟩
    · exact .inl ⟨_, fun H' s' => .base .non, kit_ty (r := false) (by decide +kernel), fin⟩
    · exact .inl ⟨_, fun H' s' => .base (.tup (s' _ _ (nT (w8 _ _ upd_same)))), kit_ty (r := false) (by decide +kernel), fin⟩
    · exact .inl ⟨_, fun H' s' => .base (.int 5), kit_ty (r := false) (by decide +kernel), fin⟩
end

theorem all_mk {l : PySem.W.OpenLaw} {w : World} {K : PySem.W.Frag} {h : Heap} {mg : Str → Option Value} {fa fMixed fDraw fPool fIsName fIsInt fIsVals fIsEvt fApp fNames fLApp fLCr fLRec fEvent fSafe fLSafe fProt fFlu fLaw a_KEYWORDS CStore fSInit fSPerf fSSeen fSCur fSRec fSCr : Addr} (X : K.In h) (G : h.Ns mainGlobals mg) (hfa : mg "law" = some (.ref fa))
    {odMixed anMixed : Option Addr} {slMixed : Array (Option Value)} {ocMixed kVMixed dcMixed pmMixed cdMixed ctMixed : Value}
    (aMixed : PySem.W.nsIn K mainGlobals "_law_mixed" = some (some (.ref fMixed))) (lMixed : K.lookup fMixed = some ⟨ocMixed, odMixed, .func (PySem.W.fnOf "_law_mixed" "_law_mixed" (defArgs sMixed) (defBody sMixed) (defScope sMixed) .none kVMixed dcMixed pmMixed anMixed cdMixed ctMixed), slMixed⟩) (cMixed : PySem.W.codeIn K cdMixed "_law_mixed" = true) (kMixed : PySem.W.keepIn K (.ref fMixed) = true)
    {odDraw anDraw : Option Addr} {slDraw : Array (Option Value)} {ocDraw kVDraw dcDraw pmDraw cdDraw ctDraw : Value}
    (aDraw : PySem.W.nsIn K mainGlobals "_law_draw" = some (some (.ref fDraw))) (lDraw : K.lookup fDraw = some ⟨ocDraw, odDraw, .func (PySem.W.fnOf "_law_draw" "_law_draw" (defArgs sDraw) (defBody sDraw) (defScope sDraw) .none kVDraw dcDraw pmDraw anDraw cdDraw ctDraw), slDraw⟩) (cDraw : PySem.W.codeIn K cdDraw "_law_draw" = true) (kDraw : PySem.W.keepIn K (.ref fDraw) = true)
    {odPool anPool : Option Addr} {slPool : Array (Option Value)} {ocPool kVPool dcPool pmPool cdPool ctPool : Value}
    (aPool : PySem.W.nsIn K mainGlobals "_law_pool" = some (some (.ref fPool))) (lPool : K.lookup fPool = some ⟨ocPool, odPool, .func (PySem.W.fnOf "_law_pool" "_law_pool" (defArgs sPool) (defBody sPool) (defScope sPool) .none kVPool dcPool pmPool anPool cdPool ctPool), slPool⟩) (cPool : PySem.W.codeIn K cdPool "_law_pool" = true) (kPool : PySem.W.keepIn K (.ref fPool) = true)
    {odIsName anIsName : Option Addr} {slIsName : Array (Option Value)} {ocIsName kVIsName dcIsName pmIsName cdIsName ctIsName : Value}
    (aIsName : PySem.W.nsIn K mainGlobals "is_name" = some (some (.ref fIsName))) (lIsName : K.lookup fIsName = some ⟨ocIsName, odIsName, .func (PySem.W.fnOf "is_name" "is_name" (defArgs sIsName) (defBody sIsName) (defScope sIsName) .none kVIsName dcIsName pmIsName anIsName cdIsName ctIsName), slIsName⟩) (cIsName : PySem.W.codeIn K cdIsName "is_name" = true) (kIsName : PySem.W.keepIn K (.ref fIsName) = true)
    {odIsInt anIsInt : Option Addr} {slIsInt : Array (Option Value)} {ocIsInt kVIsInt dcIsInt pmIsInt cdIsInt ctIsInt : Value}
    (aIsInt : PySem.W.nsIn K mainGlobals "is_integer" = some (some (.ref fIsInt))) (lIsInt : K.lookup fIsInt = some ⟨ocIsInt, odIsInt, .func (PySem.W.fnOf "is_integer" "is_integer" (defArgs sIsInt) (defBody sIsInt) (defScope sIsInt) .none kVIsInt dcIsInt pmIsInt anIsInt cdIsInt ctIsInt), slIsInt⟩) (cIsInt : PySem.W.codeIn K cdIsInt "is_integer" = true) (kIsInt : PySem.W.keepIn K (.ref fIsInt) = true)
    {odIsVals anIsVals : Option Addr} {slIsVals : Array (Option Value)} {ocIsVals kVIsVals dcIsVals pmIsVals cdIsVals ctIsVals : Value}
    (aIsVals : PySem.W.nsIn K mainGlobals "is_values" = some (some (.ref fIsVals))) (lIsVals : K.lookup fIsVals = some ⟨ocIsVals, odIsVals, .func (PySem.W.fnOf "is_values" "is_values" (defArgs sIsVals) (defBody sIsVals) (defScope sIsVals) .none kVIsVals dcIsVals pmIsVals anIsVals cdIsVals ctIsVals), slIsVals⟩) (cIsVals : PySem.W.codeIn K cdIsVals "is_values" = true) (kIsVals : PySem.W.keepIn K (.ref fIsVals) = true)
    {odIsEvt anIsEvt : Option Addr} {slIsEvt : Array (Option Value)} {ocIsEvt kVIsEvt dcIsEvt pmIsEvt cdIsEvt ctIsEvt : Value}
    (aIsEvt : PySem.W.nsIn K mainGlobals "is_event" = some (some (.ref fIsEvt))) (lIsEvt : K.lookup fIsEvt = some ⟨ocIsEvt, odIsEvt, .func (PySem.W.fnOf "is_event" "is_event" (defArgs sIsEvt) (defBody sIsEvt) (defScope sIsEvt) .none kVIsEvt dcIsEvt pmIsEvt anIsEvt cdIsEvt ctIsEvt), slIsEvt⟩) (cIsEvt : PySem.W.codeIn K cdIsEvt "is_event" = true) (kIsEvt : PySem.W.keepIn K (.ref fIsEvt) = true)
    {odApp anApp : Option Addr} {slApp : Array (Option Value)} {ocApp kVApp dcApp pmApp cdApp ctApp : Value}
    (aApp : PySem.W.nsIn K mainGlobals "applied" = some (some (.ref fApp))) (lApp : K.lookup fApp = some ⟨ocApp, odApp, .func (PySem.W.fnOf "applied" "applied" (defArgs sApp) (defBody sApp) (defScope sApp) .none kVApp dcApp pmApp anApp cdApp ctApp), slApp⟩) (cApp : PySem.W.codeIn K cdApp "applied" = true) (kApp : PySem.W.keepIn K (.ref fApp) = true)
    {odNames anNames : Option Addr} {slNames : Array (Option Value)} {ocNames kVNames dcNames pmNames cdNames ctNames : Value}
    (aNames : PySem.W.nsIn K mainGlobals "_law_names" = some (some (.ref fNames))) (lNames : K.lookup fNames = some ⟨ocNames, odNames, .func (PySem.W.fnOf "_law_names" "_law_names" (defArgs sNames) (defBody sNames) (defScope sNames) .none kVNames dcNames pmNames anNames cdNames ctNames), slNames⟩) (cNames : PySem.W.codeIn K cdNames "_law_names" = true) (kNames : PySem.W.keepIn K (.ref fNames) = true)
    {odLApp anLApp : Option Addr} {slLApp : Array (Option Value)} {ocLApp kVLApp dcLApp pmLApp cdLApp ctLApp : Value}
    (aLApp : PySem.W.nsIn K mainGlobals "_law_applied" = some (some (.ref fLApp))) (lLApp : K.lookup fLApp = some ⟨ocLApp, odLApp, .func (PySem.W.fnOf "_law_applied" "_law_applied" (defArgs sLApp) (defBody sLApp) (defScope sLApp) .none kVLApp dcLApp pmLApp anLApp cdLApp ctLApp), slLApp⟩) (cLApp : PySem.W.codeIn K cdLApp "_law_applied" = true) (kLApp : PySem.W.keepIn K (.ref fLApp) = true)
    {odLCr anLCr : Option Addr} {slLCr : Array (Option Value)} {ocLCr kVLCr dcLCr pmLCr cdLCr ctLCr : Value}
    (aLCr : PySem.W.nsIn K mainGlobals "_law_crashes" = some (some (.ref fLCr))) (lLCr : K.lookup fLCr = some ⟨ocLCr, odLCr, .func (PySem.W.fnOf "_law_crashes" "_law_crashes" (defArgs sLCr) (defBody sLCr) (defScope sLCr) .none kVLCr dcLCr pmLCr anLCr cdLCr ctLCr), slLCr⟩) (cLCr : PySem.W.codeIn K cdLCr "_law_crashes" = true) (kLCr : PySem.W.keepIn K (.ref fLCr) = true)
    {odLRec anLRec : Option Addr} {slLRec : Array (Option Value)} {ocLRec kVLRec dcLRec pmLRec cdLRec ctLRec : Value}
    (aLRec : PySem.W.nsIn K mainGlobals "_law_recovered" = some (some (.ref fLRec))) (lLRec : K.lookup fLRec = some ⟨ocLRec, odLRec, .func (PySem.W.fnOf "_law_recovered" "_law_recovered" (defArgs sLRec) (defBody sLRec) (defScope sLRec) .none kVLRec dcLRec pmLRec anLRec cdLRec ctLRec), slLRec⟩) (cLRec : PySem.W.codeIn K cdLRec "_law_recovered" = true) (kLRec : PySem.W.keepIn K (.ref fLRec) = true)
    {odEvent anEvent : Option Addr} {slEvent : Array (Option Value)} {ocEvent kVEvent dcEvent pmEvent cdEvent ctEvent : Value}
    (aEvent : PySem.W.nsIn K mainGlobals "_law_event" = some (some (.ref fEvent))) (lEvent : K.lookup fEvent = some ⟨ocEvent, odEvent, .func (PySem.W.fnOf "_law_event" "_law_event" (defArgs sEvent) (defBody sEvent) (defScope sEvent) .none kVEvent dcEvent pmEvent anEvent cdEvent ctEvent), slEvent⟩) (cEvent : PySem.W.codeIn K cdEvent "_law_event" = true) (kEvent : PySem.W.keepIn K (.ref fEvent) = true)
    {odSafe anSafe : Option Addr} {slSafe : Array (Option Value)} {ocSafe kVSafe dcSafe pmSafe cdSafe ctSafe : Value}
    (aSafe : PySem.W.nsIn K mainGlobals "is_safe" = some (some (.ref fSafe))) (lSafe : K.lookup fSafe = some ⟨ocSafe, odSafe, .func (PySem.W.fnOf "is_safe" "is_safe" (defArgs sSafe) (defBody sSafe) (defScope sSafe) .none kVSafe dcSafe pmSafe anSafe cdSafe ctSafe), slSafe⟩) (cSafe : PySem.W.codeIn K cdSafe "is_safe" = true) (kSafe : PySem.W.keepIn K (.ref fSafe) = true)
    {odLSafe anLSafe : Option Addr} {slLSafe : Array (Option Value)} {ocLSafe kVLSafe dcLSafe pmLSafe cdLSafe ctLSafe : Value}
    (aLSafe : PySem.W.nsIn K mainGlobals "_law_is_safe" = some (some (.ref fLSafe))) (lLSafe : K.lookup fLSafe = some ⟨ocLSafe, odLSafe, .func (PySem.W.fnOf "_law_is_safe" "_law_is_safe" (defArgs sLSafe) (defBody sLSafe) (defScope sLSafe) .none kVLSafe dcLSafe pmLSafe anLSafe cdLSafe ctLSafe), slLSafe⟩) (cLSafe : PySem.W.codeIn K cdLSafe "_law_is_safe" = true) (kLSafe : PySem.W.keepIn K (.ref fLSafe) = true)
    {odProt anProt : Option Addr} {slProt : Array (Option Value)} {ocProt kVProt dcProt pmProt cdProt ctProt : Value}
    (aProt : PySem.W.nsIn K mainGlobals "_law_protocol" = some (some (.ref fProt))) (lProt : K.lookup fProt = some ⟨ocProt, odProt, .func (PySem.W.fnOf "_law_protocol" "_law_protocol" (defArgs sProt) (defBody sProt) (defScope sProt) .none kVProt dcProt pmProt anProt cdProt ctProt), slProt⟩) (cProt : PySem.W.codeIn K cdProt "_law_protocol" = true) (kProt : PySem.W.keepIn K (.ref fProt) = true)
    {odFlu anFlu : Option Addr} {slFlu : Array (Option Value)} {ocFlu kVFlu dcFlu pmFlu cdFlu ctFlu : Value}
    (aFlu : PySem.W.nsIn K mainGlobals "_law_with_flushes" = some (some (.ref fFlu))) (lFlu : K.lookup fFlu = some ⟨ocFlu, odFlu, .func (PySem.W.fnOf "_law_with_flushes" "_law_with_flushes" (defArgs sFlu) (defBody sFlu) (defScope sFlu) .none kVFlu dcFlu pmFlu anFlu cdFlu ctFlu), slFlu⟩) (cFlu : PySem.W.codeIn K cdFlu "_law_with_flushes" = true) (kFlu : PySem.W.keepIn K (.ref fFlu) = true)
    {odLaw anLaw : Option Addr} {slLaw : Array (Option Value)} {ocLaw kVLaw dcLaw pmLaw cdLaw ctLaw : Value}
    (aLaw : PySem.W.nsIn K mainGlobals "law" = some (some (.ref fLaw))) (lLaw : K.lookup fLaw = some ⟨ocLaw, odLaw, .func (PySem.W.fnOf "law" "law" (defArgs sLaw) (defBody sLaw) (defScope sLaw) .none kVLaw dcLaw pmLaw anLaw cdLaw ctLaw), slLaw⟩) (cLaw : PySem.W.codeIn K cdLaw "law" = true) (kLaw : PySem.W.keepIn K (.ref fLaw) = true)
    (aStore : PySem.W.nsIn K mainGlobals "Store" = some (some (.ref CStore)))
    (pgStore : PySem.W.plainGet K CStore Str.empty = true) (hdStore : PySem.W.hasDictIn K CStore = true) (poStore : PySem.W.plainOver K CStore = true) (saStore : PySem.W.findIn K (.ref CStore) "__setattr__" = some (some (.builtin "object.__setattr__"))) (mkStore : PySem.W.makesIn K CStore = true) (kcStore : PySem.W.keepIn K (.ref CStore) = true)
    (noStore_state : PySem.W.findIn K (.ref CStore) "state" = some none)
    (noStore_waiting : PySem.W.findIn K (.ref CStore) "waiting" = some none)
    {odSInit anSInit : Option Addr} {slSInit : Array (Option Value)} {ocSInit kVSInit dcSInit pmSInit cdSInit ctSInit : Value}
    (aSInit : PySem.W.findIn K (.ref CStore) "__init__" = some (some (.ref fSInit))) (iSInit : PySem.W.isFn K (.ref fSInit) = true)
    (lSInit : K.lookup fSInit = some ⟨ocSInit, odSInit, .func (PySem.W.fnOf "__init__" "Store.__init__" (defArgs sSInit) (defBody sSInit) (defScope sSInit) .none kVSInit dcSInit pmSInit anSInit cdSInit ctSInit), slSInit⟩) (cSInit : PySem.W.codeIn K cdSInit "Store.__init__" = true) (kSInit : PySem.W.keepIn K (.ref fSInit) = true)
    {odSPerf anSPerf : Option Addr} {slSPerf : Array (Option Value)} {ocSPerf kVSPerf dcSPerf pmSPerf cdSPerf ctSPerf : Value}
    (aSPerf : PySem.W.findIn K (.ref CStore) "perform" = some (some (.ref fSPerf))) (iSPerf : PySem.W.isFn K (.ref fSPerf) = true)
    (lSPerf : K.lookup fSPerf = some ⟨ocSPerf, odSPerf, .func (PySem.W.fnOf "perform" "Store.perform" (defArgs sSPerf) (defBody sSPerf) (defScope sSPerf) .none kVSPerf dcSPerf pmSPerf anSPerf cdSPerf ctSPerf), slSPerf⟩) (cSPerf : PySem.W.codeIn K cdSPerf "Store.perform" = true) (kSPerf : PySem.W.keepIn K (.ref fSPerf) = true)
    {odSSeen anSSeen : Option Addr} {slSSeen : Array (Option Value)} {ocSSeen kVSSeen dcSSeen pmSSeen cdSSeen ctSSeen : Value}
    (aSSeen : PySem.W.findIn K (.ref CStore) "seen" = some (some (.ref fSSeen))) (iSSeen : PySem.W.isFn K (.ref fSSeen) = true)
    (lSSeen : K.lookup fSSeen = some ⟨ocSSeen, odSSeen, .func (PySem.W.fnOf "seen" "Store.seen" (defArgs sSSeen) (defBody sSSeen) (defScope sSSeen) .none kVSSeen dcSSeen pmSSeen anSSeen cdSSeen ctSSeen), slSSeen⟩) (cSSeen : PySem.W.codeIn K cdSSeen "Store.seen" = true) (kSSeen : PySem.W.keepIn K (.ref fSSeen) = true)
    {odSCur anSCur : Option Addr} {slSCur : Array (Option Value)} {ocSCur kVSCur dcSCur pmSCur cdSCur ctSCur : Value}
    (aSCur : PySem.W.findIn K (.ref CStore) "current" = some (some (.ref fSCur))) (iSCur : PySem.W.isFn K (.ref fSCur) = true)
    (lSCur : K.lookup fSCur = some ⟨ocSCur, odSCur, .func (PySem.W.fnOf "current" "Store.current" (defArgs sSCur) (defBody sSCur) (defScope sSCur) .none kVSCur dcSCur pmSCur anSCur cdSCur ctSCur), slSCur⟩) (cSCur : PySem.W.codeIn K cdSCur "Store.current" = true) (kSCur : PySem.W.keepIn K (.ref fSCur) = true)
    {odSRec anSRec : Option Addr} {slSRec : Array (Option Value)} {ocSRec kVSRec dcSRec pmSRec cdSRec ctSRec : Value}
    (aSRec : PySem.W.findIn K (.ref CStore) "recovered" = some (some (.ref fSRec))) (iSRec : PySem.W.isFn K (.ref fSRec) = true)
    (lSRec : K.lookup fSRec = some ⟨ocSRec, odSRec, .func (PySem.W.fnOf "recovered" "Store.recovered" (defArgs sSRec) (defBody sSRec) (defScope sSRec) .none kVSRec dcSRec pmSRec anSRec cdSRec ctSRec), slSRec⟩) (cSRec : PySem.W.codeIn K cdSRec "Store.recovered" = true) (kSRec : PySem.W.keepIn K (.ref fSRec) = true)
    {odSCr anSCr : Option Addr} {slSCr : Array (Option Value)} {ocSCr kVSCr dcSCr pmSCr cdSCr ctSCr : Value}
    (aSCr : PySem.W.findIn K (.ref CStore) "crashes" = some (some (.ref fSCr))) (iSCr : PySem.W.isFn K (.ref fSCr) = true)
    (lSCr : K.lookup fSCr = some ⟨ocSCr, odSCr, .func (PySem.W.fnOf "crashes" "Store.crashes" (defArgs sSCr) (defBody sSCr) (defScope sSCr) .none kVSCr dcSCr pmSCr anSCr cdSCr ctSCr), slSCr⟩) (cSCr : PySem.W.codeIn K cdSCr "Store.crashes" = true) (kSCr : PySem.W.keepIn K (.ref fSCr) = true)
    (n_int : PySem.W.nsIn K mainGlobals "int" = some none)
    (n_len : PySem.W.nsIn K mainGlobals "len" = some none)
    (n_isinstance : PySem.W.nsIn K mainGlobals "isinstance" = some none)
    (n_str : PySem.W.nsIn K mainGlobals "str" = some none)
    (n_all : PySem.W.nsIn K mainGlobals "all" = some none)
    (n_range : PySem.W.nsIn K mainGlobals "range" = some none)
    (n_bool : PySem.W.nsIn K mainGlobals "bool" = some none)
    (n_dict : PySem.W.nsIn K mainGlobals "dict" = some none)
    (n_tuple : PySem.W.nsIn K mainGlobals "tuple" = some none)
    (n_list : PySem.W.nsIn K mainGlobals "list" = some none)
    (n_reversed : PySem.W.nsIn K mainGlobals "reversed" = some none)
    (n_enumerate : PySem.W.nsIn K mainGlobals "enumerate" = some none)
    {t_LETTERS : Tok} (c_LETTERS : PySem.W.nsIn K mainGlobals "LETTERS" = some (some (.str LET t_LETTERS)))
    {t_DIGITS : Tok} (c_DIGITS : PySem.W.nsIn K mainGlobals "DIGITS" = some (some (.str DIG t_DIGITS)))
    {t_KEYWORDS0 t_KEYWORDS1 t_KEYWORDS2 t_KEYWORDS3 t_KEYWORDS4 t_KEYWORDS5 t_KEYWORDS6 t_KEYWORDS7 t_KEYWORDS8 t_KEYWORDS9 t_KEYWORDS10 t_KEYWORDS11 t_KEYWORDS12 t_KEYWORDS13 t_KEYWORDS14 t_KEYWORDS15 : Tok} {z_KEYWORDS : Nat} {sl_KEYWORDS : Array (Option Value)} (c_KEYWORDS : PySem.W.nsIn K mainGlobals "KEYWORDS" = some (some (.ref a_KEYWORDS))) (l_KEYWORDS : K.lookup a_KEYWORDS = some ⟨.type "tuple", none, .seq #[.str "globals" t_KEYWORDS0, .str "kinds" t_KEYWORDS1, .str "keep" t_KEYWORDS2, .str "def" t_KEYWORDS3, .str "if" t_KEYWORDS4, .str "else" t_KEYWORDS5, .str "while" t_KEYWORDS6, .str "risk" t_KEYWORDS7, .str "raise" t_KEYWORDS8, .str "try" t_KEYWORDS9, .str "except" t_KEYWORDS10, .str "finally" t_KEYWORDS11, .str "undo" t_KEYWORDS12, .str "with" t_KEYWORDS13, .str "swallow" t_KEYWORDS14, .str "return" t_KEYWORDS15] z_KEYWORDS, sl_KEYWORDS⟩)
    : ∃ fd : FuncData, (∀ (s : Shared) (v : Value), BindsTo s fd ⟨[v], []⟩ [("_law_script", v)]) ∧ ∀ base : Heap, K.In base → base.Ns mainGlobals mg → FnOk l.prog w K mg base CX0 9 fa fd PLaw (spLaw K) := by
  have e := hfa.symm.trans (PySem.W.mg_of X G aLaw)
  cases e
  have FMixed := fun_mk (st := sMixed) lMixed cMixed kMixed
  have bMixed := FMixed.binds (ps := PMixed) fun _ _ _ _ _ _ us hl => match us, hl with | [_, _, _], _ => rfl
  have gMixed := PySem.W.mg_of X G aMixed
  have FDraw := fun_mk (st := sDraw) lDraw cDraw kDraw
  have bDraw := FDraw.binds (ps := PDraw) fun _ _ _ _ _ _ us hl => match us, hl with | [_, _], _ => rfl
  have gDraw := PySem.W.mg_of X G aDraw
  have FPool := fun_mk (st := sPool) lPool cPool kPool
  have bPool := FPool.binds (ps := PPool) fun _ _ _ _ _ _ us hl => match us, hl with | [_], _ => rfl
  have gPool := PySem.W.mg_of X G aPool
  have FIsName := fun_mk (st := sIsName) lIsName cIsName kIsName
  have bIsName := FIsName.binds (ps := PIsName) fun _ _ _ _ _ _ us hl => match us, hl with | [_], _ => rfl
  have gIsName := PySem.W.mg_of X G aIsName
  have FIsInt := fun_mk (st := sIsInt) lIsInt cIsInt kIsInt
  have bIsInt := FIsInt.binds (ps := PIsInt) fun _ _ _ _ _ _ us hl => match us, hl with | [_], _ => rfl
  have gIsInt := PySem.W.mg_of X G aIsInt
  have FIsVals := fun_mk (st := sIsVals) lIsVals cIsVals kIsVals
  have bIsVals := FIsVals.binds (ps := PIsVals) fun _ _ _ _ _ _ us hl => match us, hl with | [_], _ => rfl
  have gIsVals := PySem.W.mg_of X G aIsVals
  have FIsEvt := fun_mk (st := sIsEvt) lIsEvt cIsEvt kIsEvt
  have bIsEvt := FIsEvt.binds (ps := PIsEvt) fun _ _ _ _ _ _ us hl => match us, hl with | [_, _], _ => rfl
  have gIsEvt := PySem.W.mg_of X G aIsEvt
  have FApp := fun_mk (st := sApp) lApp cApp kApp
  have bApp := FApp.binds (ps := PApp) fun _ _ _ _ _ _ us hl => match us, hl with | [_, _], _ => rfl
  have gApp := PySem.W.mg_of X G aApp
  have FNames := fun_mk (st := sNames) lNames cNames kNames
  have bNames := FNames.binds (ps := PNames) fun _ _ _ _ _ _ us hl => match us, hl with | [_], _ => rfl
  have gNames := PySem.W.mg_of X G aNames
  have FLApp := fun_mk (st := sLApp) lLApp cLApp kLApp
  have bLApp := FLApp.binds (ps := PLApp) fun _ _ _ _ _ _ us hl => match us, hl with | [_, _], _ => rfl
  have gLApp := PySem.W.mg_of X G aLApp
  have FLCr := fun_mk (st := sLCr) lLCr cLCr kLCr
  have bLCr := FLCr.binds (ps := PLCr) fun _ _ _ _ _ _ us hl => match us, hl with | [_, _], _ => rfl
  have gLCr := PySem.W.mg_of X G aLCr
  have FLRec := fun_mk (st := sLRec) lLRec cLRec kLRec
  have bLRec := FLRec.binds (ps := PLRec) fun _ _ _ _ _ _ us hl => match us, hl with | [_], _ => rfl
  have gLRec := PySem.W.mg_of X G aLRec
  have FEvent := fun_mk (st := sEvent) lEvent cEvent kEvent
  have bEvent := FEvent.binds (ps := PEvent) fun _ _ _ _ _ _ us hl => match us, hl with | [_, _, _], _ => rfl
  have gEvent := PySem.W.mg_of X G aEvent
  have FSafe := fun_mk (st := sSafe) lSafe cSafe kSafe
  have bSafe := FSafe.binds (ps := PSafe) fun _ _ _ _ _ _ us hl => match us, hl with | [_, _], _ => rfl
  have gSafe := PySem.W.mg_of X G aSafe
  have FLSafe := fun_mk (st := sLSafe) lLSafe cLSafe kLSafe
  have bLSafe := FLSafe.binds (ps := PLSafe) fun _ _ _ _ _ _ us hl => match us, hl with | [_, _], _ => rfl
  have gLSafe := PySem.W.mg_of X G aLSafe
  have FProt := fun_mk (st := sProt) lProt cProt kProt
  have bProt := FProt.binds (ps := PProt) fun _ _ _ _ _ _ us hl => match us, hl with | [_, _, _], _ => rfl
  have gProt := PySem.W.mg_of X G aProt
  have FFlu := fun_mk (st := sFlu) lFlu cFlu kFlu
  have bFlu := FFlu.binds (ps := PFlu) fun _ _ _ _ _ _ us hl => match us, hl with | [_], _ => rfl
  have gFlu := PySem.W.mg_of X G aFlu
  have FLaw := fun_mk (st := sLaw) lLaw cLaw kLaw
  have bLaw := FLaw.binds (ps := PLaw) fun _ _ _ _ _ _ us hl => match us, hl with | [_], _ => rfl
  have gLaw := PySem.W.mg_of X G aLaw
  have gStore := PySem.W.mg_of X G aStore
  have clStore : Cls K CStore := ⟨pgStore, hdStore, poStore, saStore⟩
  have meSInit : Meth K CStore "__init__" fSInit := ⟨aSInit, iSInit, kSInit⟩
  have FSInit := fun_mk (st := sSInit) lSInit cSInit kSInit
  have bSInit := FSInit.binds (ps := PSInit) fun _ _ _ _ _ _ us hl => match us, hl with | [_, _], _ => rfl
  have meSPerf : Meth K CStore "perform" fSPerf := ⟨aSPerf, iSPerf, kSPerf⟩
  have FSPerf := fun_mk (st := sSPerf) lSPerf cSPerf kSPerf
  have bSPerf := FSPerf.binds (ps := PSPerf) fun _ _ _ _ _ _ us hl => match us, hl with | [_, _], _ => rfl
  have meSSeen : Meth K CStore "seen" fSSeen := ⟨aSSeen, iSSeen, kSSeen⟩
  have FSSeen := fun_mk (st := sSSeen) lSSeen cSSeen kSSeen
  have bSSeen := FSSeen.binds (ps := PSSeen) fun _ _ _ _ _ _ us hl => match us, hl with | [_], _ => rfl
  have meSCur : Meth K CStore "current" fSCur := ⟨aSCur, iSCur, kSCur⟩
  have FSCur := fun_mk (st := sSCur) lSCur cSCur kSCur
  have bSCur := FSCur.binds (ps := PSCur) fun _ _ _ _ _ _ us hl => match us, hl with | [_], _ => rfl
  have meSRec : Meth K CStore "recovered" fSRec := ⟨aSRec, iSRec, kSRec⟩
  have FSRec := fun_mk (st := sSRec) lSRec cSRec kSRec
  have bSRec := FSRec.binds (ps := PSRec) fun _ _ _ _ _ _ us hl => match us, hl with | [_], _ => rfl
  have meSCr : Meth K CStore "crashes" fSCr := ⟨aSCr, iSCr, kSCr⟩
  have FSCr := fun_mk (st := sSCr) lSCr cSCr kSCr
  have bSCr := FSCr.binds (ps := PSCr) fun _ _ _ _ _ _ us hl => match us, hl with | [_], _ => rfl
  have m_int := PySem.W.mg_none_of X G n_int
  have m_len := PySem.W.mg_none_of X G n_len
  have m_isinstance := PySem.W.mg_none_of X G n_isinstance
  have m_str := PySem.W.mg_none_of X G n_str
  have m_all := PySem.W.mg_none_of X G n_all
  have m_range := PySem.W.mg_none_of X G n_range
  have m_bool := PySem.W.mg_none_of X G n_bool
  have m_dict := PySem.W.mg_none_of X G n_dict
  have m_tuple := PySem.W.mg_none_of X G n_tuple
  have m_list := PySem.W.mg_none_of X G n_list
  have m_reversed := PySem.W.mg_none_of X G n_reversed
  have m_enumerate := PySem.W.mg_none_of X G n_enumerate
  have m_LETTERS := PySem.W.mg_of X G c_LETTERS
  have m_DIGITS := PySem.W.mg_of X G c_DIGITS
  have m_KEYWORDS := PySem.W.mg_of X G c_KEYWORDS

  have T0 : TxPool mg := ⟨m_int, m_len⟩
  have TN : TxName K mg a_KEYWORDS := { n_isinstance := m_isinstance, n_str := m_str, c_LETTERS := ⟨_, m_LETTERS, _, rfl⟩, c_DIGITS := ⟨_, m_DIGITS, _, rfl⟩, c_KEYWORDS := ⟨_, m_KEYWORDS, rfl⟩, kws := sq_kws (its := _) l_KEYWORDS (by repeat (first | exact Paired.nil | refine Paired.cons ⟨_, rfl⟩ ?_)) }
  have T : TxSt K mg a_KEYWORDS := { toTxPool := T0, toTxName := TN, n_bool := m_bool, n_dict := m_dict, n_tuple := m_tuple, n_list := m_list, n_all := m_all, n_range := m_range, n_reversed := m_reversed }
  have TC : TxC K CStore := ⟨clStore, noStore_state, noStore_waiting⟩
  refine ⟨PySem.W.fnOf "law" "law" (defArgs sLaw) (defBody sLaw) (defScope sLaw) .none kVLaw dcLaw pmLaw anLaw cdLaw ctLaw, fun s v => .of_eq rfl, fun base kB gB => ?_⟩
  have GM : Has l.prog w K mg base CX0 1 "_law_mixed" PMixed spMixed := ⟨_, _, ok_Mixed FMixed T0, gMixed, kMixed, bMixed⟩
  have GD : Has l.prog w K mg base CX0 2 "_law_draw" PDraw spDraw := ⟨_, _, ok_Draw FDraw T0 GM, gDraw, kDraw, bDraw⟩
  have GP : Has l.prog w K mg base CX0 1 "_law_pool" PPool (spPool K) := ⟨_, _, ok_Pool FPool T0, gPool, kPool, bPool⟩
  have GI : Has l.prog w K mg base CX0 1 "is_integer" PIsInt (spIsInt K) := ⟨_, _, ok_IsInt FIsInt T, gIsInt, kIsInt, bIsInt⟩
  have GN : Has l.prog w K mg base CX0 1 "is_name" PIsName (spName K) := ⟨_, _, ok_IsName FIsName TN, gIsName, kIsName, bIsName⟩
  have GV : Has l.prog w K mg base CX0 2 "is_values" PIsVals spVals := ⟨_, _, ok_IsVals FIsVals T GN GI, gIsVals, kIsVals, bIsVals⟩
  have GE : Has l.prog w K mg base CX0 2 "is_event" PIsEvt (spEvt K) := ⟨_, _, ok_IsEvt FIsEvt T GI, gIsEvt, kIsEvt, bIsEvt⟩
  have GA : Has l.prog w K mg base CX0 1 "applied" PApp spApp := ⟨_, _, ok_App FApp, gApp, kApp, bApp⟩
  have HC : HasC l.prog w K mg base CX0 3 "Store" CStore PSInit (spSInit CStore) := ⟨_, _, ⟨mkStore, aSInit, iSInit, kcStore⟩, ok_SInit FSInit T TC GV, gStore, bSInit⟩
  have MS : HasM l.prog w K mg base CX0 2 CStore "seen" PSSeen (spSeen CStore) := ⟨_, _, meSSeen, ok_SSeen FSSeen TC GA, bSSeen⟩
  have MC : HasM l.prog w K mg base CX0 3 CStore "current" PSCur (spCur CStore) := ⟨_, _, meSCur, ok_SCur FSCur T TC MS, bSCur⟩
  have MF : HasM l.prog w K mg base CX0 3 CStore "perform" PSPerf (spPerf CStore) := ⟨_, _, meSPerf, ok_SPerf FSPerf T TC GE MS, bSPerf⟩
  have MR : HasM l.prog w K mg base CX0 5 CStore "recovered" PSRec (spRec CStore) := ⟨_, _, meSRec, ok_SRec FSRec T TC MS HC, bSRec⟩
  have GL : Has l.prog w K mg base CX0 3 "_law_names" PNames spNames := ⟨_, _, ok_Names FNames ⟨m_str, m_range⟩ GD, gNames, kNames, bNames⟩
  have GEv : Has l.prog w K mg base CX0 3 "_law_event" PEvent spEvent := ⟨_, _, ok_Event FEvent T GD, gEvent, kEvent, bEvent⟩
  have GLA : Has l.prog w K mg base CX0 1 "_law_applied" PLApp spLApp := ⟨_, _, ok_LApp FLApp, gLApp, kLApp, bLApp⟩
  have GLC : Has l.prog w K mg base CX0 2 "_law_crashes" PLCr spLCr := ⟨_, _, ok_LCr FLCr GLA, gLCr, kLCr, bLCr⟩
  have GR : Has l.prog w K mg base CX0 1 "_law_recovered" PLRec spLRec := ⟨_, _, ok_LRec FLRec T, gLRec, kLRec, bLRec⟩
  have MG : HasGM l.prog w K mg base 6 CStore "crashes" PSCr (spCr CStore) := ⟨_, _, meSCr, ok_SCr FSCr ⟨m_range, m_enumerate, m_len⟩ TC GA HC, bSCr⟩
  have GE2 : Has l.prog w K mg base CX0 2 "is_event" PIsEvt (fun vs H Q E => spEvt K vs H Q E ∨ spOdd K vs H Q E) := ⟨_, _, FnOk.or (ok_IsEvt FIsEvt T GI) (ok_Odd FIsEvt T GI), gIsEvt, kIsEvt, bIsEvt⟩
  have GS : Has l.prog w K mg base CX0 8 "is_safe" PSafe (spSafe K) := ⟨_, _, ok_Safe FSafe T TC GV GE2 HC MF MC MR MG, gSafe, kSafe, bSafe⟩
  have GLS : Has l.prog w K mg base CX0 3 "_law_is_safe" PLSafe spLSafe := ⟨_, _, ok_LSafe FLSafe T GLA GLC GR, gLSafe, kLSafe, bLSafe⟩
  have GPT : Has l.prog w K mg base CX0 4 "_law_protocol" PProt spProt := ⟨_, _, ok_Prot FProt T GD GEv, gProt, kProt, bProt⟩
  have GFL : Has l.prog w K mg base CX0 1 "_law_with_flushes" PFlu spFlu := ⟨_, _, ok_Flu FFlu, gFlu, kFlu, bFlu⟩
  exact ok_Law FLaw T GP GD GL GEv GPT GFL GS GLS
theorem walk {l : PySem.W.OpenLaw} {q : Program} {loose : List Str} {XP : (Str → Option Value) → Heap → Prop} {YP : World → Heap → Prop} {d : DefRec} {K : Params → PySem.W.Frag} (hn : l.most = some 63) (hdf : d.params.defaults = [])
    (hY : ∀ (w : World) (h : Heap), YP w h → (K w.params).In h)
    (F : ∀ (w : World) (mg : Str → Option Value) (fa : Addr) (h : Heap), (K w.params).In h → h.Ns mainGlobals mg → mg d.name = some (.ref fa) →
      ∃ fd : FuncData, (∀ (s : Shared) (u : Value), BindsTo s fd ⟨[u], []⟩ [("_law_script", u)]) ∧ ∀ base : Heap, (K w.params).In base → base.Ns mainGlobals mg → FnOk l.prog w (K w.params) mg base CX0 9 fa fd PLaw (spLaw (K w.params))) :
    PySem.W.WalkO q loose XP YP l.row.toRowW d [] (fun f vs => PySem.call f vs) :=
  L2.walk_of (n := 63) (k := 9) (x := "_law_script") (CX := fun _ => CX0) (sp := fun w => spLaw (K w.params)) hn (by decide) hdf ⟨rfl, by decide, by decide⟩ hY F (fun _ _ a ns hl _ hS => ⟨a, ns, rfl, hS, hl, fun _ => rfl⟩) fun _ _ _ _ _ z => z
end Aon
open PySem PySem.W PyProof.Rows
set_option maxRecDepth 100000 in
set_option maxHeartbeats 0 in
theorem PySem.Challenge.cw_allornothing_k28_safe_events_holds : PySem.Challenge.rw_allornothing_k28_safe_events.Holds := by
  w_on; o_law; k_head; (case hw => w_witness2)
  k_fill
  refine Aon.walk (l := PySem.Challenge.rw_allornothing_k28_safe_events) rfl rfl (fun w h Y => PySem.W.kIn_of Y) ?F
  case F =>
    intro w mg fa h KX G hmg
    refine' Aon.all_mk KX G hmg ?aMixed ?lMixed ?cMixed ?kMixed ?aDraw ?lDraw ?cDraw ?kDraw ?aPool ?lPool ?cPool ?kPool ?aIsName ?lIsName ?cIsName ?kIsName ?aIsInt ?lIsInt ?cIsInt ?kIsInt ?aIsVals ?lIsVals ?cIsVals ?kIsVals ?aIsEvt ?lIsEvt ?cIsEvt ?kIsEvt ?aApp ?lApp ?cApp ?kApp ?aNames ?lNames ?cNames ?kNames ?aLApp ?lLApp ?cLApp ?kLApp ?aLCr ?lLCr ?cLCr ?kLCr ?aLRec ?lLRec ?cLRec ?kLRec ?aEvent ?lEvent ?cEvent ?kEvent ?aSafe ?lSafe ?cSafe ?kSafe ?aLSafe ?lLSafe ?cLSafe ?kLSafe ?aProt ?lProt ?cProt ?kProt ?aFlu ?lFlu ?cFlu ?kFlu ?aLaw ?lLaw ?cLaw ?kLaw ?aStore ?pgStore ?hdStore ?poStore ?saStore ?mkStore ?kcStore ?noStore_state ?noStore_waiting ?aSInit ?iSInit ?lSInit ?cSInit ?kSInit ?aSPerf ?iSPerf ?lSPerf ?cSPerf ?kSPerf ?aSSeen ?iSSeen ?lSSeen ?cSSeen ?kSSeen ?aSCur ?iSCur ?lSCur ?cSCur ?kSCur ?aSRec ?iSRec ?lSRec ?cSRec ?kSRec ?aSCr ?iSCr ?lSCr ?cSCr ?kSCr ?n_int ?n_len ?n_isinstance ?n_str ?n_all ?n_range ?n_bool ?n_dict ?n_tuple ?n_list ?n_reversed ?n_enumerate ?c_LETTERS ?c_DIGITS ?c_KEYWORDS ?l_KEYWORDS
    (case aMixed => k_is)
    (case lMixed => k_is)
    (case cMixed => k_is)
    (case kMixed => k_is)
    (case aDraw => k_is)
    (case lDraw => k_is)
    (case cDraw => k_is)
    (case kDraw => k_is)
    (case aPool => k_is)
    (case lPool => k_is)
    (case cPool => k_is)
    (case kPool => k_is)
    (case aIsName => k_is)
    (case lIsName => k_is)
    (case cIsName => k_is)
    (case kIsName => k_is)
    (case aIsInt => k_is)
    (case lIsInt => k_is)
    (case cIsInt => k_is)
    (case kIsInt => k_is)
    (case aIsVals => k_is)
    (case lIsVals => k_is)
    (case cIsVals => k_is)
    (case kIsVals => k_is)
    (case aIsEvt => k_is)
    (case lIsEvt => k_is)
    (case cIsEvt => k_is)
    (case kIsEvt => k_is)
    (case aApp => k_is)
    (case lApp => k_is)
    (case cApp => k_is)
    (case kApp => k_is)
    (case aNames => k_is)
    (case lNames => k_is)
    (case cNames => k_is)
    (case kNames => k_is)
    (case aLApp => k_is)
    (case lLApp => k_is)
    (case cLApp => k_is)
    (case kLApp => k_is)
    (case aLCr => k_is)
    (case lLCr => k_is)
    (case cLCr => k_is)
    (case kLCr => k_is)
    (case aLRec => k_is)
    (case lLRec => k_is)
    (case cLRec => k_is)
    (case kLRec => k_is)
    (case aEvent => k_is)
    (case lEvent => k_is)
    (case cEvent => k_is)
    (case kEvent => k_is)
    (case aSafe => k_is)
    (case lSafe => k_is)
    (case cSafe => k_is)
    (case kSafe => k_is)
    (case aLSafe => k_is)
    (case lLSafe => k_is)
    (case cLSafe => k_is)
    (case kLSafe => k_is)
    (case aProt => k_is)
    (case lProt => k_is)
    (case cProt => k_is)
    (case kProt => k_is)
    (case aFlu => k_is)
    (case lFlu => k_is)
    (case cFlu => k_is)
    (case kFlu => k_is)
    (case aLaw => k_is)
    (case lLaw => k_is)
    (case cLaw => k_is)
    (case kLaw => k_is)
    (case aStore => k_is)
    (case pgStore => k_is)
    (case hdStore => k_is)
    (case poStore => k_is)
    (case saStore => k_is)
    (case mkStore => k_is)
    (case kcStore => k_is)
    (case noStore_state => k_is)
    (case noStore_waiting => k_is)
    (case aSInit => k_is)
    (case iSInit => k_is)
    (case lSInit => k_is)
    (case cSInit => k_is)
    (case kSInit => k_is)
    (case aSPerf => k_is)
    (case iSPerf => k_is)
    (case lSPerf => k_is)
    (case cSPerf => k_is)
    (case kSPerf => k_is)
    (case aSSeen => k_is)
    (case iSSeen => k_is)
    (case lSSeen => k_is)
    (case cSSeen => k_is)
    (case kSSeen => k_is)
    (case aSCur => k_is)
    (case iSCur => k_is)
    (case lSCur => k_is)
    (case cSCur => k_is)
    (case kSCur => k_is)
    (case aSRec => k_is)
    (case iSRec => k_is)
    (case lSRec => k_is)
    (case cSRec => k_is)
    (case kSRec => k_is)
    (case aSCr => k_is)
    (case iSCr => k_is)
    (case lSCr => k_is)
    (case cSCr => k_is)
    (case kSCr => k_is)
    (case n_int => k_is)
    (case n_len => k_is)
    (case n_isinstance => k_is)
    (case n_str => k_is)
    (case n_all => k_is)
    (case n_range => k_is)
    (case n_bool => k_is)
    (case n_dict => k_is)
    (case n_tuple => k_is)
    (case n_list => k_is)
    (case n_reversed => k_is)
    (case n_enumerate => k_is)
    (case c_LETTERS => k_is)
    (case c_DIGITS => k_is)
    (case c_KEYWORDS => k_is)
    (case l_KEYWORDS => k_is)
#print axioms PySem.Challenge.cw_allornothing_k28_safe_events_holds

