import PyProof.Rows.All
import Wide.All
import OpenK.AllK
import Wide.FinOn
import HandS.ForMost
import HandS.Wide
import HandS.IsInst
import HandS.Walk
import HandS.Flow
import HandS.Property
import HandS.Star
import HandS.DictComp
import HandS.Conv
import HandS.Zip
import HandS.SortKw
import HandS.MapSum
import HandS.Text
import HandS.TryOnly
import HandS.FStr
import HandS.TupAny
import PyProof.StrBlock
import KE.GoesEnumKw
import KE.KTurns
import KE.GoesMore
import PySem.Challenge.RW_allornothing_k01_sums_in_texts
set_option Elab.async false
set_option linter.all false
set_option maxRecDepth 100000
set_option maxHeartbeats 4000000
namespace Aon
open PySem L2
def topS (i : Nat) : Stmt := PySem.Challenge.pw_allornothing_k01_sums_in_texts.main.body.getD i (.Pass ⟨0, 0, 0, 0⟩)

/-! ### words of this text, over HandS -/
theorem bb_int : bootBuiltins "int" = some (.type "int") := by decide +kernel
theorem bb_str : bootBuiltins "str" = some (.type "str") := by decide +kernel
theorem bb_bool : bootBuiltins "bool" = some (.type "bool") := by decide +kernel
theorem bb_list : bootBuiltins "list" = some (.type "list") := by decide +kernel
theorem bb_tuple : bootBuiltins "tuple" = some (.type "tuple") := by decide +kernel
theorem bb_len : bootBuiltins "len" = some (.builtin "len") := by decide +kernel
theorem bb_all : bootBuiltins "all" = some (.builtin "all") := by decide +kernel
theorem bb_isinstance : bootBuiltins "isinstance" = some (.builtin "isinstance") := by decide +kernel
/-- a def that stands under its name: its promise, and how it is called -/
structure Has (P : Program) (w : World) (K : PySem.W.Frag) (mg : Str → Option Value) (base : Heap) (CX : CXT) (k : Nat) (x : Str) (ps : List Str) (sp : Sp) : Prop where
  ex : ∃ (f : Addr) (fd : FuncData), FnOk P w K mg base CX k f fd ps sp ∧ mg x = some (.ref f) ∧ PySem.W.keepIn K (.ref f) = true ∧ Binds K fd ps []
section
variable {X : Cx}
theorem pe_callH {CX : CXT} {k : Nat} {x : Str} {ps : List Str} {sp : Sp} {E : XK} {e : Expr} {es : List Expr} {t : TA} {p pos : Pos} (F : Has X.prog X.w X.K X.mg X.base CX k x ps sp) (hr : Room k X.A) (hg : Gl X x) (hx : Passes CX X E) (ha : PA X (e :: es) t)
    (hd : (x == ("__debug__" : Str)) = false := by decide) (he : starEach (e :: es) X.env = (false, eval e X.env) :: starEach es X.env := by rfl) (hpl : (backTo pos (starEach es X.env)).any (·.1) = false := by rfl) :
    PE X (.Call (.Name x p) (e :: es) [] pos) (tCall sp [] E t) := by
  obtain ⟨f, fd, F, m, kp, b⟩ := F.ex
  exact pe_call F hr hg m kp b .nil hx ha hd he hpl
theorem pe_callH0 {CX : CXT} {k : Nat} {x : Str} {ps : List Str} {sp : Sp} {E : XK} {p pos : Pos} (F : Has X.prog X.w X.K X.mg X.base CX k x ps sp) (hr : Room k X.A) (hg : Gl X x) (hx : Passes CX X E) (hd : (x == ("__debug__" : Str)) = false := by decide) :
    PE X (.Call (.Name x p) [] [] pos) (tCall sp [] E tNil) := by
  obtain ⟨f, fd, F, m, kp, b⟩ := F.ex
  exact pe_call0 F hr hg m kp b .nil hx hd
theorem pe_globE {x : Str} {v : V} {pos : Pos} (hg : Gl X x) (hm : ∃ u, X.mg x = some u ∧ RelV v u) (hd : (x == ("__debug__" : Str)) = false := by decide) : PE X (.Name x pos) (tC v) := by
  obtain ⟨u, m, r⟩ := hm
  exact pe_glob hg m r hd
end
/-- a method of the class at C; a class under its name -/
structure HasM (P : Program) (w : World) (K : PySem.W.Frag) (mg : Str → Option Value) (base : Heap) (CX : CXT) (k : Nat) (C : Addr) (m : Str) (ps : List Str) (sp : Sp) : Prop where
  ex : ∃ (f : Addr) (fd : FuncData), Meth K C m f ∧ FnOk P w K mg base CX k f fd ps sp ∧ Binds K fd ps []
structure HasC (P : Program) (w : World) (K : PySem.W.Frag) (mg : Str → Option Value) (base : Heap) (CX : CXT) (k : Nat) (x : Str) (C : Addr) (ps : List Str) (sp : Sp) : Prop where
  ex : ∃ (f : Addr) (fd : FuncData), Mk K C f ∧ FnOk P w K mg base CX k f fd ps sp ∧ mg x = some (.ref C) ∧ Binds K fd ps []
section
variable {X : Cx}
theorem pe_methH {CX : CXT} {k : Nat} {C : Addr} {m : Str} {ps : List Str} {sp : Sp} {E : XK} {o e : Expr} {es : List Expr} {ta : TE} {t : TA} {apos pos : Pos} {pl : Sem Bool} (he : PE X o ta) (c : Cls X.K C) (M : HasM X.prog X.w X.K X.mg X.base CX k C m ps sp) (hr : Room k X.A) (hx : Passes CX X E)
    (ha : PA X (e :: es) t) (hst : starEach (e :: es) X.env = (false, eval e X.env) :: starEach es X.env := by rfl) (hpl : (backTo pos (starEach es X.env)).any (·.1) = false := by rfl)
    (ht : eval (.Call (.Attribute o m apos) (e :: es) [] pos) X.env = (do
      let v ← eval o X.env
      standAt apos.atName
      let (g, r) ← holding [v] (getMethod v m pl)
      callWith pos g r (backTo pos (starEach (e :: es) X.env)) (backToKw pos (keywordEach [] X.env))) := by rfl) : PE X (.Call (.Attribute o m apos) (e :: es) [] pos) (tMeth C m sp [] E ta t) := by
  obtain ⟨f, fd, hm, F, b⟩ := M.ex
  exact pe_meth (pl := pl) he c hm F hr b .nil hx ha hst hpl ht
theorem pe_methH0 {CX : CXT} {k : Nat} {C : Addr} {m : Str} {ps : List Str} {sp : Sp} {E : XK} {o : Expr} {ta : TE} {apos pos : Pos} {pl : Sem Bool} (he : PE X o ta) (c : Cls X.K C) (M : HasM X.prog X.w X.K X.mg X.base CX k C m ps sp) (hr : Room k X.A) (hx : Passes CX X E)
    (ht : eval (.Call (.Attribute o m apos) [] [] pos) X.env = (do
      let v ← eval o X.env
      standAt apos.atName
      let (g, r) ← holding [v] (getMethod v m pl)
      callWith pos g r (backTo pos (starEach [] X.env)) (backToKw pos (keywordEach [] X.env))) := by rfl) : PE X (.Call (.Attribute o m apos) [] [] pos) (tMeth C m sp [] E ta tNil) := by
  obtain ⟨f, fd, hm, F, b⟩ := M.ex
  exact pe_meth0 (pl := pl) he c hm F hr b .nil hx ht
theorem pe_makeH {CX : CXT} {k : Nat} {x : Str} {C : Addr} {ps : List Str} {sp : Sp} {E : XK} {e : Expr} {es : List Expr} {t : TA} {p pos : Pos} (M : HasC X.prog X.w X.K X.mg X.base CX k x C ps sp) (hr : Room (k + 1) X.A) (hg : Gl X x) (hx : Passes CX X E) (ha : PA X (e :: es) t)
    (hd : (x == ("__debug__" : Str)) = false := by decide) (he : starEach (e :: es) X.env = (false, eval e X.env) :: starEach es X.env := by rfl) (hpl : (backTo pos (starEach es X.env)).any (·.1) = false := by rfl) :
    PE X (.Call (.Name x p) (e :: es) [] pos) (tMake C sp [] E t) := by
  obtain ⟨f, fd, mk, F, m, b⟩ := M.ex
  exact pe_make mk F hr hg m b .nil hx ha hd he hpl
theorem pe_propH {CX : CXT} {k : Nat} {C p : Addr} {f : Str} {ps : List Str} {sp : Sp} {E : XK} {e : Expr} {ta : TE} {pos : Pos} (he : PE X e ta) (c : Cls X.K C) (M : ∃ (g : Addr) (fd : FuncData), PropOf X.K C f p g ∧ FnOk X.prog X.w X.K X.mg X.base CX k g fd ps sp ∧ Binds X.K fd ps []) (hr : Room (k + 1) X.A) (hx : Passes CX X.nox E)
    (hab : attributeBase e f X.env (eval e X.env) = eval e X.env := by rfl) : PE X (.Attribute e f pos) (tProp C sp [] E ta) := by
  obtain ⟨g, fd, hp, F, b⟩ := M
  exact pe_prop he c hp F hr b .nil hx hab
end
/-- all but p and c stands -/
def But (p c : Addr) (H H' : Hp) : Prop := ∀ b o, H b = some o → b ≠ p → b ≠ c → H' b = some o
theorem But.refl {p c : Addr} {H : Hp} : But p c H H := fun _ _ e _ _ => e
theorem But.trans {p c : Addr} {H H1 H2 : Hp} (a : But p c H H1) (b : But p c H1 H2) : But p c H H2 := fun x o e h1 h2 => b x o (a x o e h1 h2) h1 h2
theorem iteE {c : Bool} {A B : Prop} (hc : c = false) (k : B) : if c = true then A else B := by
  rw [hc]
  exact iteF k
theorem iteS {c : Bool} {A B : Prop} (hc : c = true) (k : A) : if c = true then A else B := by
  rw [hc]
  exact iteT k

def dOf : V → PyData
  | .non => .none | .bl b => .bool b | .int i => .int i | .str z => .str z | _ => .none
theorem dp_flat {K : PySem.W.Frag} {H : Hp} {v : V} (h : flatV v = true) : Dp K H v (dOf v) := by
  cases v with
  | non => exact .non
  | bl b => exact .bl b
  | int i => exact .int i
  | str z => exact .str z
  | _ => cases h
theorem dpAll_flat {K : PySem.W.Frag} {H : Hp} : ∀ {xs : List V}, xs.all flatV = true → DpAll K H xs (xs.map dOf)
  | [], _ => .nil
  | x :: xs, h => by
    rw [List.all_cons, Bool.and_eq_true] at h
    exact .cons (dp_flat h.1) (dpAll_flat h.2)
/-! shapes -/
def okV : V → Bool
  | .str z => PyData.strOk z
  | _ => true
theorem lay_dOf {v : V} (h : okV v = true) : (dOf v).canLay0 = true := by
  cases v with
  | str z => simpa [dOf, PyData.canLay0, okV] using h
  | _ => simp [dOf, PyData.canLay0]
theorem layAll_dOf : ∀ {xs : List V}, xs.all okV = true → PyData.canLayAll0 (xs.map dOf) = true
  | [], _ => by simp [PyData.canLayAll0]
  | x :: xs, h => by
    rw [List.all_cons, Bool.and_eq_true] at h
    simp only [List.map_cons, PyData.canLayAll0, Bool.and_eq_true]
    exact ⟨lay_dOf h.1, layAll_dOf h.2⟩
theorem depth_dOf (v : V) : (dOf v).depth = 0 := by cases v <;> simp [dOf, PyData.depth]
theorem depthAll_dOf : ∀ xs : List V, PyData.depthAll (xs.map dOf) = 0
  | [] => by simp [PyData.depthAll]
  | x :: xs => by simp only [List.map_cons, PyData.depthAll, depth_dOf, depthAll_dOf xs]; rfl
theorem shaped_tup {xs : List V} (h : xs.all okV = true) : SeqAt.shaped (.tuple (xs.map dOf)) = true := by
  unfold SeqAt.shaped
  simp only [PyData.canLay0, PyData.depth, layAll_dOf h, depthAll_dOf, Bool.true_and]
  decide

/-! ### {**d, k: v}: the rule -/
section
variable {prog : Program} {w : World} {A : Around} {E : Value → Shared → Prop} {s : Shared}
theorem dput_ok {d : Addr} {kvs : List (Key × Value)} {k : Key} {key v : Value} {Q : Unit → Shared → Prop} (hkey : (mixKind prog w).is k key = true) (hm : s.heap.DictOf (mixKind prog w) d kvs) (hz : kvs.length ≤ sizeLine)
    (hQ : ∀ h', h'.DictOf (mixKind prog w) d (stored kvs k v) → Heap.SameBut d s.heap h' → Q () { s with heap := h' }) :
    wpAny (model prog w) A (dictPut d ((mixKind prog w).hash k) key v) Q E s := by
  obtain ⟨ob, es, ep, e1, e2, e3, e4, e5, e6⟩ := hm
  have z1 : es.size ≤ sizeLine := by
    have q1 := e5.length
    rw [Array.length_toList] at q1
    omega
  have fe : (es.findIdx? fun e => (mixKind prog w).is k e.key) = kvs.findIdx? fun kv => decide (kv.1 = k) := by
    rw [← e5.findIdx k]
    cases es with
    | mk l => simp
  unfold dictPut
  refine wpAny_bind (wpAny_dictFind_of hkey e1 e3 e4 ?_)
  cases fi : es.findIdx? fun e => (mixKind prog w).is k e.key with
  | some i =>
    have an : (kvs.any fun kv => decide (kv.1 = k)) = true := any_of_findIdx_some (fe ▸ fi)
    refine wpAny_updateDict e1 e3 (hQ _ ⟨_, _, ep, Heap.get?_update_self _ e1 (Obj.isFreed_of_dict (Obj.data_mapDict e3 _)), e2.mapDict _, Obj.data_mapDict e3 _, e4.modify _ _, ?_, ?_⟩ (Heap.SameBut.update ..))
    · unfold stored
      rw [if_pos an]
      have fl : (es.toList.findIdx? fun e => (mixKind prog w).is k e.key) = some i := by
        rw [← fi]
        cases es with
        | mk l => simp
      have r := e5.modify e6 fl v
      cases es with
      | mk l => simpa using r
    · unfold stored
      rw [if_pos an, keys_map_store]
      exact e6
  | none =>
    have nm : k ∉ kvs.map (·.1) := not_mem_of_findIdx_none (fe ▸ fi)
    have an : ¬ (kvs.any fun kv => decide (kv.1 = k)) = true := fun z => by
      obtain ⟨kv, m, q⟩ := List.any_eq_true.mp z
      exact nm (List.mem_map.mpr ⟨kv, m, of_decide_eq_true q⟩)
    refine wpAny_updateDictKeys (hz := z1) e1 e3 (hQ _ ⟨_, _, ep + 1, Heap.get?_update_self _ e1 (Obj.isFreed_of_dict (Obj.data_mapDictKeys e3 _)), e2.mapDictKeys _, Obj.data_mapDictKeys e3 _, e4.push hkey _, ?_, ?_⟩ (Heap.SameBut.update ..))
    · unfold stored
      rw [if_neg an]
      have r := e5.append hkey ((mixKind prog w).hash k) v
      cases es with
      | mk l => simpa using r
    · unfold stored
      rw [if_neg an, List.map_append, List.nodup_append]
      exact ⟨e6, by simp, fun a ha b hb z => nm (by
        have : b = k := by simpa using hb
        rw [← this, ← z]
        exact ha)⟩
theorem noref_loop {es : Array DictEntry} (hk : KeysOf (mixKind prog w) es) {f : DictEntry → PUnit → Sem (ForInStep PUnit)} (hf : ∀ e u, (∀ a, e.key ≠ .ref a) → f e u = pure (.yield PUnit.unit)) {Q : PUnit → Shared → Prop} (h : Q PUnit.unit s) :
    wpAny (model prog w) A (forIn es PUnit.unit f) Q E s := by
  rw [← Array.forIn_toList]
  have all : ∀ e ∈ es.toList, ∀ a, e.key ≠ Value.ref a := fun e he a z => by
    obtain ⟨k, q, _⟩ := hk e (by simpa using he)
    rcases keyIs_shape (k := k) (v := e.key) q with ⟨_, _, _, q⟩ | ⟨_, _, _, q⟩ <;> (rw [z] at q; cases q)
  refine wpAny_forIn_list f (fun rest _ s' => (∀ e ∈ rest, ∀ a, e.key ≠ Value.ref a) ∧ s' = s) Q ?_ ?_ es.toList PUnit.unit ⟨all, rfl⟩
  · rintro e rest b s' ⟨ha, rfl⟩
    rw [hf e b (ha e (List.mem_cons_self ..))]
    exact wpAny_pure ⟨fun x hx => ha x (List.mem_cons_of_mem _ hx), rfl⟩
  · rintro b s' ⟨_, rfl⟩
    exact h
theorem mergeMap_ok {d o : Addr} {kvs more : List (Key × Value)} {Q : Unit → Shared → Prop} (hdo : d ≠ o) (hoS : (o == sysModules) = false) (hd : s.heap.DictOf (mixKind prog w) d kvs) (ho : s.heap.DictOf (mixKind prog w) o more)
    (hz : kvs.length + more.length ≤ sizeLine) (hQ : ∀ h', h'.DictOf (mixKind prog w) d (merged kvs more) → Heap.SameBut d s.heap h' → Q () { s with heap := h' }) :
    wpAny (model prog w) A (mergeMapping d (.ref o) false) Q E s := by
  have ty := ho.typeIs
  obtain ⟨od, esd, epd, d1, d2, d3, d4, d5, d6⟩ := id hd
  obtain ⟨oo, es, ep, o1, o2, o3, o4, o5, o6⟩ := id ho
  have hlen : more.length = es.size := by rw [← o5.length]; simp
  unfold mergeMapping
  refine wpAny_bind (wpAny_isInstance ty isSubtype_dict_dict ?_)
  simp only [if_true]
  refine wpAny_bind (wpAny_specialOf ty F.slot_dict_iter.lookup ?_)
  simp only [beq_self_eq_true, Bool.false_eq_true, if_false]
  refine wpAny_bind (wpAny_pure ?_)
  dsimp only
  rw [if_neg (by rw [hoS]; exact Bool.false_ne_true)]
  refine wpAny_bind (wpAny_dictEntries d1 d3 ?_)
  have loop : wpAny (model prog w) A (do
      let l ← dictEntries o
      let epoch ← dictEpoch o
      forIn (List.range l.size) PUnit.unit fun i _ => (do
          let l' ← dictEntries o
          match l'[i]? with
            | some e => do
              holding [e.key, e.val] (dictPut d e.hash e.key e.val)
              let ep' ← dictEpoch o
              if (ep' != epoch) = true then do
                  (unsupported "dict.changed-during-merge" : Sem PUnit)
                  pure (ForInStep.yield PUnit.unit)
                else pure (ForInStep.yield PUnit.unit)
            | _ => do
              (unsupported "dict.changed-during-merge" : Sem PUnit)
              pure (ForInStep.yield PUnit.unit) : Sem (ForInStep PUnit))
      pure ()) Q E s := by
    refine wpAny_bind (wpAny_dictEntries o1 o3 (wpAny_bind (wpAny_dictEpoch o1 o3 (wpAny_bind ?_))))
    refine wpAny_forIn_list _ (fun rest _ s' => ∃ (h' : Heap) (i : Nat), s' = { s with heap := h' } ∧ rest = (List.range es.size).drop i ∧ i ≤ es.size ∧ h'.DictOf (mixKind prog w) d (merged kvs (more.take i)) ∧ h'.get? o = some oo ∧ Heap.SameBut d s.heap h') _ ?_ ?_ _ _
      ⟨s.heap, 0, rfl, rfl, Nat.zero_le _, by simpa [merged] using hd, o1, Heap.SameBut.refl _ _⟩
    · rintro x rest b s' ⟨h', i, rfl, hr, hi, hd', ho', hs'⟩
      have hlt : i < es.size := by
        rcases Nat.lt_or_ge i es.size with q | q
        · exact q
        · rw [List.drop_of_length_le (by simpa using q)] at hr
          cases hr
      rw [List.drop_eq_getElem_cons (by simpa using hlt), List.getElem_range] at hr
      injection hr with hx hr
      subst hx
      refine wpAny_bind (wpAny_dictEntries ho' o3 ?_)
      rw [Array.getElem?_eq_getElem hlt]
      obtain ⟨⟨k, v⟩, hkv⟩ : ∃ kv, more[x]? = some kv := ⟨more[x]'(by omega), by simp [hlen, hlt]⟩
      obtain ⟨hkey, hval⟩ := o5.get? (e := es[x]) (by simp [hlt]) hkv
      obtain ⟨k', hkey', hhash⟩ := o4 es[x] (Array.getElem_mem hlt)
      obtain rfl : k' = k := (mixKind prog w).inj _ _ _ hkey' hkey
      show wpAny _ _ (holding [es[x].key, es[x].val] (dictPut d es[x].hash es[x].key es[x].val) >>= _) _ _ _
      rw [hhash, hval]
      have q1 := merged_length_le kvs (more.take x)
      have q2 : (more.take x).length ≤ more.length := by rw [List.length_take]; omega
      refine wpAny_bind (wpAny_holding (dput_ok hkey hd' (by omega) fun h2 hd2 hs2 => ?_))
      have ho2 : h2.get? o = some oo := (hs2.2 o (Ne.symm hdo)).trans ho'
      refine wpAny_bind (wpAny_dictEpoch ho2 o3 ?_)
      rw [if_neg (by simp)]
      exact wpAny_pure ⟨h2, x + 1, rfl, hr, hlt, by rw [merged_take_succ kvs more x (k', v) hkv]; exact hd2, ho2, hs'.trans hs2⟩
    · rintro b s' ⟨h', i, rfl, hr, hi, hd', ho', hs'⟩
      have e : i = es.size := by
        rcases Nat.lt_or_ge i es.size with q | q
        · rw [List.drop_eq_getElem_cons (by simpa using q)] at hr
          cases hr
        · omega
      rw [e, ← hlen, List.take_length] at hd'
      exact wpAny_pure (hQ h' hd' hs')
  split
  · refine wpAny_bind (wpAny_dictEntries o1 o3 (wpAny_bind (noref_loop o4 (fun e u hne => ?_) loop)))
    split
    · rename_i a q
      exact absurd q (hne a)
    · rfl
  · exact loop
end
/-- what is asked of the mapping and the pair; the new dict stands at p -/
def tDstar (td tk tv : TE) : TE := fun σ H Q => ∀ p, H p = none → td σ (upd H p (.dK [])) fun x H1 => ∃ (a : Addr) (kvs : List (Key × V)), x = .ref a ∧ a ≠ p ∧ Rd H1 a (.dK kvs) ∧ H1 p = some (.dK []) ∧ kvs.length ≤ 1000 ∧
  ∀ q, H1 q = none → tk σ (upd (upd H1 p (.dK kvs)) q (.dK [])) fun y H2 => tv σ H2 fun z H3 => ∃ k : Key, y = kV k ∧ H3 p = some (.dK kvs) ∧ H3 q = some (.dK []) ∧ Q (.ref p) (upd (upd H3 q (.dK [(k, z)])) p (.dK (putK kvs k z)))
section
variable {X : Cx}
theorem dictDisplay_star (m k v : Sem Value) : dictDisplay [(none, m), (some k, v)] = (do
    let d ← alloc { cls := .type "dict", data := .dict #[] }
    let x ← holding [.ref d] m
    (((holding [.ref d, x] (mergeMapping d x false)).onRaise fun y => do let _ ← holding [.ref d, x, y] (runValue (.builtin "proto.let_go" {}))).tryCatch fun e => do
        if ← isInstance e (.type "AttributeError") then
          rule "dict.display.not-a-mapping"; raiseError "TypeError" s!"'{← typeNameOf x}' object is not a mapping"
        throw e).onRaise fun y => do let _ ← holding [.ref d, y] (runValue (.builtin "proto.let_go" {}))
    let sub ← holding [.ref d] (subDict [(k, v)])
    (holding [.ref d, .ref sub] (mergeMapping d (.ref sub) false)).onRaise fun y => do let _ ← holding [.ref d, y] (runValue (.builtin "proto.let_go" {}))
    pure (.ref d)) := by
  unfold dictDisplay
  simp [List.forIn_cons, List.forIn_nil]
theorem stored_nodup {kvs : List (Key × Value)} : (kvs.map (·.1)).Nodup → merged ([] : List (Key × Value)) kvs = kvs := merged_nil_of_nodup kvs
theorem kv_put {kvs : List (Key × V)} {vs : List (Key × Value)} (r : KV kvs vs) (k : Key) {z : V} {u : Value} (rz : RelV z u) : KV (putK kvs k z) (stored vs k u) := r.put k rz
theorem pe_dstar {d k v : Expr} {td tk tv : TE} {pos : Pos} (hd : PE X d td) (hk : PE X k tk) (hv : PE X v tv) : PE X (.Dict [none, some k] [d, v] pos) (tDstar td tk tv) := by
  refine ⟨fun pins s σ H Q I h => ?_⟩
  rw [arm_eval_Dict]
  refine wpAny_bind (wpAny_standAt ?_)
  show wpAny _ _ (dictDisplay [(none, do let x ← eval d X.env; standAt pos; pure x), (some (eval k X.env), do let x ← eval v X.env; standAt pos; pure x)]) _ _ _
  rw [dictDisplay_star]
  refine wpAny_bind (wpAny_alloc ?_)
  have hn := I.hok.fresh (Nat.le_refl s.heap.objs.size)
  have I1 := I.laid (a := s.heap.objs.size) (o := .dK []) (h' := s.heap.push { cls := .type "dict", data := .dict #[] }) (t' := s.toks) (fun _ _ q => Heap.get?_push_of_some _ q) (Nat.le_refl _) (dk_empty s.heap I.big)
  refine wpAny_bind (wpAny_holding (wpAny_bind (thn (hd.run pins _ σ _ _ I1 (h _ hn)) fun xv s1 hh => ?_)))
  obtain ⟨x, H1, J1, rx, a, kvs, ex, nap, ea, ep, hl, hq⟩ := hh
  subst ex
  obtain rfl : xv = Value.ref a := rx
  refine wpAny_bind (wpAny_standAt (wpAny_pure ?_))
  obtain ⟨_, ma, va, ra, da⟩ := dk_rd J1.hok ea
  obtain ⟨_, mp, vp, rp, dp⟩ := dk_of J1.hok ep
  cases rp
  have lva : va.length ≤ 1000 := by rw [← ra.length]; exact hl
  have ndv : (va.map (·.1)).Nodup := by
    obtain ⟨_, _, _, _, _, _, _, _, nd⟩ := da
    exact nd
  refine wpAny_bind (wpAny_onRaise (wpAny_tryCatch (wpAny_onRaise (wpAny_holding (mergeMap_ok (Ne.symm nap) ma dp da (by rw [sizeLine_eq, List.length_nil]; omega) fun h2 d2 s2 => ?_)))))
  rw [stored_nodup ndv] at d2
  have kz : kvs.length ≤ sizeLine := by rw [sizeLine_eq]; omega
  have J2 : Inv X pins σ (upd H1 s.heap.objs.size (.dK kvs)) { s1 with heap := h2, toks := s1.toks } :=
    d_write J1 (by rw [ep]; exact True.intro) s2 (let ⟨q, _, _, hq, _⟩ := d2; ⟨q, hq⟩) (dk_new kz mp ra d2)
  have hq2 : H1 h2.objs.size = none := by
    have f2 := J2.hok.fresh (Nat.le_refl h2.objs.size)
    have ne : h2.objs.size ≠ s.heap.objs.size := fun z => by
      rw [z, upd_same] at f2
      cases f2
    rw [upd_ne ne] at f2
    exact f2
  have J3 := J2.laid (a := h2.objs.size) (o := .dK []) (h' := h2.push { cls := .type "dict", data := .dict #[] }) (t' := s1.toks) (fun _ _ q => Heap.get?_push_of_some _ q) (Nat.le_refl _) (dk_empty h2 J2.big)
  refine wpAny_bind (wpAny_holding (wpAny_subDict (knd := mixKind X.prog X.w) (show 1 ≤ 15 by decide) ?_))
  unfold evalPairs
  refine wpAny_bind (thn (hk.run pins _ σ _ _ J3 (hq _ hq2)) fun kv s4 hh => ?_)
  obtain ⟨y, H4, J4, ry, hv4⟩ := hh
  refine wpAny_bind (wpAny_holding (wpAny_bind (thn (hv.run pins s4 σ H4 _ J4 hv4) fun vv s5 hh => ?_)))
  obtain ⟨z, H5, J5, rz, ky, ey, e5p, e5q, fin⟩ := hh
  subst ey
  refine wpAny_bind (wpAny_standAt (wpAny_pure (wpAny_bind ?_)))
  unfold evalPairs
  refine wpAny_holding (wpAny_pure (wpAny_pure ?_))
  obtain ⟨_, mq, vq, rq, dq⟩ := dk_of J5.hok e5q
  cases rq
  refine ⟨[(ky, vv)], ⟨kV_is ry, rfl, trivial⟩, dq, fun h6 d6 s6 => ?_⟩
  have d6' : h6.DictOf (mixKind X.prog X.w) h2.objs.size [(ky, vv)] := d6
  have J6 : Inv X pins σ (upd H5 h2.objs.size (.dK [(ky, z)])) { s5 with heap := h6, toks := s5.toks + 1 } :=
    d_write J5 (by rw [e5q]; exact True.intro) s6 (let ⟨q, _, _, hq, _⟩ := d6; ⟨q, hq⟩) (dk_new (by show 1 ≤ sizeLine; decide) mq (Paired.cons ⟨rfl, rz⟩ Paired.nil) d6')
  have npq : s.heap.objs.size ≠ h2.objs.size := fun z => by
    rw [z] at e5p
    have q := e5p.symm.trans e5q
    have f2 := J2.hok.fresh (Nat.le_refl h2.objs.size)
    rw [z, upd_same] at f2
    cases f2
  have e6p : upd H5 h2.objs.size (.dK [(ky, z)]) s.heap.objs.size = some (.dK kvs) := by rw [upd_ne npq]; exact e5p
  obtain ⟨_, mp6, v6, r6, d6p⟩ := dk_of J6.hok e6p
  refine wpAny_bind (wpAny_onRaise (wpAny_holding (mergeMap_ok npq mq d6p d6' (by rw [← r6.length, sizeLine_eq]; show kvs.length + 1 ≤ _; omega) fun h7 d7 s7 => ?_)))
  have pl : (putK kvs ky z).length ≤ sizeLine := by
    have := length_putK kvs ky z
    rw [sizeLine_eq]
    omega
  have J7 : Inv X pins σ (upd (upd H5 h2.objs.size (.dK [(ky, z)])) s.heap.objs.size (.dK (putK kvs ky z))) { s5 with heap := h7, toks := s5.toks + 1 } :=
    d_write (s := { s5 with heap := h6, toks := s5.toks + 1 }) (t' := s5.toks + 1) J6 (by rw [e6p]; exact True.intro) s7 (let ⟨q, _, _, hq, _⟩ := d7; ⟨q, hq⟩) (dk_new pl mp6 (kv_put r6 ky rz) d7)
  exact wpAny_pure ⟨.ref s.heap.objs.size, _, J7, rfl, fin⟩
theorem call_dictOf : CallR X (.type "dict") (fun xs H Q => ∃ (a : Addr) (kvs : List (Key × V)), xs = [.ref a] ∧ Rd H a (.dK kvs) ∧ ∀ p, H p = none → Q (.ref p) (upd H p (.dK kvs))) := by
  intro pins s σ H xs us Q I r h
  obtain ⟨a, kvs, rfl, ea, q⟩ := h
  obtain ⟨u, rfl, ru⟩ := vals1 r
  obtain rfl : u = Value.ref a := ru
  exact d_copyOf I ea fun p s' hp I' => ⟨.ref p, _, I', rfl, q p hp⟩
end

/-! ### the pool: _law_pool, _law_mixed, _law_draw -/
abbrev sMixed : Stmt := topS 31
abbrev NMixed : List Str := ["_law_number", "_law_count", "_law_many"]
abbrev PMixed : List Str := ["_law_number", "_law_count", "_law_many"]
theorem scMixed : FnScope NMixed PMixed (defScope sMixed) := ⟨rfl, rfl, rfl, by decide +kernel, rfl, by decide +kernel, by decide +kernel⟩
abbrev sDraw : Stmt := topS 32
abbrev NDraw : List Str := ["_law_pool_here", "_law_many", "_law_at", "_law_cells", "_law_cell"]
abbrev PDraw : List Str := ["_law_pool_here", "_law_many"]
theorem scDraw : FnScope NDraw PDraw (defScope sDraw) := ⟨rfl, rfl, rfl, by decide +kernel, rfl, by decide +kernel, by decide +kernel⟩
abbrev sPool : Stmt := topS 30
abbrev NPool : List Str := ["_law_script", "_law_cells", "_law_cell", "_law_seed"]
abbrev PPool : List Str := ["_law_script"]
theorem scPool : FnScope NPool PPool (defScope sPool) := ⟨rfl, rfl, rfl, by decide +kernel, rfl, by decide +kernel, by decide +kernel⟩
/-- the pool at p, its cells at c; lim is its last item; at most n draws so far -/
def PoolAt (H : Hp) (p c : Addr) (lim : V) (n : Nat) : Prop :=
  ∃ (i : Nat) (cells : List Int) (cnt seed mode : Int), H p = some (.lst [.ref c, .int (i : Int), .int cnt, .int seed, .int mode, lim]) ∧ H c = some (.lst (cells.map V.int)) ∧
    i ≤ cells.length ∧ 0 ≤ cnt ∧ cnt ≤ (n : Int) ∧ 0 ≤ seed ∧ seed < 2147483647
def spMixed : Sp := fun vs H Q _ => ∃ (n c m : Int), vs = [.int n, .int c, .int m] ∧ 0 ≤ n ∧ n < 2147483647 ∧ 0 ≤ c ∧ c ≤ 1000000000000 ∧ 0 < m ∧ ∀ r : Int, 0 ≤ r → r < m → Q (.int r) H
def spDraw : Sp := fun vs H Q _ => ∃ (p c : Addr) (lim : V) (n : Nat) (m : Int), vs = [.ref p, .int m] ∧ PoolAt H p c lim n ∧ n < 1000000000000 ∧ 0 < m ∧ m ≤ 1000000000000000000 ∧
  ∀ (r : Int) (H' : Hp), 0 ≤ r → r < m → PoolAt H' p c lim (n + 1) → But p c H H' → Q (.int r) H'
def spPool (K : PySem.W.Frag) : Sp := fun vs H Q _ => ∃ (a : Addr) (ns : List Int), vs = [.ref a] ∧ SqL K H a (ns.map V.int) ∧ ns.length ≤ 63 ∧
  ∀ (p c : Addr) (H' : Hp), Same H H' → H p = none → H c = none → PoolAt H' p c (.int 30) 0 → Q (.ref p) H'
structure TxPool (mg : Str → Option Value) : Prop where
  n_int : mg "int" = none
  n_len : mg "len" = none
theorem pool_ne {H : Hp} {p c : Addr} {xs : List V} {cells : List Int} (hp : H p = some (.lst (.ref c :: xs))) (hc : H c = some (.lst (cells.map V.int))) : p ≠ c := ne_of hp hc (by
  intro z
  injection z with z
  cases cells with
  | nil => cases z
  | cons a r => injection z with z _; cases z)
theorem pow_lt {n c : Int} (h1 : 0 ≤ n) (h2 : n < 2147483647) (h3 : 0 ≤ c) (h4 : c ≤ 1000000000000) : (n + 7919 * c).natAbs < 2 ^ 64 := by
  have : (2 : Nat) ^ 64 = 18446744073709551616 := by decide
  omega
theorem m63 {m : Int} (h0 : 0 < m) (h1 : m ≤ 1000000000000000000) : m.natAbs < 2 ^ 63 := by
  have : (2 : Nat) ^ 63 = 9223372036854775808 := by decide
  omega
theorem set_ints (cells : List Int) (j : Nat) (z : Int) : (cells.map V.int).set j (V.int z) = (cells.set j z).map V.int := by
  rw [List.map_set]
theorem same_new {H : Hp} {p : Addr} {o : HO} (h : H p = none) : Same H (upd H p o) := fun b x e => by
  rw [upd_ne (ne_of_none e h)]
  exact e
theorem atI_in {α : Type} {xs : List α} {i : Int} (h0 : 0 ≤ i) (h1 : i < xs.length) : ∃ v, atI xs i = some v ∧ v ∈ xs := by
  have h : i.toNat < xs.length := by omega
  refine ⟨xs[i.toNat], ?_, List.getElem_mem h⟩
  have e : i = ((i.toNat : Nat) : Int) := by omega
  have q := atI_nat (xs := xs) (j := i.toNat) (v := xs[i.toNat]) (by simp [h])
  rw [← e] at q
  exact q
theorem PoolAt.same {H H' : Hp} {p c : Addr} {lim : V} {n : Nat} (h : PoolAt H p c lim n) (s : Same H H') : PoolAt H' p c lim n := by
  obtain ⟨i, cs, cn, sd, md, e1, e2, e⟩ := h
  exact ⟨i, cs, cn, sd, md, s _ _ e1, s _ _ e2, e⟩
theorem PoolAt.ne1 {H : Hp} {p c q : Addr} {lim : V} {n : Nat} (h : PoolAt H p c lim n) (hq : H q = none) : q ≠ p := fun z => by
  obtain ⟨_, _, _, _, _, e, _⟩ := h
  rw [z, e] at hq
  cases hq
theorem PoolAt.ne2 {H : Hp} {p c q : Addr} {lim : V} {n : Nat} (h : PoolAt H p c lim n) (hq : H q = none) : q ≠ c := fun z => by
  obtain ⟨_, _, _, _, _, _, e, _⟩ := h
  rw [z, e] at hq
  cases hq
theorem str_app_len (a b : Str) : (a ++ b : Str).length = a.length + b.length := by
  show (a.cps ++ b.cps).size = a.cps.size + b.cps.size
  exact Array.size_append
theorem PoolAt.mono {H : Hp} {p c : Addr} {lim : V} {n m : Nat} (h : PoolAt H p c lim n) (hm : n ≤ m) : PoolAt H p c lim m := by
  obtain ⟨i, cs, cn, sd, md, e1, e2, e3, e4, e5, e⟩ := h
  exact ⟨i, cs, cn, sd, md, e1, e2, e3, e4, by omega, e⟩
theorem PoolAt.upd {H : Hp} {p c q : Addr} {lim : V} {n : Nat} {o : HO} (h : PoolAt H p c lim n) (h1 : q ≠ p) (h2 : q ≠ c) : PoolAt (upd H q o) p c lim n := by
  obtain ⟨i, cs, cn, sd, md, e1, e2, e⟩ := h
  exact ⟨i, cs, cn, sd, md, by rw [upd_ne h1.symm]; exact e1, by rw [upd_ne h2.symm]; exact e2, e⟩
section
variable {P : Program} {w : World} {K : PySem.W.Frag} {mg : Str → Option Value} {base : Heap}
theorem ok_Mixed {f : Addr} {fd : FuncData} (F : Fun K "_law_mixed" "_law_mixed" sMixed f fd) (T : TxPool mg) : FnOk P w K mg base CX0 1 f fd PMixed spMixed := by
  refine F.ok scMixed (fun vs H Q E h => ?_) (fun cdv A outer s H vs Q E hr h => ?_)
  · obtain ⟨n, c, m, rfl, _⟩ := h
    rfl
  · obtain ⟨n, c, m, rfl, n0, n1, c0, c1, m0, k⟩ := h
    refine ⟨_, (pss_one (ps_ret (pe_op op_mod (pe_op op_fdiv (pe_callTy call_int1 (by rfl) T.n_int bb_int (pa_cons (pe_op op_mod (pe_op op_pow (pe_callTy call_int1 (by rfl) T.n_int bb_int (pa_cons (pe_op op_add (pv 0) (pe_op op_mul pe_int (pv 1))) pa_nil)) pe_int) pe_int) pa_nil)) pe_int) (pv 2)))), ?_⟩
    refine ⟨_, rfl, _, rfl, _, _, rfl, rfl, .inl ⟨by decide, by decide⟩, _, _, rfl, rfl, .inl ⟨_, rfl, ?_⟩⟩
    refine ⟨_, _, rfl, rfl, ⟨by decide, by decide, pow_lt n0 n1 c0 c1⟩, _, _, rfl, rfl, (show (0 : Int) < 2147483647 by decide), .inl ⟨_, rfl, ?_⟩⟩
    refine ⟨_, _, rfl, rfl, ⟨by decide, by decide⟩, _, rfl, _, _, rfl, rfl, m0, ?_⟩
    exact k _ (Int.emod_nonneg _ (by omega)) (Int.emod_lt_of_pos _ m0)
theorem ok_Draw {f : Addr} {fd : FuncData} (F : Fun K "_law_draw" "_law_draw" sDraw f fd) (T : TxPool mg) (GM : Has P w K mg base CX0 1 "_law_mixed" PMixed spMixed) :
    FnOk P w K mg base CX0 2 f fd PDraw spDraw := by
  refine F.ok scDraw (fun vs H Q E h => ?_) (fun cdv A outer s H vs Q E hr h => ?_)
  · obtain ⟨p, c, lim, n, m, rfl, _⟩ := h
    rfl
  · obtain ⟨p, c, lim, n, m, rfl, ⟨i, cells, cnt, seed, mode, hp, hc, hi, c0, c1, s0, s1⟩, hn, m0, m1, k⟩ := h
    have npc : p ≠ c := pool_ne hp hc
    refine ⟨_, (pss_cons (ps_asg (pe_op op_add (pe_ix (r := rIxL K) ix_list (pv 0) pe_int (fun _ _ => rfl)) pe_int) (pg_sub (pv 0) pe_int set_list))
  (pss_cons (ps_if (pt_cmpR op_ge (pe_ix (r := rIxL K) ix_list (pv 0) pe_int (fun _ _ => rfl)) (pe_callB call_len_seq (by rfl) T.n_len bb_len (pa_cons (pe_ix (r := rIxL K) ix_list (pv 0) pe_int (fun _ _ => rfl)) pa_nil)) (nomark _))
  (pss_one (ps_ret (pe_callH GM hr rfl pass0 (pa_cons (pe_ix (r := rIxL K) ix_list (pv 0) pe_int (fun _ _ => rfl)) (pa_cons (pe_ix (r := rIxL K) ix_list (pv 0) pe_int (fun _ _ => rfl)) (pa_cons (pv 1) pa_nil))))))
  pss_nil)
  (pss_cons (ps_set (i := 2) scDraw.nd rfl (Or.inl rfl) (pe_ix (r := rIxL K) ix_list (pv 0) pe_int (fun _ _ => rfl)))
  (pss_cons (ps_set (i := 3) scDraw.nd rfl (Or.inl rfl) (pe_ix (r := rIxL K) ix_list (pv 0) pe_int (fun _ _ => rfl)))
  (pss_cons (ps_set (i := 4) scDraw.nd rfl (Or.inl rfl) (pe_ix (r := rIxL K) ix_list (pv 3) (pv 2) (fun _ _ => rfl)))
  (pss_cons (ps_if (PW.pt (pw_and (pt_cmpR op_ne (pe_ix (r := rIxL K) ix_list (pv 0) pe_int (fun _ _ => rfl)) pe_int (nomark _)) (pw_and1 (pt_cmpR op_lt (pv 4) (pe_op op_pow pe_int pe_int) (nomark _)))))
  (pss_cons (ps_asg (pe_op op_add (pe_ix (r := rIxL K) ix_list (pv 0) pe_int (fun _ _ => rfl)) pe_int) (pg_sub (pv 0) pe_int set_list))
  (pss_cons (ps_if (pt_cmpR op_eq (pe_ix (r := rIxL K) ix_list (pv 0) pe_int (fun _ _ => rfl)) pe_int (nomark _))
  (pss_cons (ps_asg (pe_op op_add (pv 2) pe_int) (pg_sub (pv 0) pe_int set_list))
  (pss_one (ps_asg pe_int (pg_sub (pv 0) pe_int set_list))))
  pss_nil)
  (pss_one (ps_ret (pe_callH GM hr rfl pass0 (pa_cons (pe_op op_mod (pe_callTy call_int1 (by rfl) T.n_int bb_int (pa_cons (pv 4) pa_nil)) pe_int) (pa_cons (pe_ix (r := rIxL K) ix_list (pv 0) pe_int (fun _ _ => rfl)) (pa_cons (pv 1) pa_nil))))))))
  pss_nil)
  (pss_cons (ps_asg pe_int (pg_sub (pv 0) pe_int set_list))
  (pss_cons (ps_asg (pe_op op_fdivW (pe_callTy call_int1 (by rfl) T.n_int bb_int (pa_cons (pv 4) pa_nil)) (pv 1)) (pg_sub (pv 3) (pv 2) set_list))
  (pss_cons (ps_if (pt_cmpR op_eq (pe_ix (r := rIxL K) ix_list (pv 3) (pv 2) (fun _ _ => rfl)) pe_int (nomark _))
  (pss_cons (ps_asg (pe_op op_add (pv 2) pe_int) (pg_sub (pv 0) pe_int set_list))
  (pss_one (ps_asg pe_int (pg_sub (pv 0) pe_int set_list))))
  pss_nil)
  (pss_one (ps_ret (pe_op op_mod (pe_callTy call_int1 (by rfl) T.n_int bb_int (pa_cons (pv 4) pa_nil)) (pv 1))))))))))))), ?_⟩
    -- pool[2] = pool[2] + 1
    refine ⟨_, rfl, p, _, _, _, rfl, rfl, SqL.of hp, rfl, _, _, rfl, rfl, _, rfl, p, _, _, _, rfl, rfl, hp, rfl, ?_⟩
    have st : ∀ (i' : Nat) (md : Int) (cs : List Int), i' ≤ cs.length → ∀ H' : Hp, H' p = some (.lst [.ref c, .int (i' : Int), .int (cnt + 1), .int seed, .int md, lim]) → H' c = some (.lst (cs.map V.int)) → PoolAt H' p c lim (n + 1) :=
      fun i' md cs hl H' a b => ⟨i', cs, cnt + 1, seed, md, a, b, hl, by omega, by omega, s0, s1⟩
    have ac : ∀ {H' : Hp} {o : HO} {x : HO}, H' c = some x → upd H' p o c = some x := fun e => by rw [upd_ne npc.symm]; exact e
    have ap : ∀ {H' : Hp} {o : HO} {x : HO}, H' p = some x → upd H' c o p = some x := fun e => by rw [upd_ne npc]; exact e
    have kq : ∀ {H' : Hp} {o : HO}, But p c H H' → But p c H (upd H' p o) := fun b x o e hb hx => by rw [upd_ne hb]; exact b x o e hb hx
    have kc : ∀ {H' : Hp} {o : HO}, But p c H H' → But p c H (upd H' c o) := fun b x o e hb hx => by rw [upd_ne hx]; exact b x o e hb hx
    -- if pool[1] >= len(pool[0])
    refine ⟨_, rfl, p, _, _, _, rfl, rfl, SqL.of upd_same, rfl, _, rfl, p, _, _, _, rfl, rfl, SqL.of upd_same, rfl, c, _, rfl, .inl (SqL.of (ac hc)), _, _, rfl, rfl, _, rfl, ?_⟩
    refine ite2 (fun hge => ?_) (fun hlt => ?_)
    · refine ⟨_, rfl, p, _, _, _, rfl, rfl, SqL.of upd_same, rfl, _, rfl, p, _, _, _, rfl, rfl, SqL.of upd_same, rfl, _, rfl, seed, cnt + 1, m, rfl, s0, s1, by omega, by omega, m0, fun r r0 r1 => ?_⟩
      exact k r _ r0 r1 (st i mode cells hi _ upd_same (ac hc)) (kq But.refl)
    · have hil : i < cells.length := by
        have z : ¬ ((cells.map V.int).length : Int) ≤ (i : Int) := fun z => hlt (decide_eq_true z)
        rw [List.length_map] at z
        omega
      obtain ⟨cell, hcell⟩ : ∃ z, cells[i]? = some z := ⟨cells[i], by simp [hil]⟩
      have hcV : (cells.map V.int)[i]? = some (V.int cell) := by rw [List.getElem?_map, hcell]; rfl
      -- at, cells, cell
      refine ⟨_, rfl, p, _, _, _, rfl, rfl, SqL.of upd_same, rfl, ?_⟩
      refine ⟨_, rfl, p, _, _, _, rfl, rfl, SqL.of upd_same, rfl, ?_⟩
      refine ⟨_, rfl, _, rfl, c, _, _, _, rfl, rfl, SqL.of (ac hc), atI_nat hcV, ?_⟩
      -- if pool[4] != 2 and cell < 10 ** 18
      refine ⟨_, rfl, p, _, _, _, rfl, rfl, SqL.of upd_same, rfl, rfl, _, rfl, ?_⟩
      refine ite2 (fun h2 => ?gA) (fun h2 => iteF ?gB)
      case' gA => refine ⟨_, rfl, _, _, rfl, rfl, ⟨by decide, by decide, by decide⟩, _, _, rfl, rfl, _, rfl, ite2 (fun h3 => ?gD) (fun h3 => ?gC)⟩
      case gD =>
        refine ⟨_, rfl, p, _, _, _, rfl, rfl, SqL.of upd_same, rfl, _, _, rfl, rfl, _, rfl, p, _, _, _, rfl, rfl, upd_same, rfl, ?_⟩
        refine ⟨_, rfl, p, _, _, _, rfl, rfl, SqL.of upd_same, rfl, rfl, _, rfl, ite2 (fun h4 => ?_) (fun h4 => ?_)⟩
        · refine ⟨_, rfl, _, _, rfl, rfl, _, rfl, p, _, _, _, rfl, rfl, upd_same, rfl, ?_⟩
          refine ⟨_, rfl, p, _, _, _, rfl, rfl, upd_same, rfl, ?_⟩
          refine ⟨_, rfl, .inl ⟨_, rfl, _, _, rfl, rfl, (show (0 : Int) < 2147483647 by decide), _, rfl, p, _, _, _, rfl, rfl, SqL.of upd_same, rfl, _, rfl, _, cnt + 1, m, rfl, Int.emod_nonneg _ (by decide), Int.emod_lt_of_pos _ (by decide), by omega, by omega, m0, fun r r0 r1 => ?_⟩⟩
          exact k r _ r0 r1 (st (i + 1) 0 cells (by omega) _ upd_same (ac (ac (ac (ac hc))))) (kq (kq (kq (kq But.refl))))
        · refine ⟨_, rfl, .inl ⟨_, rfl, _, _, rfl, rfl, (show (0 : Int) < 2147483647 by decide), _, rfl, p, _, _, _, rfl, rfl, SqL.of upd_same, rfl, _, rfl, _, cnt + 1, m, rfl, Int.emod_nonneg _ (by decide), Int.emod_lt_of_pos _ (by decide), by omega, by omega, m0, fun r r0 r1 => ?_⟩⟩
          exact k r _ r0 r1 (st i (mode + 1) cells (by omega) _ upd_same (ac (ac hc))) (kq (kq But.refl))
      all_goals
        -- pool[4] = 2; cells[at] = int(cell) // many
        refine ⟨_, rfl, p, _, _, _, rfl, rfl, upd_same, rfl, ?_⟩
        have hix : ixN (cells.map V.int).length (i : Int) = some i := by
          unfold ixN
          rw [List.length_map, if_pos (by omega), if_pos (by omega), Int.toNat_natCast]
        refine ⟨_, rfl, .inl ⟨_, rfl, _, rfl, _, _, rfl, rfl, wide_div m0 (m63 m0 m1) (by decide) (by decide), _, rfl, _, rfl, c, _, _, i, rfl, rfl, ac (ac hc), hix, ?_⟩⟩
        rw [set_ints]
        have hcW : ((cells.set i (cell / m)).map V.int)[i]? = some (V.int (cell / m)) := by
          rw [List.getElem?_map, List.getElem?_set_self hil]; rfl
        have hlen : (cells.set i (cell / m)).length = cells.length := List.length_set
        refine ⟨_, rfl, _, rfl, c, _, _, _, rfl, rfl, SqL.of upd_same, atI_nat hcW, rfl, _, rfl, ite2 (fun h4 => ?_) (fun h4 => ?_)⟩
        · refine ⟨_, rfl, _, _, rfl, rfl, _, rfl, p, _, _, _, rfl, rfl, ap upd_same, rfl, ?_⟩
          refine ⟨_, rfl, p, _, _, _, rfl, rfl, upd_same, rfl, ?_⟩
          refine ⟨_, rfl, .inl ⟨_, rfl, _, rfl, _, _, rfl, rfl, m0, ?_⟩⟩
          exact k _ _ (Int.emod_nonneg _ (by omega)) (Int.emod_lt_of_pos _ m0) (st (i + 1) 0 _ (by omega) _ upd_same (ac (ac upd_same))) (kq (kq (kc (kq (kq But.refl)))))
        · refine ⟨_, rfl, .inl ⟨_, rfl, _, rfl, _, _, rfl, rfl, m0, ?_⟩⟩
          exact k _ _ (Int.emod_nonneg _ (by omega)) (Int.emod_lt_of_pos _ m0) (st i 2 _ (by omega) _ (ap upd_same) upd_same) (kc (kq (kq But.refl)))
/-! _law_pool -/
theorem cut63 {ns : List Int} (h : ns.length ≤ 63) : cutV (ns.map V.int) none (some 63) = ns.map V.int := by
  unfold cutV
  rw [HT.sIx_none, show HT.sIx (ns.map V.int).length (ns.map V.int).length (some 63) = min 63 (ns.map V.int).length from HT.sIx_nat _ _ 63]
  rw [List.length_map, List.drop_zero, List.take_of_length_le]
  rw [List.length_map]
  omega
theorem int_at {ns : List Int} {i : Nat} {x : V} (h : (ns.map V.int)[i]? = some x) : ∃ z, ns[i]? = some z ∧ x = V.int z := by
  rw [List.getElem?_map] at h
  cases e : ns[i]? with
  | none => rw [e] at h; cases h
  | some z => rw [e] at h; exact ⟨z, rfl, (Option.some.inj h).symm⟩
theorem take_snoc {α : Type} {l : List α} {i : Nat} {z : α} (h : l[i]? = some z) : l.take (i + 1) = l.take i ++ [z] := by
  rw [List.take_succ, h]; rfl
theorem ok_Pool {f : Addr} {fd : FuncData} (F : Fun K "_law_pool" "_law_pool" sPool f fd) (T : TxPool mg) : FnOk P w K mg base CX0 1 f fd PPool (spPool K) := by
  refine F.ok scPool (fun vs H Q E h => ?_) (fun cdv A outer s H vs Q E hr h => ?_)
  · obtain ⟨a, ns, rfl, _⟩ := h
    rfl
  · obtain ⟨a, ns, rfl, hS, hlen, k⟩ := h
    refine ⟨_, (pss_cons (ps_setLc (i := 1) (own := [("_law_cell", 2)]) (g := gName 2) (tt := tYes) rfl scPool.nd rfl rfl (sw_true rfl rfl rfl (by decide +kernel)) (pi_list (pe_slice sl_list (pv 0) po_none (po_some pe_int))) (blkOk_by (own := [("_law_cell", 2)]) (N := NPool) (sc := (defScope sPool)) (by decide +kernel)) (fun _ _ _ _ _ => (pg_name (i := 2) scPool.nd rfl (Or.inl rfl))) (fun _ _ _ _ _ => pts_nil) (fun _ _ _ _ _ => (pe_callTy call_int1 (by rfl) T.n_int bb_int (pa_cons (pv 2) pa_nil))))
  (pss_cons (ps_set (i := 3) scPool.nd rfl (Or.inl rfl) pe_int)
  (pss_cons (ps_for PassesOwn.never rfl (pi_list (pv 1)) (pg_name (i := 2) scPool.nd rfl (Or.inl rfl))
  (pss_one (ps_set (i := 3) scPool.nd rfl (Or.inl rfl) (pe_op op_mod (pe_callTy call_int1 (by rfl) T.n_int bb_int (pa_cons (pe_op op_add (pe_op op_mul (pv 3) pe_int) (pv 2)) pa_nil)) pe_int))))
  (pss_one (ps_ret (pe_lst (pa_cons (pv 1) (pa_cons pe_int (pa_cons pe_int (pa_cons (pv 3) (pa_cons pe_int (pa_cons pe_int pa_nil)))))))))))), ?_⟩
    refine ⟨_, rfl, 63, rfl, a, _, rfl, hS, fun q hq => ⟨q, rfl, ⟨_, SqL.of upd_same⟩, fun D hD => ?_⟩⟩
    rw [cut63 hlen] at *
    have nqD : q ≠ D := fun z => by rw [z, upd_same] at hD; cases hD
    have hD0 : H D = none := by rw [← hD, upd_ne (Ne.symm nqD)]
    refine lc_list (K := K) (a := q) (xs := ns.map V.int) (fun i H' => Same H H' ∧ H' q = some (.lst (ns.map V.int)) ∧ H' D = some (.lst ((ns.take i).map V.int))) ?_ ?_ ?_ ?_
    · exact ⟨fun b o e => by rw [upd_ne (ne_of_none e hD0), upd_ne (ne_of_none e hq)]; exact e, by rw [upd_ne nqD, upd_same], upd_same⟩
    · exact fun i H' _ h' => SqL.of h'.2.1
    · rintro i x H' hx ⟨s1, q1, d1⟩
      obtain ⟨z, hz, rfl⟩ := int_at hx
      refine ⟨rfl, _, rfl, .inl ⟨_, rfl, _, d1, ?_, ?_⟩⟩
      · exact small1000 (by rw [List.length_map, List.length_take]; omega)
      · refine ⟨fun b o e => by rw [upd_ne (ne_of_none e hD0)]; exact s1 b o e, by rw [upd_ne nqD]; exact q1, ?_⟩
        rw [upd_same, take_snoc hz, List.map_append]
        rfl
    · rintro H1 ⟨s1, q1, d1⟩
      rw [List.length_map, List.take_length] at d1
      -- seed = 11; the loop
      refine ⟨_, rfl, D, rfl, ⟨_, SqL.of d1⟩, for_list (K := K) (a := D) (xs := ns.map V.int) (fun i σ H' => ∃ (x : Option V) (z : Int), σ = [some (.ref a), some (.ref D), x, some (.int z)] ∧ 0 ≤ z ∧ z < 2147483647 ∧ H' = H1)
        ⟨none, 11, rfl, by decide, by decide, rfl⟩ (fun i σ H' _ ⟨_, _, _, _, _, e⟩ => by rw [e]; exact SqL.of d1) ?_ ?_⟩
      · rintro i x σ H' hx ⟨y, z, rfl, z0, z1, rfl⟩
        obtain ⟨u, hu, rfl⟩ := int_at hx
        refine ⟨_, rfl, _, _, rfl, rfl, .inr ⟨by decide, by decide⟩, _, rfl, _, _, rfl, rfl, .inl ⟨_, rfl, _, _, rfl, rfl, (show (0 : Int) < 2147483647 by decide), ?_⟩⟩
        exact ⟨_, _, rfl, Int.emod_nonneg _ (by decide), Int.emod_lt_of_pos _ (by decide), rfl⟩
      · rintro σ H' ⟨y, z, rfl, z0, z1, rfl⟩
        refine ⟨_, rfl, _, rfl, (by show 6 ≤ sizeLine; decide), fun p hp => ?_⟩
        have npD : D ≠ p := ne_of_none d1 hp
        refine k p D _ (s1.trans (same_new hp)) (s1.free hp) hD0 ⟨0, ns, 0, z, 0, upd_same, by rw [upd_ne npD]; exact d1, Nat.zero_le _, by decide, by decide, z0, z1⟩
end

def LET : Str := "abcdefghijklmnopqrstuvwxyz"
def DIG : Str := "0123456789"
def KWS : List Str := ["globals", "kinds", "keep", "def", "if", "else", "while", "risk", "raise", "try", "except", "finally", "undo", "with", "swallow", "return"]
def al (c : Nat) : Bool := decide (c ∈ LET.cps.toList) || decide (c ∈ DIG.cps.toList)

/-! of lcs.tpl: what the texts need -/
theorem Paired.snocP {α β : Type} {F : α → β → Prop} : ∀ {l₁ : List α} {l₂ : List β} {a : α} {b : β}, Paired F l₁ l₂ → F a b → Paired F (l₁ ++ [a]) (l₂ ++ [b])
  | _, _, _, _, .nil, h => .cons h .nil
  | _, _, _, _, .cons r t, h => .cons r (Paired.snocP t h)
theorem Paired.at {α β : Type} {F : α → β → Prop} {xs : List α} {ys : List β} (hp : Paired F xs ys) : ∀ {i : Nat} {x : α}, xs[i]? = some x → ∃ y, ys[i]? = some y ∧ F x y := by
  induction hp with
  | nil => intro i x h; simp at h
  | cons r t ih =>
    intro i x h
    cases i with
    | zero => cases h; exact ⟨_, rfl, r⟩
    | succ j => exact ih h
/-- tuples stay -/
def TSame (H H' : Hp) : Prop := ∀ b xs, H b = some (.tup xs) → H' b = some (.tup xs)
theorem TSame.of {H H' : Hp} (s : Same H H') : TSame H H' := fun b xs e => s b _ e
theorem TSame.trans {H H1 H2 : Hp} (a : TSame H H1) (b : TSame H1 H2) : TSame H H2 := fun x xs e => b x xs (a x xs e)
/-- each step gives some y with P i y; the steps lay new objects down -/
theorem lc_rel {J : It} {n : Nat} {G : Hp → Prop} {Y : Nat → Hp → V → Hp → Prop} (w : Walk J n G Y) {g : TG} {te : TE} {vs : List Nat} {σ : L2.St} {H1 : Hp} {D : Addr} {Qd : Hp → Prop} (P : Nat → V → Hp → Prop) (hP : ∀ i y H H', TSame H H' → P i y H → P i y H') (hD : H1 D = none) (hn : n ≤ 1000) (hG : ∀ H, Same H1 H → G H)
    (hs : ∀ i x H H' (k : VK), i < n → Same H1 H → Y i H x H' → (∀ y H4, Same H H4 → P i y H4 → k y H4) → g x (wipe σ vs) H' fun σ2 H2 => wipe σ2 vs = wipe σ vs ∧ te σ2 H2 k)
    (hd : ∀ ys H, Same H1 H → H D = some (.lst ys) → ys.length = n → (∀ i y, ys[i]? = some y → P i y H) → Qd H) :
    ∃ W : Nat → Nat → Hp → Prop, (∃ m, W 0 m (upd H1 D (.lst []))) ∧ ∀ i m H, W i m H →
      (J.stop i H ∧ Qd H) ∨ (J.go i H ∧ ∃ Nx : Hp → Prop, (∀ H', Nx H' → ∃ m', m' < m ∧ W (i + 1) m' H') ∧ ∀ x H', J.yld i H x H' → g x (wipe σ vs) H' fun σ2 H2 => wipe σ2 vs = wipe σ vs ∧ tYes σ2 H2 fun b H3 =>
        if b = true then te σ2 H3 fun y H4 => ∃ acc, H4 D = some (.lst acc) ∧ acc.length < sizeLine ∧ Nx (upd H4 D (.lst (acc ++ [y]))) else Nx H3) := by
  refine lc_it w (fun i H => Same H1 H ∧ ∃ ys, H D = some (.lst ys) ∧ ys.length = i ∧ ∀ j y, ys[j]? = some y → P j y H) ⟨same_new hD, [], upd_same, rfl, fun j y z => by simp at z⟩ (fun i H _ h => hG H h.1) (fun i x H H' hi ⟨s1, ys, e1, l1, p1⟩ y => ?_) (fun H ⟨s1, ys, e1, l1, p1⟩ => hd ys H s1 e1 l1 p1)
  refine hs i x H H' _ hi s1 y fun y H4 s4 p4 => ?_
  have t4 : TSame H4 (upd H4 D (.lst (ys ++ [y]))) := fun b xs z => by
    rw [upd_ne (ne_of z (s4 _ _ e1) (fun q => by cases q))]
    exact z
  refine ⟨ys, s4 _ _ e1, small1000 (by omega), fun b o z => ?_, ys ++ [y], upd_same, by rw [List.length_append, l1]; rfl, fun j z hz => ?_⟩
  · rw [upd_ne (ne_of_none z hD)]
    exact s4 b o (s1 b o z)
  · by_cases hj : j < ys.length
    · rw [List.getElem?_append_left hj] at hz
      exact hP _ _ _ _ ((TSame.of s4).trans t4) (p1 j z hz)
    · rw [List.getElem?_append_right (by omega)] at hz
      have hj' : j - ys.length = 0 := by
        have q := (List.getElem?_eq_some_iff.mp hz).1
        simp at q
        omega
      rw [hj'] at hz
      cases hz
      obtain rfl : j = i := by omega
      exact hP _ _ _ _ t4 p4
/-- each step gives f i -/
theorem lc_map {J : It} {n : Nat} {G : Hp → Prop} {Y : Nat → Hp → V → Hp → Prop} (w : Walk J n G Y) {g : TG} {te : TE} {vs : List Nat} {σ : L2.St} {H1 : Hp} {D : Addr} {Qd : Hp → Prop} (f : Nat → V) (hD : H1 D = none) (hn : n ≤ 1000) (hG : ∀ H, Same H1 H → G H)
    (hs : ∀ i x H H' (k : VK), i < n → Same H1 H → Y i H x H' → (∀ H4, Same H H4 → k (f i) H4) → g x (wipe σ vs) H' fun σ2 H2 => wipe σ2 vs = wipe σ vs ∧ te σ2 H2 k)
    (hd : ∀ H, Same H1 H → H D = some (.lst ((List.range n).map f)) → Qd H) :
    ∃ W : Nat → Nat → Hp → Prop, (∃ m, W 0 m (upd H1 D (.lst []))) ∧ ∀ i m H, W i m H →
      (J.stop i H ∧ Qd H) ∨ (J.go i H ∧ ∃ Nx : Hp → Prop, (∀ H', Nx H' → ∃ m', m' < m ∧ W (i + 1) m' H') ∧ ∀ x H', J.yld i H x H' → g x (wipe σ vs) H' fun σ2 H2 => wipe σ2 vs = wipe σ vs ∧ tYes σ2 H2 fun b H3 =>
        if b = true then te σ2 H3 fun y H4 => ∃ acc, H4 D = some (.lst acc) ∧ acc.length < sizeLine ∧ Nx (upd H4 D (.lst (acc ++ [y]))) else Nx H3) := by
  refine lc_rel w (fun i y _ => y = f i) (fun _ _ _ _ _ h => h) hD hn hG (fun i x H H' k hi s1 y kk => hs i x H H' k hi s1 y fun H4 s4 => kk _ H4 s4 rfl) fun ys H s1 e1 l1 p1 => hd H s1 ?_
  rw [e1]
  congr 2
  refine List.ext_getElem? fun j => ?_
  by_cases hj : j < n
  · rw [List.getElem?_map, List.getElem?_range hj]
    obtain ⟨y, hy⟩ : ∃ y, ys[j]? = some y := ⟨ys[j], by simp [l1, hj]⟩
    rw [hy, p1 j y hy]
    rfl
  · rw [List.getElem?_eq_none (by omega), List.getElem?_eq_none (by rw [List.length_map, List.length_range]; omega)]
theorem range_map {α β : Type} (l : List α) (F : α → β) (f : Nat → β) (h : ∀ (i : Nat) (x : α), l[i]? = some x → f i = F x) : (List.range l.length).map f = l.map F := by
  refine List.ext_getElem? fun j => ?_
  by_cases hj : j < l.length
  · rw [List.getElem?_map, List.getElem?_range hj, List.getElem?_map, List.getElem?_eq_getElem hj]
    exact congrArg some (h j _ (List.getElem?_eq_getElem hj))
  · rw [List.getElem?_eq_none (by rw [List.length_map, List.length_range]; omega), List.getElem?_eq_none (by rw [List.length_map]; omega)]

/-! ### tokens -/
abbrev sKindOf : Stmt := topS 12
abbrev NKindOf : List Str := ["word", "char"]
abbrev PKindOf : List Str := ["word"]
theorem scKindOf : FnScope NKindOf PKindOf (defScope sKindOf) := ⟨rfl, rfl, rfl, by decide +kernel, rfl, by decide +kernel, by decide +kernel⟩
abbrev sEndRun : Stmt := topS 13
abbrev NEndRun : List Str := ["text", "start", "at"]
abbrev PEndRun : List Str := ["text", "start"]
theorem scEndRun : FnScope NEndRun PEndRun (defScope sEndRun) := ⟨rfl, rfl, rfl, by decide +kernel, rfl, by decide +kernel, by decide +kernel⟩
abbrev sToksOf : Stmt := topS 14
abbrev NToksOf : List Str := ["text", "found", "at", "stop"]
abbrev PToksOf : List Str := ["text"]
theorem scToksOf : FnScope NToksOf PToksOf (defScope sToksOf) := ⟨rfl, rfl, rfl, by decide +kernel, rfl, by decide +kernel, by decide +kernel⟩
def SIG : Str := "=+-*&?(){},"
structure TxTok (K : PySem.W.Frag) (mg : Str → Option Value) (kw : Addr) : Prop where
  n_len : mg "len" = none
  c_LETTERS : ∃ u, mg "LETTERS" = some u ∧ RelV (.str LET) u
  c_DIGITS : ∃ u, mg "DIGITS" = some u ∧ RelV (.str DIG) u
  c_SIGNS : ∃ u, mg "SIGNS" = some u ∧ RelV (.str SIG) u
  c_KEYWORDS : ∃ u, mg "KEYWORDS" = some u ∧ RelV (.ref kw) u
  kws : ∀ H, SqT K H kw (KWS.map V.str)
def dg (c : Nat) : Bool := decide (c ∈ DIG.cps.toList)
def kindOf (z : Str) : Str := if inV (.str z) (KWS.map V.str) = true then "mark" else match z.cps.toList with
  | [] => "bad"
  | c :: r => if c ∈ LET.cps.toList then "name" else if (c :: r).all dg = false then "bad" else if c = 48 ∧ 1 < (c :: r).length then "bad" else "number"
theorem eq_sign (c d : Nat) : decide (V.str (⟨#[c]⟩ : Str) = V.str ⟨#[d]⟩) = decide (c = d) := decide_eq_decide.mpr ⟨fun h => by
  injection h with h
  injection h with h
  injection h with h
  exact List.head_eq_of_cons_eq h, fun h => by rw [h]⟩
section
variable {P : Program} {w : World} {K : PySem.W.Frag} {mg : Str → Option Value} {base : Heap} {kw : Addr}
def spKind : Sp := fun vs H Q _ => ∃ z : Str, vs = [.str z] ∧ z.cps.toList ≠ [] ∧ z.length ≤ 100000 ∧ Q (.str (kindOf z)) H
theorem ok_KindOf {f : Addr} {fd : FuncData} (F : Fun K "kind_of" "kind_of" sKindOf f fd) (T : TxTok K mg kw) : FnOk P w K mg base CX0 1 f fd PKindOf spKind := by
  refine F.ok scKindOf (fun vs H Q E h => ?_) (fun cdv A outer s H vs Q E hr h => ?_)
  · obtain ⟨z, rfl, _⟩ := h
    rfl
  · obtain ⟨z, rfl, hne, hz, k⟩ := h
    have hz' : z.length ≤ sizeLine := Nat.le_trans hz (by decide)
    obtain ⟨c, r, ec⟩ : ∃ c r, z.cps.toList = c :: r := by
      cases e : z.cps.toList with
      | nil => exact absurd e hne
      | cons a r => exact ⟨a, r, rfl⟩
    have h0 : z.cps.toList[0]? = some c := by rw [ec]; rfl
    have zl : z.length = (c :: r).length := by rw [← ec]; exact Array.length_toList.symm
    unfold kindOf at k
    rw [ec] at k
    simp only at k
    refine ⟨_, (pss_cons (ps_if (pt_cmpR op_in_seq (pv 0) (pe_globE rfl T.c_KEYWORDS) (by rfl))
  (pss_one (ps_ret pe_str))
  pss_nil)
  (pss_cons (ps_if (pt_cmpR op_in_sign (pe_ix ix_str (pv 0) pe_int (fun _ _ => rfl)) (pe_globE rfl T.c_LETTERS) (by rfl))
  (pss_one (ps_ret pe_str))
  pss_nil)
  (pss_cons (ps_for PassesOwn.never rfl (pi_str (pv 0)) (pg_name (i := 1) scKindOf.nd rfl (Or.inl rfl))
  (pss_one (ps_if (pt_cmpR op_notIn_sign (pv 1) (pe_globE rfl T.c_DIGITS) (by rfl))
  (pss_one (ps_ret pe_str))
  pss_nil)))
  (pss_cons (ps_if (PW.pt (pw_and (pt_cmpR op_eq (pe_ix ix_str (pv 0) pe_int (fun _ _ => rfl)) pe_str (nomark _)) (pw_and1 (pt_cmpR op_gt (pe_callB call_len_str (by rfl) T.n_len bb_len (pa_cons (pv 0) pa_nil)) pe_int (nomark _)))))
  (pss_one (ps_ret pe_str))
  pss_nil)
  (pss_one (ps_ret pe_str)))))), ?_⟩
    refine ⟨_, rfl, kw, _, rfl, .inr (T.kws _), rfl, by decide +kernel, _, rfl, ite2 (fun h1 => ?_) (fun h1 => ?_)⟩
    · have h1 : inV (.str z) (KWS.map V.str) = true := h1
      rw [if_pos h1] at k
      exact k
    · have h1 : ¬ inV (.str z) (KWS.map V.str) = true := h1
      rw [if_neg h1] at k
      refine ⟨_, rfl, z, 0, c, rfl, rfl, hz', atI_nat (j := 0) h0, c, _, rfl, rfl, _, rfl, ite2 (fun h2 => ?_) (fun h2 => ?_)⟩
      · rw [if_pos (of_decide_eq_true h2)] at k
        exact k
      · rw [if_neg (fun q => h2 (decide_eq_true q))] at k
        refine ⟨_, rfl, z, rfl, for_it (walk_str (z := z)) (fun i σ H' => H' = H ∧ (z.cps.toList.take i).all dg = true ∧ ∃ x, σ = [some (.str z), x]) ⟨rfl, rfl, none, rfl⟩ (fun _ _ _ _ _ => trivial) ?_ ?_⟩
        · rintro i x σ H1 H2 hi ⟨rfl, ha, y, rfl⟩ ⟨rfl, d, hd, rfl⟩
          have hd' : z.cps.toList[i]? = some d := by rw [Array.getElem?_toList]; exact hd
          refine ⟨_, rfl, d, _, rfl, rfl, _, rfl, ite2 (fun h3 => ?_) (fun h3 => ?_)⟩
          · have h3 : decide (d ∈ DIG.cps.toList) = false := by simpa using h3
            have : (c :: r).all dg = false := by
              rw [← ec, List.all_eq_false]
              exact ⟨d, List.mem_of_getElem? hd', by unfold dg; rw [h3]; decide⟩
            rw [if_pos this] at k
            exact k
          · have h3 : decide (d ∈ DIG.cps.toList) = true := by simpa using h3
            refine ⟨rfl, ?_, _, rfl⟩
            rw [take_snoc hd', List.all_append, ha, Bool.true_and, List.all_cons, List.all_nil, Bool.and_true]
            exact h3
        · rintro σ H1 ⟨rfl, ha, y, rfl⟩
          rw [show z.cps.size = z.cps.toList.length from Array.length_toList.symm, List.take_length, ec] at ha
          rw [if_neg (by rw [ha]; decide)] at k
          have e48 : ("0" : Str) = ⟨#[48]⟩ := by decide +kernel
          refine ⟨_, rfl, z, 0, c, rfl, rfl, hz', atI_nat (j := 0) h0, rfl, _, rfl, ite2 (fun h4 => ?_) (fun h4 => ?_)⟩
          · have h4 : decide (V.str (⟨#[c]⟩ : Str) = V.str ("0" : Str)) = true := h4
            rw [e48, eq_sign] at h4
            have h4 := of_decide_eq_true h4
            refine ⟨_, rfl, z, rfl, hz', _, _, rfl, rfl, _, rfl, ite2 (fun h5 => ?_) (fun h5 => ?_)⟩
            · have h5 := of_decide_eq_true h5
              rw [if_pos ⟨h4, by rw [← zl]; omega⟩] at k
              exact k
            · rw [if_neg (fun q => h5 (decide_eq_true (by rw [zl]; have := q.2; omega)))] at k
              exact k
          · have h4 : ¬ decide (V.str (⟨#[c]⟩ : Str) = V.str ("0" : Str)) = true := h4
            rw [e48, eq_sign] at h4
            rw [if_neg (fun q => h4 (decide_eq_true q.1))] at k
            exact k
/-! end_of_run -/
/-- the index behind the letters and digits that begin at i -/
def Run (t : List Nat) (i j : Nat) : Prop := i ≤ j ∧ j ≤ t.length ∧ (∀ x, i ≤ x → x < j → ∃ c, t[x]? = some c ∧ al c = true) ∧ ∀ c, t[j]? = some c → al c = false
def spEnd : Sp := fun vs H Q _ => ∃ (z : Str) (i j : Nat), vs = [.str z, .int (i : Nat)] ∧ z.length ≤ 100000 ∧ Run z.cps.toList i j ∧ Q (.int (j : Nat)) H
theorem ok_EndRun {f : Addr} {fd : FuncData} (F : Fun K "end_of_run" "end_of_run" sEndRun f fd) (T : TxTok K mg kw) : FnOk P w K mg base CX0 1 f fd PEndRun spEnd := by
  refine F.ok scEndRun (fun vs H Q E h => ?_) (fun cdv A outer s H vs Q E hr h => ?_)
  · obtain ⟨z, i, j, rfl, _⟩ := h
    rfl
  · obtain ⟨z, i, j, rfl, hz, ⟨r1, r2, r3, r4⟩, k⟩ := h
    have hz' : z.length ≤ sizeLine := Nat.le_trans hz (by decide)
    have zl : z.length = z.cps.toList.length := Array.length_toList.symm
    refine ⟨_, (pss_cons (ps_set (i := 2) scEndRun.nd rfl (Or.inl rfl) (pv 1))
  (pss_cons (ps_while PassesOwn.never (PW.pt (pw_and (pt_cmpR op_lt (pv 2) (pe_callB call_len_str (by rfl) T.n_len bb_len (pa_cons (pv 0) pa_nil)) (nomark _)) (pw_and1 (PW.pt (pw_or (pt_cmpR op_in_sign (pe_ix ix_str (pv 0) (pv 2) (fun _ _ => rfl)) (pe_globE rfl T.c_LETTERS) (by rfl)) (pw_or1 (pt_cmpR op_in_sign (pe_ix ix_str (pv 0) (pv 2) (fun _ _ => rfl)) (pe_globE rfl T.c_DIGITS) (by rfl))))))))
  (pss_one (ps_aug (i := 2) scEndRun.nd rfl (Or.inl rfl) pe_int ip_add)))
  (pss_one (ps_ret (pv 2))))), ?_⟩
    refine ⟨_, rfl, fun m σ H' => ∃ a : Nat, m = j - a ∧ i ≤ a ∧ a ≤ j ∧ σ = [some (.str z), some (.int (i : Nat)), some (.int (a : Nat))] ∧ H' = H, ⟨_, i, rfl, Nat.le_refl _, r1, rfl, rfl⟩, ?_⟩
    rintro m σ H1 ⟨a, rfl, a1, a2, rfl, eH⟩
    have stop : a = j → Q (.int (a : Nat)) H1 := fun e => by rw [e, eH]; exact k
    refine ⟨_, rfl, _, rfl, z, rfl, hz', _, _, rfl, rfl, _, rfl, ite2 (fun h1 => ?_) (fun h1 => iteE rfl ⟨_, rfl, stop ?_⟩)⟩
    · have h1 : a < z.cps.toList.length := by have := of_decide_eq_true h1; omega
      obtain ⟨c, hc⟩ : ∃ c, z.cps.toList[a]? = some c := ⟨_, List.getElem?_eq_getElem h1⟩
      have atc : atI z.cps.toList ((a : Nat) : Int) = some c := atI_nat hc
      have go : al c = true → a < j := fun h => by
        rcases Nat.lt_or_ge a j with q | q
        · exact q
        · have e : a = j := by omega
          rw [e] at hc
          rw [r4 c hc] at h
          cases h
      have no : al c = false → a = j := fun h => by
        rcases Nat.lt_or_ge a j with q | q
        · obtain ⟨d, h1, h2⟩ := r3 a a1 q
          rw [hc] at h1
          cases h1
          rw [h] at h2
          cases h2
        · omega
      refine ⟨_, rfl, _, rfl, z, _, c, rfl, rfl, hz', atc, c, _, rfl, rfl, _, rfl, ite2 (fun h2 => iteS rfl ?_) (fun h2 => ?_)⟩
      · have q := go (by unfold al; rw [show decide (c ∈ LET.cps.toList) = true from h2]; rfl)
        refine ⟨fun σ' H' => σ' = [some (.str z), some (.int (i : Nat)), some (.int ((a + 1 : Nat) : Int))] ∧ H' = H, fun σ' H' ⟨e1, e2⟩ => ⟨j - (a + 1), by omega, a + 1, rfl, by omega, by omega, e1, e2⟩, ?_⟩
        exact ⟨_, rfl, _, _, rfl, rfl, rfl, eH⟩
      · have h2 : decide (c ∈ LET.cps.toList) = false := by simpa using h2
        refine ⟨_, rfl, _, rfl, z, _, c, rfl, rfl, hz', atc, c, _, rfl, rfl, _, rfl, ite2 (fun h3 => ?_) (fun h3 => ?_)⟩
        · have q := go (by unfold al; rw [h2, show decide (c ∈ DIG.cps.toList) = true from h3]; rfl)
          refine ⟨fun σ' H' => σ' = [some (.str z), some (.int (i : Nat)), some (.int ((a + 1 : Nat) : Int))] ∧ H' = H, fun σ' H' ⟨e1, e2⟩ => ⟨j - (a + 1), by omega, a + 1, rfl, by omega, by omega, e1, e2⟩, ?_⟩
          exact ⟨_, rfl, _, _, rfl, rfl, rfl, eH⟩
        · have h3 : decide (c ∈ DIG.cps.toList) = false := by simpa using h3
          exact ⟨_, rfl, stop (no (by unfold al; rw [h2, h3]; rfl))⟩
    · have h1 : ¬ a < z.length := fun q => h1 (decide_eq_true (by omega))
      omega
end

/-! tokens_of -/
abbrev TK := Str × Str × Nat
def TkAt (H : Hp) (v : V) (tk : TK) : Prop := ∃ p, v = .ref p ∧ H p = some (.tup [.str tk.1, .str tk.2.1, .int (tk.2.2 : Nat)])
theorem TkAt.same {H H' : Hp} {v : V} {tk : TK} (h : TkAt H v tk) (s : ∀ b xs, H b = some (.tup xs) → H' b = some (.tup xs)) : TkAt H' v tk := let ⟨p, e, q⟩ := h; ⟨p, e, s _ _ q⟩
def cutT (t : List Nat) (i j : Nat) : Str := ⟨((t.drop i).take (j - i)).toArray⟩
def Plain (c : Nat) : Prop := c ≠ 32 ∧ c ≠ 10 ∧ c ∉ SIG.cps.toList
inductive Tkz (t : List Nat) : Nat → List TK → Prop
  | fin {a : Nat} (h : a = t.length) : Tkz t a [("end", "", a)]
  | gap {a c : Nat} {ts : List TK} (h : t[a]? = some c) (hc : c = 32 ∨ c = 10) (r : Tkz t (a + 1) ts) : Tkz t a ts
  | sign {a c : Nat} {ts : List TK} (h : t[a]? = some c) (hc : c ∈ SIG.cps.toList) (r : Tkz t (a + 1) ts) : Tkz t a (("mark", ⟨#[c]⟩, a) :: ts)
  | word {a j c : Nat} {ts : List TK} (h : t[a]? = some c) (hg : Plain c) (run : Run t a j) (lt : a < j) (k : kindOf (cutT t a j) ≠ "bad") (r : Tkz t j ts) : Tkz t a ((kindOf (cutT t a j), cutT t a j, a) :: ts)
  | bad {a j c : Nat} (h : t[a]? = some c) (hg : Plain c) (run : Run t a j) (b : j = a ∨ kindOf (cutT t a j) = "bad") : Tkz t a [("bad", "", a)]
theorem sig_gap : ∀ c ∈ SIG.cps.toList, c ≠ 32 ∧ c ≠ 10 := by decide +kernel
theorem e32 : (" " : Str) = ⟨#[32]⟩ := by decide +kernel
theorem e10 : ("\n" : Str) = ⟨#[10]⟩ := by decide +kernel
theorem cutS_nat {z : Str} {i j : Nat} (h1 : i ≤ j) (h2 : j ≤ z.cps.toList.length) : cutS z (some ((i : Nat) : Int)) (some ((j : Nat) : Int)) = cutT z.cps.toList i j := by
  have zl : z.length = z.cps.toList.length := Array.length_toList.symm
  unfold cutS cutT
  rw [HT.sIx_nat, HT.sIx_nat, Nat.min_eq_left (by omega), Nat.min_eq_left (by omega)]
theorem tkz_le {t : List Nat} {a : Nat} {ts : List TK} (h : Tkz t a ts) : a ≤ t.length := by
  cases h with
  | fin h => omega
  | gap h _ _ => exact Nat.le_of_lt (List.getElem?_eq_some_iff.mp h).1
  | sign h _ _ => exact Nat.le_of_lt (List.getElem?_eq_some_iff.mp h).1
  | word h _ _ _ _ _ => exact Nat.le_of_lt (List.getElem?_eq_some_iff.mp h).1
  | bad h _ _ _ => exact Nat.le_of_lt (List.getElem?_eq_some_iff.mp h).1
section
variable {P : Program} {w : World} {K : PySem.W.Frag} {mg : Str → Option Value} {base : Heap} {kw : Addr}
def spToks : Sp := fun vs H Q _ => ∃ (z : Str) (ts : List TK), vs = [.str z] ∧ z.length ≤ 100000 ∧ Tkz z.cps.toList 0 ts ∧ ts.length ≤ 100001 ∧ ∀ (L : Addr) (xs : List V) (H' : Hp), Same H H' → H L = none → H' L = some (.lst xs) → Paired (TkAt H') xs ts → Q (.ref L) H'
theorem ok_ToksOf {f : Addr} {fd : FuncData} (F : Fun K "tokens_of" "tokens_of" sToksOf f fd) (T : TxTok K mg kw) (GK : Has P w K mg base CX0 1 "kind_of" PKindOf spKind) (GE : Has P w K mg base CX0 1 "end_of_run" PEndRun spEnd) : FnOk P w K mg base CX0 2 f fd PToksOf spToks := by
  refine F.ok scToksOf (fun vs H Q E h => ?_) (fun cdv A outer s H vs Q E hr h => ?_)
  · obtain ⟨z, ts, rfl, _⟩ := h
    rfl
  · obtain ⟨z, ts, rfl, hz, ht, lts, k⟩ := h
    have hz' : z.length ≤ sizeLine := Nat.le_trans hz (by decide)
    have zl : z.length = z.cps.toList.length := Array.length_toList.symm
    refine ⟨_, (pss_cons (ps_set (i := 1) scToksOf.nd rfl (Or.inl rfl) (pe_lst pa_nil))
  (pss_cons (ps_set (i := 2) scToksOf.nd rfl (Or.inl rfl) pe_int)
  (pss_cons (ps_while PassesOwn.never (pt_cmpR op_lt (pv 2) (pe_callB call_len_str (by rfl) T.n_len bb_len (pa_cons (pv 0) pa_nil)) (nomark _))
  (pss_cons (ps_if (PW.pt (pw_or (pt_cmpR op_eq (pe_ix ix_str (pv 0) (pv 2) (fun _ _ => rfl)) pe_str (nomark _)) (pw_or1 (pt_cmpR op_eq (pe_ix ix_str (pv 0) (pv 2) (fun _ _ => rfl)) pe_str (nomark _)))))
  (pss_cons (ps_aug (i := 2) scToksOf.nd rfl (Or.inl rfl) pe_int ip_add)
  (pss_one ps_continue))
  pss_nil)
  (pss_cons (ps_if (pt_cmpR op_in_sign (pe_ix ix_str (pv 0) (pv 2) (fun _ _ => rfl)) (pe_globE rfl T.c_SIGNS) (by rfl))
  (pss_cons (ps_expr (pe_bm PySem.F.plainAttrs_list PySem.F.slot_list_append PySem.F.type_list_append mt_append (pv 1) (pa_cons (pe_tup (pa_cons pe_str (pa_cons (pe_ix ix_str (pv 0) (pv 2) (fun _ _ => rfl)) (pa_cons (pv 2) pa_nil)))) pa_nil)))
  (pss_cons (ps_aug (i := 2) scToksOf.nd rfl (Or.inl rfl) pe_int ip_add)
  (pss_one ps_continue)))
  pss_nil)
  (pss_cons (ps_set (i := 3) scToksOf.nd rfl (Or.inl rfl) (pe_callH GE hr rfl pass0 (pa_cons (pv 0) (pa_cons (pv 2) pa_nil))))
  (pss_cons (ps_if (PW.pt (pw_or (pt_cmpR op_eq (pv 3) (pv 2) (nomark _)) (pw_or1 (pt_cmpR op_eq (pe_callH GK hr rfl pass0 (pa_cons (pe_slice sl_str (pv 0) (po_some (pv 2)) (po_some (pv 3))) pa_nil)) pe_str (nomark _)))))
  (pss_cons (ps_expr (pe_bm PySem.F.plainAttrs_list PySem.F.slot_list_append PySem.F.type_list_append mt_append (pv 1) (pa_cons (pe_tup (pa_cons pe_str (pa_cons pe_str (pa_cons (pv 2) pa_nil)))) pa_nil)))
  (pss_one (ps_ret (pv 1))))
  pss_nil)
  (pss_cons (ps_expr (pe_bm PySem.F.plainAttrs_list PySem.F.slot_list_append PySem.F.type_list_append mt_append (pv 1) (pa_cons (pe_tup (pa_cons (pe_callH GK hr rfl pass0 (pa_cons (pe_slice sl_str (pv 0) (po_some (pv 2)) (po_some (pv 3))) pa_nil)) (pa_cons (pe_slice sl_str (pv 0) (po_some (pv 2)) (po_some (pv 3))) (pa_cons (pv 2) pa_nil)))) pa_nil)))
  (pss_one (ps_set (i := 2) scToksOf.nd rfl (Or.inl rfl) (pv 3)))))))))
  (pss_cons (ps_expr (pe_bm PySem.F.plainAttrs_list PySem.F.slot_list_append PySem.F.type_list_append mt_append (pv 1) (pa_cons (pe_tup (pa_cons pe_str (pa_cons pe_str (pa_cons (pe_callB call_len_str (by rfl) T.n_len bb_len (pa_cons (pv 0) pa_nil)) pa_nil)))) pa_nil)))
  (pss_one (ps_ret (pv 1))))))), ?_⟩
    refine ⟨(by show 0 ≤ sizeLine; decide), fun L hL => ?_⟩
    refine ⟨fun m σ H' => ∃ (a : Nat) (ts1 ts2 : List TK) (xs : List V) (x3 : Option V), m = z.length - a ∧ ts = ts1 ++ ts2 ∧ Tkz z.cps.toList a ts2 ∧ σ = [some (.str z), some (.ref L), some (.int (a : Nat)), x3] ∧ Same H H' ∧ H' L = some (.lst xs) ∧ Paired (TkAt H') xs ts1, ⟨_, 0, [], ts, [], _, rfl, rfl, ht, rfl, same_new hL, upd_same, .nil⟩, ?_⟩
    rintro m σ H1 ⟨a, ts1, ts2, xs, x3, rfl, ets, hz2, rfl, s1, eL, hp⟩
    have lx : xs.length = ts1.length := Paired.length hp
    have lt1 : ts1.length + ts2.length = ts.length := by rw [ets, List.length_append]
    -- one more token, whatever it is
    have more : ∀ {H2 : Hp} {p : Addr} {tk : TK}, Same H1 H2 → H2 p = none → Paired (TkAt (upd (upd H2 p (.tup [.str tk.1, .str tk.2.1, .int (tk.2.2 : Nat)])) L (.lst (xs ++ [.ref p])))) (xs ++ [.ref p]) (ts1 ++ [tk]) ∧ Same H (upd (upd H2 p (.tup [.str tk.1, .str tk.2.1, .int (tk.2.2 : Nat)])) L (.lst (xs ++ [.ref p]))) := fun {H2 p tk} s2 hp2 => by
      have s3 := same_new (o := .tup [.str tk.1, .str tk.2.1, .int (tk.2.2 : Nat)]) hp2
      have eL2 := s2 _ _ eL
      have pL : p ≠ L := fun z => by rw [z, eL2] at hp2; cases hp2
      refine ⟨Paired.snocP (Paired.mapP hp fun _ _ q => q.same fun b ys e => ?_) ⟨p, rfl, ?_⟩, fun b o e => ?_⟩
      · rw [upd_ne (ne_of (s2 _ _ e) eL2 fun z => by cases z)]
        exact s3 _ _ (s2 _ _ e)
      · rw [upd_ne pL, upd_same]
      · rw [upd_ne (ne_of_none e hL)]
        exact s3 _ _ (s2 _ _ (s1 _ _ e))
    refine ⟨_, rfl, _, rfl, z, rfl, hz', _, _, rfl, rfl, _, rfl, ite2 (fun h1 => ?_) (fun h1 => ?_)⟩
    · have h1 : a < z.cps.toList.length := by have := of_decide_eq_true h1; omega
      obtain ⟨c, hc⟩ : ∃ c, z.cps.toList[a]? = some c := ⟨_, List.getElem?_eq_getElem h1⟩
      have atc : atI z.cps.toList ((a : Nat) : Int) = some c := atI_nat hc
      refine ⟨fun σ' H' => ∃ (a' : Nat) (ts1 ts2 : List TK) (xs : List V) (x3 : Option V), a < a' ∧ a' ≤ z.cps.toList.length ∧ ts = ts1 ++ ts2 ∧ Tkz z.cps.toList a' ts2 ∧ σ' = [some (.str z), some (.ref L), some (.int (a' : Nat)), x3] ∧ Same H H' ∧ H' L = some (.lst xs) ∧ Paired (TkAt H') xs ts1, fun σ' H' ⟨a', u1, u2, us, ux, q1, q2, q3⟩ => ⟨z.length - a', by omega, a', u1, u2, us, ux, rfl, q3⟩, ?_⟩
      cases hz2 with
      | fin h => omega
      | @gap _ c' _ h hcc r =>
        rw [hc] at h
        cases h
        refine ⟨_, rfl, _, rfl, z, _, c, rfl, rfl, hz', atc, rfl, _, rfl, ?_⟩
        have le := tkz_le r
        rw [e32, eq_sign]
        refine ite2 (fun q => iteS rfl ?_) (fun q => ?_)
        · exact ⟨_, rfl, _, _, rfl, rfl, a + 1, ts1, ts2, xs, _, by omega, le, ets, r, rfl, s1, eL, hp⟩
        · have c10 : c = 10 := hcc.resolve_left fun e => q (decide_eq_true e)
          refine ⟨_, rfl, _, rfl, z, _, c, rfl, rfl, hz', atc, rfl, _, rfl, iteS (by rw [e10, eq_sign, decide_eq_true c10]) ?_⟩
          exact ⟨_, rfl, _, _, rfl, rfl, a + 1, ts1, ts2, xs, _, by omega, le, ets, r, rfl, s1, eL, hp⟩
      | @sign _ c' ts' h hcc r =>
        rw [hc] at h
        cases h
        obtain ⟨n1, n2⟩ := sig_gap c hcc
        refine ⟨_, rfl, _, rfl, z, _, c, rfl, rfl, hz', atc, rfl, _, rfl, iteE (by rw [e32, eq_sign, decide_eq_false n1]) ?_⟩
        refine ⟨_, rfl, _, rfl, z, _, c, rfl, rfl, hz', atc, rfl, _, rfl, iteE (by rw [e10, eq_sign, decide_eq_false n2]) ?_⟩
        refine ⟨_, rfl, _, rfl, z, _, c, rfl, rfl, hz', atc, c, _, rfl, rfl, _, rfl, iteS (decide_eq_true hcc) ?_⟩
        refine ⟨_, rfl, .inl ⟨rfl, _, SqL.of eL⟩, _, rfl, _, rfl, z, _, c, rfl, rfl, hz', atc, _, rfl, (by show 3 ≤ sizeLine; decide), fun p hp2 => ?_⟩
        obtain ⟨m1, m2⟩ := more (tk := ("mark", ⟨#[c]⟩, a)) (Same.refl _) hp2
        rw [List.length_cons] at lt1
        refine ⟨L, xs, _, rfl, rfl, same_new hp2 _ _ eL, Nat.lt_of_le_of_lt (show xs.length ≤ 100001 by omega) (by decide), ?_⟩
        exact ⟨_, rfl, _, _, rfl, rfl, a + 1, ts1 ++ [(("mark", ⟨#[c]⟩, a) : TK)], ts', xs ++ [.ref p], _, by omega, tkz_le r, by rw [ets, List.append_assoc]; rfl, r, rfl, m2, upd_same, m1⟩
      | @word _ j c' ts' h hg run lt kb r =>
        rw [hc] at h
        cases h
        obtain ⟨n1, n2, n3⟩ := hg
        refine ⟨_, rfl, _, rfl, z, _, c, rfl, rfl, hz', atc, rfl, _, rfl, iteE (by rw [e32, eq_sign, decide_eq_false n1]) ?_⟩
        refine ⟨_, rfl, _, rfl, z, _, c, rfl, rfl, hz', atc, rfl, _, rfl, iteE (by rw [e10, eq_sign, decide_eq_false n2]) ?_⟩
        refine ⟨_, rfl, _, rfl, z, _, c, rfl, rfl, hz', atc, c, _, rfl, rfl, _, rfl, iteE (decide_eq_false n3) ?_⟩
        have j2 := run.2.1
        have cw : cutS z (some ((a : Nat) : Int)) (some ((j : Nat) : Int)) = cutT z.cps.toList a j := cutS_nat (by omega) j2
        have cl : (cutT z.cps.toList a j).cps.toList.length = j - a := by
          unfold cutT
          rw [List.toList_toArray, List.length_take, List.length_drop]
          omega
        have cne : (cutT z.cps.toList a j).cps.toList ≠ [] := fun e => by rw [e] at cl; simp at cl; omega
        have cle : (cutT z.cps.toList a j).length ≤ 100000 := by
          have : (cutT z.cps.toList a j).length = (cutT z.cps.toList a j).cps.toList.length := Array.length_toList.symm
          omega
        refine ⟨_, rfl, _, rfl, z, a, j, rfl, hz, run, ?_⟩
        refine ⟨_, rfl, _, rfl, rfl, _, rfl, iteE (decide_eq_false fun q => by injection q with q; omega) ?_⟩
        refine ⟨_, rfl, _, rfl, _, rfl, _, rfl, _, rfl, z, rfl, hz', ?_⟩
        rw [cw]
        refine ⟨_, rfl, cne, cle, rfl, _, rfl, iteE (decide_eq_false fun q => kb (by injection q)) ?_⟩
        refine ⟨_, rfl, .inl ⟨rfl, _, SqL.of eL⟩, _, rfl, _, rfl, _, rfl, _, rfl, _, rfl, z, rfl, hz', ?_⟩
        rw [cw]
        refine ⟨_, rfl, cne, cle, ?_⟩
        refine ⟨_, rfl, _, rfl, _, rfl, _, rfl, _, rfl, z, rfl, hz', ?_⟩
        rw [cw]
        refine ⟨_, rfl, (by show 3 ≤ sizeLine; decide), fun p hp2 => ?_⟩
        obtain ⟨m1, m2⟩ := more (tk := (kindOf (cutT z.cps.toList a j), cutT z.cps.toList a j, a)) (Same.refl _) hp2
        rw [List.length_cons] at lt1
        refine ⟨L, xs, _, rfl, rfl, same_new hp2 _ _ eL, Nat.lt_of_le_of_lt (show xs.length ≤ 100001 by omega) (by decide), ?_⟩
        exact ⟨_, rfl, j, ts1 ++ [(kindOf (cutT z.cps.toList a j), cutT z.cps.toList a j, a)], ts', xs ++ [.ref p], _, lt, tkz_le r, by rw [ets, List.append_assoc]; rfl, r, rfl, m2, upd_same, m1⟩
      | @bad _ j c' h hg run b =>
        rw [hc] at h
        cases h
        obtain ⟨n1, n2, n3⟩ := hg
        have fin : ∀ {p : Addr}, H1 p = none → Q (.ref L) (upd (upd H1 p (.tup [.str "bad", .str "", .int (a : Nat)])) L (.lst (xs ++ [.ref p]))) := fun {p} hp2 => by
          obtain ⟨m1, m2⟩ := more (tk := ("bad", "", a)) (Same.refl _) hp2
          exact k L _ _ m2 hL upd_same (by rw [ets]; exact m1)
        have sml : xs.length < sizeLine := Nat.lt_of_le_of_lt (show xs.length ≤ 100001 by omega) (by decide)
        refine ⟨_, rfl, _, rfl, z, _, c, rfl, rfl, hz', atc, rfl, _, rfl, iteE (by rw [e32, eq_sign, decide_eq_false n1]) ?_⟩
        refine ⟨_, rfl, _, rfl, z, _, c, rfl, rfl, hz', atc, rfl, _, rfl, iteE (by rw [e10, eq_sign, decide_eq_false n2]) ?_⟩
        refine ⟨_, rfl, _, rfl, z, _, c, rfl, rfl, hz', atc, c, _, rfl, rfl, _, rfl, iteE (decide_eq_false n3) ?_⟩
        have j2 := run.2.1
        refine ⟨_, rfl, _, rfl, z, a, j, rfl, hz, run, ?_⟩
        by_cases ja : j = a
        · refine ⟨_, rfl, _, rfl, rfl, _, rfl, iteS (decide_eq_true (by rw [ja])) (iteS rfl ?_)⟩
          exact ⟨_, rfl, .inl ⟨rfl, _, SqL.of eL⟩, _, rfl, (by show 3 ≤ sizeLine; decide), fun p hp2 => ⟨L, xs, _, rfl, rfl, same_new hp2 _ _ eL, sml, _, rfl, fin hp2⟩⟩
        · have kb := b.resolve_left ja
          have r1 := run.1
          have cw : cutS z (some ((a : Nat) : Int)) (some ((j : Nat) : Int)) = cutT z.cps.toList a j := cutS_nat (by omega) j2
          have cl : (cutT z.cps.toList a j).cps.toList.length = j - a := by
            unfold cutT
            rw [List.toList_toArray, List.length_take, List.length_drop]
            omega
          have cne : (cutT z.cps.toList a j).cps.toList ≠ [] := fun e => by rw [e] at cl; simp at cl; omega
          have cle : (cutT z.cps.toList a j).length ≤ 100000 := by
            have : (cutT z.cps.toList a j).length = (cutT z.cps.toList a j).cps.toList.length := Array.length_toList.symm
            omega
          refine ⟨_, rfl, _, rfl, rfl, _, rfl, iteE (decide_eq_false fun q => by injection q with q; omega) ?_⟩
          refine ⟨_, rfl, _, rfl, _, rfl, _, rfl, _, rfl, z, rfl, hz', ?_⟩
          rw [cw]
          refine ⟨_, rfl, cne, cle, rfl, _, rfl, iteS (decide_eq_true (by rw [kb])) ?_⟩
          exact ⟨_, rfl, .inl ⟨rfl, _, SqL.of eL⟩, _, rfl, (by show 3 ≤ sizeLine; decide), fun p hp2 => ⟨L, xs, _, rfl, rfl, same_new hp2 _ _ eL, sml, _, rfl, fin hp2⟩⟩
    · have h1 : ¬ a < z.length := fun q => h1 (decide_eq_true (by omega))
      cases hz2 with
      | fin h =>
        refine ⟨_, rfl, .inl ⟨rfl, _, SqL.of eL⟩, _, rfl, z, rfl, hz', (by show 3 ≤ sizeLine; decide), fun p hp2 => ?_⟩
        obtain ⟨m1, m2⟩ := more (tk := ("end", "", z.length)) (Same.refl _) hp2
        have ea : a = z.length := by omega
        exact ⟨L, xs, _, rfl, rfl, same_new hp2 _ _ eL, Nat.lt_of_le_of_lt (show xs.length ≤ 100001 by omega) (by decide), _, rfl, k L _ _ m2 hL upd_same (by rw [ets, ea]; exact m1)⟩
      | gap h _ _ => exact absurd (List.getElem?_eq_some_iff.mp h).1 (by omega)
      | sign h _ _ => exact absurd (List.getElem?_eq_some_iff.mp h).1 (by omega)
      | word h _ _ _ _ _ => exact absurd (List.getElem?_eq_some_iff.mp h).1 (by omega)
      | bad h _ _ _ => exact absurd (List.getElem?_eq_some_iff.mp h).1 (by omega)
end

/-! ### the class Reader -/
abbrev sRIni : Stmt := inClass (topS 16) 0
abbrev NRIni : List Str := ["self", "text"]
abbrev PRIni : List Str := ["self", "text"]
theorem scRIni : FnScope NRIni PRIni (defScope sRIni) := ⟨rfl, rfl, rfl, by decide +kernel, rfl, by decide +kernel, by decide +kernel⟩
abbrev sRCur : Stmt := inClass (topS 16) 1
abbrev NRCur : List Str := ["self"]
abbrev PRCur : List Str := ["self"]
theorem scRCur : FnScope NRCur PRCur (defScope sRCur) := ⟨rfl, rfl, rfl, by decide +kernel, rfl, by decide +kernel, by decide +kernel⟩
abbrev sRNext : Stmt := inClass (topS 16) 2
abbrev NRNext : List Str := ["self", "word"]
abbrev PRNext : List Str := ["self", "word"]
theorem scRNext : FnScope NRNext PRNext (defScope sRNext) := ⟨rfl, rfl, rfl, by decide +kernel, rfl, by decide +kernel, by decide +kernel⟩
abbrev sRAcc : Stmt := inClass (topS 16) 3
abbrev NRAcc : List Str := ["self", "word"]
abbrev PRAcc : List Str := ["self", "word"]
theorem scRAcc : FnScope NRAcc PRAcc (defScope sRAcc) := ⟨rfl, rfl, rfl, by decide +kernel, rfl, by decide +kernel, by decide +kernel⟩
abbrev sRName : Stmt := inClass (topS 16) 5
abbrev NRName : List Str := ["self", "token"]
abbrev PRName : List Str := ["self"]
theorem scRName : FnScope NRName PRName (defScope sRName) := ⟨rfl, rfl, rfl, by decide +kernel, rfl, by decide +kernel, by decide +kernel⟩
abbrev sRRow : Stmt := inClass (topS 16) 7
abbrev NRRow : List Str := ["self", "names"]
abbrev PRRow : List Str := ["self"]
theorem scRRow : FnScope NRRow PRRow (defScope sRRow) := ⟨rfl, rfl, rfl, by decide +kernel, rfl, by decide +kernel, by decide +kernel⟩
abbrev sRTerm : Stmt := inClass (topS 16) 8
abbrev NRTerm : List Str := ["self", "token"]
abbrev PRTerm : List Str := ["self"]
theorem scRTerm : FnScope NRTerm PRTerm (defScope sRTerm) := ⟨rfl, rfl, rfl, by decide +kernel, rfl, by decide +kernel, by decide +kernel⟩
def rdF (L : Addr) (i d : Nat) : List (Str × V) := [("tokens", .ref L), ("index_of_token", .int (i : Nat)), ("depth", .int (d : Nat))]
structure TxR (K : PySem.W.Frag) (C : Addr) : Prop where
  cl : Cls K C
  nT : NoAttr K C "tokens"
  nI : NoAttr K C "index_of_token"
  nD : NoAttr K C "depth"
def RdAt (C : Addr) (H : Hp) (S L : Addr) (i d : Nat) (ts : List TK) : Prop := ∃ (dx : Addr) (xs : List V), H S = some (.ins C dx (rdF L i d)) ∧ H L = some (.lst xs) ∧ Paired (TkAt H) xs ts
/-- all but S stays -/
def Bt (S : Addr) (H H' : Hp) : Prop := ∀ b o, H b = some o → b ≠ S → H' b = some o
theorem Bt.refl {S : Addr} {H : Hp} : Bt S H H := fun _ _ e _ => e
theorem Bt.trans {S : Addr} {H H1 H2 : Hp} (a : Bt S H H1) (b : Bt S H1 H2) : Bt S H H2 := fun c o e h => b c o (a c o e h) h
theorem Bt.of {S : Addr} {H H' : Hp} (s : Same H H') : Bt S H H' := fun b o e _ => s b o e
theorem RdAt.same {C : Addr} {H H' : Hp} {S L : Addr} {i d : Nat} {ts : List TK} (h : RdAt C H S L i d ts) (s : Same H H') : RdAt C H' S L i d ts := let ⟨dx, xs, e1, e2, e3⟩ := h; ⟨dx, xs, s _ _ e1, s _ _ e2, Paired.mapP e3 fun _ _ q => q.same fun _ _ e => s _ _ e⟩
theorem RdAt.step {C : Addr} {H : Hp} {S L dx : Addr} {i j d : Nat} {ts : List TK} (h : RdAt C H S L i d ts) : RdAt C (upd H S (.ins C dx (rdF L j d))) S L j d ts := by
  obtain ⟨dy, xs, e1, e2, e3⟩ := h
  refine ⟨dx, xs, upd_same, by rw [upd_ne (ne_of e2 e1 fun z => by cases z)]; exact e2, Paired.mapP e3 fun _ _ q => q.same fun b ys e => ?_⟩
  rw [upd_ne (ne_of e e1 fun z => by cases z)]
  exact e
theorem bt_upd {H : Hp} {S : Addr} {o : HO} : Bt S H (upd H S o) := fun b x e h => by rw [upd_ne h]; exact e
theorem ti_ne : ¬ (("tokens" : Str) = "index_of_token") := by decide +kernel
theorem td_ne : ¬ (("tokens" : Str) = "depth") := by decide +kernel
theorem id_ne : ¬ (("index_of_token" : Str) = "depth") := by decide +kernel
theorem putF_ix (L : Addr) (i j d : Nat) : putF "index_of_token" (.int (j : Nat)) (rdF L i d) = rdF L j d := by
  show (if ("tokens" : Str) = "index_of_token" then _ else (("tokens" : Str), V.ref L) :: (if ("index_of_token" : Str) = "index_of_token" then _ else _)) = _
  rw [if_neg ti_ne, if_pos rfl]
  rfl
theorem putF_rd (L : Addr) : putF "depth" (.int 0) (putF "index_of_token" (.int 0) (putF "tokens" (.ref L) [])) = rdF L 0 0 := by
  show putF "depth" (.int 0) (if ("tokens" : Str) = "index_of_token" then _ else (("tokens" : Str), V.ref L) :: [(("index_of_token" : Str), V.int 0)]) = _
  rw [if_neg ti_ne]
  show (if ("tokens" : Str) = "depth" then _ else (("tokens" : Str), V.ref L) :: (if ("index_of_token" : Str) = "depth" then _ else (("index_of_token" : Str), V.int 0) :: [(("depth" : Str), V.int 0)])) = _
  rw [if_neg td_ne, if_neg id_ne]
  rfl
section
variable {P : Program} {w : World} {K : PySem.W.Frag} {mg : Str → Option Value} {base : Heap} {kw C : Addr}
def spRIni (C : Addr) : Sp := fun vs H Q _ => ∃ (S dx : Addr) (z : Str) (ts : List TK), vs = [.ref S, .str z] ∧ H S = some (.ins C dx []) ∧ z.length ≤ 100000 ∧ Tkz z.cps.toList 0 ts ∧ ts.length ≤ 100001 ∧ ∀ (L : Addr) (H' : Hp), Bt S H H' → RdAt C H' S L 0 0 ts → Q .non H'
theorem ok_RIni {f : Addr} {fd : FuncData} (F : Fun K "__init__" "Reader.__init__" sRIni f fd) (TR : TxR K C) (GT : Has P w K mg base CX0 2 "tokens_of" PToksOf spToks) : FnOk P w K mg base CX0 3 f fd PRIni (spRIni C) := by
  refine F.ok scRIni (fun vs H Q E h => ?_) (fun cdv A outer s H vs Q E hr h => ?_)
  · obtain ⟨S, dx, z, ts, rfl, _⟩ := h
    rfl
  · obtain ⟨S, dx, z, ts, rfl, eS, hz, ht, lt, k⟩ := h
    refine ⟨_, (pss_cons (ps_fld (pv 0) (pe_callH GT hr rfl pass0 (pa_cons (pv 1) pa_nil)) rfl)
  (pss_cons (ps_fld (pv 0) pe_int rfl)
  (pss_one (ps_fld (pv 0) pe_int rfl)))), ?_⟩
    refine ⟨_, rfl, z, ts, rfl, hz, ht, lt, fun L xs H1 s1 fL eL hp => ?_⟩
    have eS1 := s1 _ _ eS
    have LS : L ≠ S := ne_of eL eS1 fun z => by cases z
    refine ⟨_, rfl, S, C, dx, [], rfl, eS1, TR.cl, TR.nT, (by show 0 < 1000; decide), ?_⟩
    refine ⟨_, rfl, S, C, dx, _, rfl, upd_same, TR.cl, TR.nI, (by show 1 < 1000; decide), ?_⟩
    refine ⟨_, rfl, S, C, dx, _, rfl, upd_same, TR.cl, TR.nD, (by show 2 < 1000; decide), ?_⟩
    refine k L _ (fun b o e hb => by rw [upd_ne hb, upd_ne hb, upd_ne hb]; exact s1 _ _ e) ⟨dx, xs, by rw [upd_same, putF_rd], by rw [upd_ne LS, upd_ne LS, upd_ne LS]; exact eL, Paired.mapP hp fun _ _ q => q.same fun b ys e => ?_⟩
    have bS : b ≠ S := ne_of e eS1 fun z => by cases z
    rw [upd_ne bS, upd_ne bS, upd_ne bS]
    exact e
def spCurr (C : Addr) : Sp := fun vs H Q _ => ∃ (S L : Addr) (i d : Nat) (ts : List TK) (tk : TK), vs = [.ref S] ∧ RdAt C H S L i d ts ∧ ts[i]? = some tk ∧ ∀ p, H p = some (.tup [.str tk.1, .str tk.2.1, .int (tk.2.2 : Nat)]) → Q (.ref p) H
theorem ok_RCur {f : Addr} {fd : FuncData} (F : Fun K "current" "Reader.current" sRCur f fd) (TR : TxR K C) : FnOk P w K mg base CX0 1 f fd PRCur (spCurr C) := by
  refine F.ok scRCur (fun vs H Q E h => ?_) (fun cdv A outer s H vs Q E hr h => ?_)
  · obtain ⟨S, L, i, d, ts, tk, rfl, _⟩ := h
    rfl
  · obtain ⟨S, L, i, d, ts, tk, rfl, ⟨dx, xs, e1, e2, e3⟩, ht, k⟩ := h
    refine ⟨_, (pss_one (ps_ret (pe_ix (r := rIxL K) ix_list (pe_fld (pv 0) rfl) (pe_fld (pv 0) rfl) (fun _ _ => rfl)))), ?_⟩
    have hi : i < xs.length := by rw [Paired.length e3]; exact (List.getElem?_eq_some_iff.mp ht).1
    obtain ⟨tk', h1, p, h2, h3⟩ := Paired.at e3 (List.getElem?_eq_getElem hi)
    rw [ht] at h1
    cases h1
    refine ⟨_, rfl, S, C, dx, _, _, rfl, e1, TR.cl, TR.nT, rfl, _, rfl, S, C, dx, _, _, rfl, e1, TR.cl, TR.nI, rfl, L, _, _, _, rfl, rfl, SqL.of e2, atI_nat (by rw [List.getElem?_eq_getElem hi, h2]), k p h3⟩
def isMark (tk : TK) (wd : Str) : Bool := decide (tk.1 = "mark") && decide (tk.2.1 = wd)
def spNext (C : Addr) : Sp := fun vs H Q _ => ∃ (S L : Addr) (i d : Nat) (ts : List TK) (tk : TK) (wd : Str), vs = [.ref S, .str wd] ∧ RdAt C H S L i d ts ∧ ts[i]? = some tk ∧ Q (.bl (isMark tk wd)) H
theorem dec_str (a b : Str) : decide (V.str a = V.str b) = decide (a = b) := decide_eq_decide.mpr ⟨fun h => by injection h, fun h => by rw [h]⟩
theorem ok_RNext {f : Addr} {fd : FuncData} (F : Fun K "is_next" "Reader.is_next" sRNext f fd) (TR : TxR K C) (MC : HasM P w K mg base CX0 1 C "current" PRCur (spCurr C)) : FnOk P w K mg base CX0 2 f fd PRNext (spNext C) := by
  refine F.ok scRNext (fun vs H Q E h => ?_) (fun cdv A outer s H vs Q E hr h => ?_)
  · obtain ⟨S, L, i, d, ts, tk, wd, rfl, _⟩ := h
    rfl
  · obtain ⟨S, L, i, d, ts, tk, wd, rfl, ra, ht, k⟩ := h
    obtain ⟨dx, xs, e1, _⟩ := id ra
    refine ⟨_, (pss_one (ps_ret (pe_and (pe_cmpR op_eq (pe_ix (r := rIxT K) ix_tup (pe_methH0 (pv 0) TR.cl MC hr pass0) pe_int (fun _ _ => rfl)) pe_str (nomark _)) (pe_one (pe_cmpR op_eq (pe_ix (r := rIxT K) ix_tup (pe_methH0 (pv 0) TR.cl MC hr pass0) pe_int (fun _ _ => rfl)) (pv 1) (nomark _)))))), ?_⟩
    refine ⟨_, rfl, S, dx, _, rfl, e1, rfl, S, L, i, d, ts, tk, rfl, ra, ht, fun p hp => ⟨p, _, _, _, rfl, rfl, SqT.of hp, rfl, rfl, decide (tk.1 = "mark"), by rw [dec_str], ?_⟩⟩
    unfold isMark at k
    by_cases e : tk.1 = "mark"
    · refine iteS (decide_eq_true e) ?_
      refine ⟨_, rfl, S, dx, _, rfl, e1, rfl, S, L, i, d, ts, tk, rfl, ra, ht, fun p hp => ⟨p, _, _, _, rfl, rfl, SqT.of hp, rfl, _, rfl, rfl, ?_⟩⟩
      rw [decide_eq_true e, Bool.true_and] at k
      rw [dec_str]
      exact k
    · refine iteE (decide_eq_false e) ?_
      rw [decide_eq_false e, Bool.false_and] at k
      exact k
def spAcc (C : Addr) : Sp := fun vs H Q _ => ∃ (S L : Addr) (i d : Nat) (ts : List TK) (tk : TK) (wd : Str), vs = [.ref S, .str wd] ∧ RdAt C H S L i d ts ∧ ts[i]? = some tk ∧
  ((isMark tk wd = false ∧ Q (.bl false) H) ∨ (isMark tk wd = true ∧ ∀ H', Bt S H H' → RdAt C H' S L (i + 1) d ts → Q (.bl true) H'))
theorem ok_RAcc {f : Addr} {fd : FuncData} (F : Fun K "accept" "Reader.accept" sRAcc f fd) (TR : TxR K C) (MN : HasM P w K mg base CX0 2 C "is_next" PRNext (spNext C)) : FnOk P w K mg base CX0 3 f fd PRAcc (spAcc C) := by
  refine F.ok scRAcc (fun vs H Q E h => ?_) (fun cdv A outer s H vs Q E hr h => ?_)
  · obtain ⟨S, L, i, d, ts, tk, wd, rfl, _⟩ := h
    rfl
  · obtain ⟨S, L, i, d, ts, tk, wd, rfl, ra, ht, h⟩ := h
    obtain ⟨dx, xs, e1, _⟩ := id ra
    refine ⟨_, (pss_cons (ps_if (pt_not (pt_val (pe_methH (pv 0) TR.cl MN hr pass0 (pa_cons (pv 1) pa_nil))))
  (pss_one (ps_ret pe_bl))
  pss_nil)
  (pss_cons (ps_fldaug (pv 0) pe_int in_add)
  (pss_one (ps_ret pe_bl)))), ?_⟩
    refine ⟨_, rfl, S, dx, _, rfl, e1, rfl, _, rfl, S, L, i, d, ts, tk, wd, rfl, ra, ht, isMark tk wd, rfl, ?_⟩
    rcases h with ⟨hm, k⟩ | ⟨hm, k⟩
    · refine iteS (by rw [hm]; rfl) ?_
      exact k
    · refine iteE (by rw [hm]; rfl) ?_
      refine ⟨_, rfl, S, C, dx, _, _, rfl, e1, TR.cl, TR.nI, rfl, _, _, rfl, rfl, dx, _, e1, (by show 3 < 1000; decide), ?_⟩
      have e : putF "index_of_token" (.int (((i : Nat) : Int) + 1)) (rdF L i d) = rdF L (i + 1) d := putF_ix L i (i + 1) d
      rw [e]
      exact k _ bt_upd ra.step
def spRName (C : Addr) : Sp := fun vs H Q _ => ∃ (S L : Addr) (i d : Nat) (ts : List TK) (tk : TK), vs = [.ref S] ∧ RdAt C H S L i d ts ∧ ts[i]? = some tk ∧ tk.1 = "name" ∧ ∀ H', Bt S H H' → RdAt C H' S L (i + 1) d ts → Q (.str tk.2.1) H'
theorem ok_RName {f : Addr} {fd : FuncData} (F : Fun K "read_name" "Reader.read_name" sRName f fd) (TR : TxR K C) (MC : HasM P w K mg base CX0 1 C "current" PRCur (spCurr C)) : FnOk P w K mg base CX0 2 f fd PRName (spRName C) := by
  refine F.ok scRName (fun vs H Q E h => ?_) (fun cdv A outer s H vs Q E hr h => ?_)
  · obtain ⟨S, L, i, d, ts, tk, rfl, _⟩ := h
    rfl
  · obtain ⟨S, L, i, d, ts, tk, rfl, ra, ht, hn, k⟩ := h
    obtain ⟨dx, xs, e1, _⟩ := id ra
    refine ⟨_, (pss_cons (ps_set (i := 1) scRName.nd rfl (Or.inl rfl) (pe_methH0 (pv 0) TR.cl MC hr pass0))
  (pss_cons (ps_if (pt_cmpR op_ne (pe_ix (r := rIxT K) ix_tup (pv 1) pe_int (fun _ _ => rfl)) pe_str (nomark _))
  (pss_one ps_never)
  pss_nil)
  (pss_cons (ps_fldaug (pv 0) pe_int in_add)
  (pss_one (ps_ret (pe_ix (r := rIxT K) ix_tup (pv 1) pe_int (fun _ _ => rfl))))))), ?_⟩
    refine ⟨_, rfl, S, dx, _, rfl, e1, rfl, S, L, i, d, ts, tk, rfl, ra, ht, fun p hp => ?_⟩
    refine ⟨_, rfl, p, _, _, _, rfl, rfl, SqT.of hp, rfl, rfl, _, rfl, iteE (by rw [dec_str, decide_eq_true hn]; rfl) ?_⟩
    refine ⟨_, rfl, S, C, dx, _, _, rfl, e1, TR.cl, TR.nI, rfl, _, _, rfl, rfl, dx, _, e1, (by show 3 < 1000; decide), ?_⟩
    have e : putF "index_of_token" (.int (((i : Nat) : Int) + 1)) (rdF L i d) = rdF L (i + 1) d := putF_ix L i (i + 1) d
    rw [e]
    exact ⟨_, rfl, p, _, _, _, rfl, rfl, SqT.of (by rw [upd_ne (ne_of hp e1 fun z => by cases z)]; exact hp), rfl, k _ bt_upd ra.step⟩
end

section
variable {P : Program} {w : World} {K : PySem.W.Frag} {mg : Str → Option Value} {base : Heap} {kw C : Addr}
/-! read_row -/
structure TxRd (mg : Str → Option Value) : Prop where
  n_tuple : mg "tuple" = none
  n_len : mg "len" = none
  n_int : mg "int" = none
  n_sorted : mg "sorted" = none
def NamesAt (ts : List TK) (i : Nat) (ns : List Str) : Prop := ∀ k nm, ns[k]? = some nm → ∃ a, ts[i + k]? = some (("name", nm, a) : TK)
def spRow (C : Addr) : Sp := fun vs H Q _ => ∃ (S L : Addr) (i d : Nat) (ts : List TK) (ns : List Str) (tk : TK), vs = [.ref S] ∧ RdAt C H S L i d ts ∧ NamesAt ts i ns ∧ 0 < ns.length ∧ ns.length ≤ 1000 ∧ ts[i + ns.length]? = some tk ∧ tk.1 ≠ "name" ∧
  ∀ (p : Addr) (H' : Hp), Bt S H H' → RdAt C H' S L (i + ns.length) d ts → H' p = some (.tup (ns.map V.str)) → Q (.ref p) H'
theorem ok_RRow {f : Addr} {fd : FuncData} (F : Fun K "read_row" "Reader.read_row" sRRow f fd) (T : TxRd mg) (TR : TxR K C) (MC : HasM P w K mg base CX0 1 C "current" PRCur (spCurr C)) (MN : HasM P w K mg base CX0 2 C "read_name" PRName (spRName C)) : FnOk P w K mg base CX0 3 f fd PRRow (spRow C) := by
  refine F.ok scRRow (fun vs H Q E h => ?_) (fun cdv A outer s H vs Q E hr h => ?_)
  · obtain ⟨S, L, i, d, ts, ns, tk, rfl, _⟩ := h
    rfl
  · obtain ⟨S, L, i, d, ts, ns, tk, rfl, ra, hn, n0, n1, ht, hk, k⟩ := h
    obtain ⟨dx, xs, e1, _⟩ := id ra
    have hr1 := hr.mono (j := 1) (by decide)
    obtain ⟨nm, hnm⟩ : ∃ nm, ns[0]? = some nm := ⟨_, List.getElem?_eq_getElem n0⟩
    obtain ⟨a0, h0⟩ := hn 0 nm hnm
    refine ⟨_, (pss_cons (ps_set (i := 1) scRRow.nd rfl (Or.inl rfl) (pe_lst (pa_cons (pe_methH0 (pv 0) TR.cl MN hr pass0) pa_nil)))
  (pss_cons (ps_while PassesOwn.never (pt_cmpR op_eq (pe_ix (r := rIxT K) ix_tup (pe_methH0 (pv 0) TR.cl MC hr1 pass0) pe_int (fun _ _ => rfl)) pe_str (nomark _))
  (pss_one (ps_expr (pe_bm PySem.F.plainAttrs_list PySem.F.slot_list_append PySem.F.type_list_append mt_append (pv 1) (pa_cons (pe_methH0 (pv 0) TR.cl MN hr pass0) pa_nil)))))
  (pss_one (ps_ret (pe_callTy call_tuple_of (by rfl) T.n_tuple bb_tuple (pa_cons (pv 1) pa_nil)))))), ?_⟩
    refine ⟨_, rfl, S, dx, _, rfl, e1, rfl, S, L, i, d, ts, _, rfl, ra, h0, rfl, fun H1 b1 ra1 => ⟨(by show 1 ≤ sizeLine; decide), fun X hX => ?_⟩⟩
    have s2 := same_new (o := .lst [.str nm]) hX
    have XS : X ≠ S := fun z => by
      obtain ⟨_, _, e, _⟩ := ra1
      rw [z, e] at hX
      cases hX
    refine ⟨fun m σ H' => ∃ j : Nat, m = ns.length - j ∧ 0 < j ∧ j ≤ ns.length ∧ σ = [some (.ref S), some (.ref X)] ∧ Bt S H H' ∧ RdAt C H' S L (i + j) d ts ∧ H' X = some (.lst ((ns.take j).map V.str)), ⟨_, 1, rfl, by decide, n0, rfl, b1.trans (.of s2), ra1.same s2, ?_⟩, ?_⟩
    · rw [upd_same, take_snoc hnm]
      rfl
    rintro m σ H3 ⟨j, rfl, j0, jl, rfl, b3, ra3, eX⟩
    obtain ⟨dx3, xs3, e3, _⟩ := id ra3
    rcases Nat.lt_or_ge j ns.length with q | q
    · obtain ⟨nj, hj⟩ : ∃ nj, ns[j]? = some nj := ⟨_, List.getElem?_eq_getElem q⟩
      obtain ⟨aj, h1⟩ := hn j nj hj
      refine ⟨_, rfl, S, dx3, _, rfl, e3, rfl, S, L, i + j, d, ts, _, rfl, ra3, h1, fun p hp => ⟨p, _, _, _, rfl, rfl, SqT.of hp, rfl, rfl, _, rfl, iteS (decide_eq_true rfl) ?_⟩⟩
      refine ⟨fun σ' H' => σ' = [some (.ref S), some (.ref X)] ∧ Bt S H H' ∧ RdAt C H' S L (i + (j + 1)) d ts ∧ H' X = some (.lst ((ns.take (j + 1)).map V.str)), fun σ' H' ⟨u1, u2, u3, u4⟩ => ⟨ns.length - (j + 1), by omega, j + 1, rfl, by omega, by omega, u1, u2, u3, u4⟩, ?_⟩
      refine ⟨_, rfl, .inl ⟨rfl, _, SqL.of eX⟩, _, rfl, S, dx3, _, rfl, e3, rfl, S, L, i + j, d, ts, _, rfl, ra3, h1, rfl, fun H4 b4 ra4 => ?_⟩
      have eX4 := b4 _ _ eX XS
      refine ⟨X, _, _, rfl, rfl, eX4, small1000 (by rw [List.length_map, List.length_take]; omega), rfl, ?_, ?_, ?_⟩
      · intro c o e hc
        have cX : c ≠ X := fun z => by
          have := b1 _ _ e hc
          rw [z, hX] at this
          cases this
        rw [upd_ne cX]
        exact b4 _ _ (b3 c o e hc) hc
      · obtain ⟨dy, ys, y1, y2, y3⟩ := ra4
        have XL : L ≠ X := fun z => by
          obtain ⟨_, zs, _, w2, _⟩ := ra1
          rw [z, hX] at w2
          cases w2
        exact ⟨dy, ys, by rw [upd_ne XS.symm]; exact y1, by rw [upd_ne XL]; exact y2, Paired.mapP y3 fun _ _ z => z.same fun b zs e => by rw [upd_ne (ne_of e eX4 fun z => by cases z)]; exact e⟩
      · rw [upd_same, take_snoc hj, List.map_append]
        rfl
    · have ej : j = ns.length := by omega
      subst ej
      refine ⟨_, rfl, S, dx3, _, rfl, e3, rfl, S, L, _, d, ts, _, rfl, ra3, ht, fun p hp => ⟨p, _, _, _, rfl, rfl, SqT.of hp, rfl, rfl, _, rfl, iteE (decide_eq_false fun z => hk (by injection z)) ?_⟩⟩
      rw [List.take_length] at eX
      refine ⟨_, rfl, X, _, rfl, .inl ⟨SqL.of eX, fun l hl => ?_⟩⟩
      have s4 := same_new (o := .tup (ns.map V.str)) hl
      exact k l _ (b3.trans (.of s4)) (ra3.same s4) upd_same
end

/-! ### terms and sums -/
abbrev sExprOf : Stmt := topS 15
abbrev NExprOf : List Str := ["constant", "factors", "name"]
abbrev PExprOf : List Str := ["constant", "factors"]
theorem scExprOf : FnScope NExprOf PExprOf (defScope sExprOf) := ⟨rfl, rfl, rfl, by decide +kernel, rfl, by decide +kernel, by decide +kernel⟩
abbrev sRExpr : Stmt := inClass (topS 16) 9
abbrev NRExpr : List Str := ["self", "constant", "factors", "sign", "name", "number"]
abbrev PRExpr : List Str := ["self"]
theorem scRExpr : FnScope NRExpr PRExpr (defScope sRExpr) := ⟨rfl, rfl, rfl, by decide +kernel, rfl, by decide +kernel, by decide +kernel⟩
def optS : Option Str → V
  | none => .non
  | some s => .str s
inductive TermAt (ts : List TK) : Nat → Option Str → Int → Nat → Prop
  | name {i a : Nat} {nm : Str} (h : ts[i]? = some (("name", nm, a) : TK)) : TermAt ts i (some nm) 1 (i + 1)
  | num {i a : Nat} {wd : Str} {n : Int} {tk : TK} (h : ts[i]? = some (("number", wd, a) : TK)) (hl : wd.length ≤ 12) (hn : PySem.intText? wd = some n) (h2 : ts[i + 1]? = some tk) (hm : isMark tk "*" = false) : TermAt ts i none n (i + 1)
  | mul {i a b : Nat} {wd nm : Str} {n : Int} {tk : TK} (h : ts[i]? = some (("number", wd, a) : TK)) (hl : wd.length ≤ 12) (hn : PySem.intText? wd = some n) (h2 : ts[i + 1]? = some tk) (hm : isMark tk "*" = true) (h3 : ts[i + 1 + 1]? = some (("name", nm, b) : TK)) : TermAt ts i (some nm) n (i + 1 + 1 + 1)
theorem nn_ne : ¬ (("number" : Str) = "name") := by decide +kernel
structure TxSum (mg : Str → Option Value) : Prop extends TxRd mg where
  c_LONGEST : ∃ u, mg "LONGEST" = some u ∧ RelV (.int 12) u
section
variable {P : Program} {w : World} {K : PySem.W.Frag} {mg : Str → Option Value} {base : Heap} {kw C : Addr}
def spTerm (C : Addr) : Sp := fun vs H Q _ => ∃ (S L : Addr) (i d : Nat) (ts : List TK) (nm : Option Str) (n : Int) (j : Nat), vs = [.ref S] ∧ RdAt C H S L i d ts ∧ TermAt ts i nm n j ∧
  ∀ (p : Addr) (H' : Hp), Bt S H H' → RdAt C H' S L j d ts → H' p = some (.tup [optS nm, .int n]) → Q (.ref p) H'
theorem ok_RTerm {f : Addr} {fd : FuncData} (F : Fun K "read_term" "Reader.read_term" sRTerm f fd) (T : TxSum mg) (TR : TxR K C) (MC : HasM P w K mg base CX0 1 C "current" PRCur (spCurr C)) (MN : HasM P w K mg base CX0 2 C "read_name" PRName (spRName C)) (MA : HasM P w K mg base CX0 3 C "accept" PRAcc (spAcc C)) :
    FnOk P w K mg base CX0 4 f fd PRTerm (spTerm C) := by
  refine F.ok scRTerm (fun vs H Q E h => ?_) (fun cdv A outer s H vs Q E hr h => ?_)
  · obtain ⟨S, L, i, d, ts, nm, n, j, rfl, _⟩ := h
    rfl
  · obtain ⟨S, L, i, d, ts, nm, n, j, rfl, ra, ht, k⟩ := h
    obtain ⟨dx, xs, e1, _⟩ := id ra
    have hr1 := hr.mono (j := 1) (by decide)
    have hr2 := hr.mono (j := 2) (by decide)
    refine ⟨_, (pss_cons (ps_set (i := 1) scRTerm.nd rfl (Or.inl rfl) (pe_methH0 (pv 0) TR.cl MC hr1 pass0))
  (pss_cons (ps_if (pt_cmpR op_eq (pe_ix (r := rIxT K) ix_tup (pv 1) pe_int (fun _ _ => rfl)) pe_str (nomark _))
  (pss_one (ps_ret (pe_tup (pa_cons (pe_methH0 (pv 0) TR.cl MN hr2 pass0) (pa_cons pe_int pa_nil)))))
  pss_nil)
  (pss_cons (ps_if (pt_cmpR op_ne (pe_ix (r := rIxT K) ix_tup (pv 1) pe_int (fun _ _ => rfl)) pe_str (nomark _))
  (pss_one ps_never)
  pss_nil)
  (pss_cons (ps_if (pt_cmpR op_gt (pe_callB call_len_str (by rfl) T.n_len bb_len (pa_cons (pe_ix (r := rIxT K) ix_tup (pv 1) pe_int (fun _ _ => rfl)) pa_nil)) (pe_globE rfl T.c_LONGEST) (nomark _))
  (pss_one ps_never)
  pss_nil)
  (pss_cons (ps_fldaug (pv 0) pe_int in_add)
  (pss_cons (ps_if (pt_val (pe_methH (pv 0) TR.cl MA hr pass0 (pa_cons pe_str pa_nil)))
  (pss_one (ps_ret (pe_tup (pa_cons (pe_methH0 (pv 0) TR.cl MN hr2 pass0) (pa_cons (pe_callTy call_int_str (by rfl) T.n_int bb_int (pa_cons (pe_ix (r := rIxT K) ix_tup (pv 1) pe_int (fun _ _ => rfl)) pa_nil)) pa_nil)))))
  pss_nil)
  (pss_one (ps_ret (pe_tup (pa_cons pe_non (pa_cons (pe_callTy call_int_str (by rfl) T.n_int bb_int (pa_cons (pe_ix (r := rIxT K) ix_tup (pv 1) pe_int (fun _ _ => rfl)) pa_nil)) pa_nil))))))))))), ?_⟩
    cases ht with
    | name h =>
      refine ⟨_, rfl, S, dx, _, rfl, e1, rfl, S, L, i, d, ts, _, rfl, ra, h, fun p hp => ?_⟩
      refine ⟨_, rfl, p, _, _, _, rfl, rfl, SqT.of hp, rfl, rfl, _, rfl, iteS (decide_eq_true rfl) ?_⟩
      refine ⟨_, rfl, S, dx, _, rfl, e1, rfl, S, L, i, d, ts, _, rfl, ra, h, rfl, fun H1 b1 ra1 => ⟨(by show 2 ≤ sizeLine; decide), fun q hq => ?_⟩⟩
      exact k q _ (b1.trans (.of (same_new hq))) (ra1.same (same_new hq)) upd_same
    | num h hl hn h2 hm =>
      refine ⟨_, rfl, S, dx, _, rfl, e1, rfl, S, L, i, d, ts, _, rfl, ra, h, fun p hp => ?_⟩
      refine ⟨_, rfl, p, _, _, _, rfl, rfl, SqT.of hp, rfl, rfl, _, rfl, iteE (by rw [dec_str]; exact decide_eq_false nn_ne) ?_⟩
      refine ⟨_, rfl, p, _, _, _, rfl, rfl, SqT.of hp, rfl, rfl, _, rfl, iteE (by rw [decide_eq_true rfl]; rfl) ?_⟩
      refine ⟨_, rfl, p, _, _, _, rfl, rfl, SqT.of hp, rfl, _, rfl, Nat.le_trans hl (by decide), _, _, rfl, rfl, _, rfl, iteE (decide_eq_false (by simp only; omega)) ?_⟩
      refine ⟨_, rfl, S, C, dx, _, _, rfl, e1, TR.cl, TR.nI, rfl, _, _, rfl, rfl, dx, _, e1, (by show 3 < 1000; decide), ?_⟩
      have e : putF "index_of_token" (.int (((i : Nat) : Int) + 1)) (rdF L i d) = rdF L (i + 1) d := putF_ix L i (i + 1) d
      rw [e]
      have ra1 : RdAt C (upd H S (.ins C dx (rdF L (i + 1) d))) S L (i + 1) d ts := ra.step
      have hp1 := (upd_ne (H := H) (o := .ins C dx (rdF L (i + 1) d)) (ne_of hp e1 fun z => by cases z)).trans hp
      refine ⟨_, rfl, S, dx, _, rfl, upd_same, rfl, S, L, i + 1, d, ts, _, "*", rfl, ra1, h2, .inl ⟨hm, false, rfl, iteE rfl ?_⟩⟩
      refine ⟨_, rfl, p, _, _, _, rfl, rfl, SqT.of hp1, rfl, _, _, rfl, hn, Nat.le_trans hl (by decide), (by show 2 ≤ sizeLine; decide), fun q hq => ?_⟩
      have s2 := same_new (o := .tup [.non, .int n]) hq
      exact k q _ (bt_upd.trans (.of s2)) (ra1.same s2) upd_same
    | mul h hl hn h2 hm h3 =>
      refine ⟨_, rfl, S, dx, _, rfl, e1, rfl, S, L, i, d, ts, _, rfl, ra, h, fun p hp => ?_⟩
      refine ⟨_, rfl, p, _, _, _, rfl, rfl, SqT.of hp, rfl, rfl, _, rfl, iteE (by rw [dec_str]; exact decide_eq_false nn_ne) ?_⟩
      refine ⟨_, rfl, p, _, _, _, rfl, rfl, SqT.of hp, rfl, rfl, _, rfl, iteE (by rw [decide_eq_true rfl]; rfl) ?_⟩
      refine ⟨_, rfl, p, _, _, _, rfl, rfl, SqT.of hp, rfl, _, rfl, Nat.le_trans hl (by decide), _, _, rfl, rfl, _, rfl, iteE (decide_eq_false (by simp only; omega)) ?_⟩
      refine ⟨_, rfl, S, C, dx, _, _, rfl, e1, TR.cl, TR.nI, rfl, _, _, rfl, rfl, dx, _, e1, (by show 3 < 1000; decide), ?_⟩
      have e : putF "index_of_token" (.int (((i : Nat) : Int) + 1)) (rdF L i d) = rdF L (i + 1) d := putF_ix L i (i + 1) d
      rw [e]
      have ra1 : RdAt C (upd H S (.ins C dx (rdF L (i + 1) d))) S L (i + 1) d ts := ra.step
      have pS : p ≠ S := ne_of hp e1 fun z => by cases z
      have hp1 := (upd_ne (H := H) (o := .ins C dx (rdF L (i + 1) d)) pS).trans hp
      refine ⟨_, rfl, S, dx, _, rfl, upd_same, rfl, S, L, i + 1, d, ts, _, "*", rfl, ra1, h2, .inr ⟨hm, fun H2 b2 ra2 => ⟨true, rfl, iteS rfl ?_⟩⟩⟩
      obtain ⟨dx2, xs2, e2, _⟩ := id ra2
      refine ⟨_, rfl, S, dx2, _, rfl, e2, rfl, S, L, _, d, ts, _, rfl, ra2, h3, rfl, fun H3 b3 ra3 => ?_⟩
      have hp3 := b3 _ _ (b2 _ _ hp1 pS) pS
      refine ⟨_, rfl, p, _, _, _, rfl, rfl, SqT.of hp3, rfl, _, _, rfl, hn, Nat.le_trans hl (by decide), (by show 2 ≤ sizeLine; decide), fun q hq => ?_⟩
      exact k q _ (((bt_upd.trans b2).trans b3).trans (.of (same_new hq))) (ra3.same (same_new hq)) upd_same
end

/-! expression_of -/
theorem bb_sorted : bootBuiltins "sorted" = some (.builtin "sorted") := by decide +kernel
abbrev Fac := List (Str × Int)
def kvS (fs : Fac) : List (Key × V) := fs.map fun p => (Sum.inr p.1, V.int p.2)
def getF (fs : Fac) (nm : Str) : Int := ((fs.find? fun p => decide (p.1 = nm)).map (·.2)).getD 0
def addF (fs : Fac) (nm : Str) (v : Int) : Fac := if (fs.any fun p => decide (p.1 = nm)) = true then fs.map (fun p => if p.1 = nm then (p.1, p.2 + v) else p) else fs ++ [(nm, v)]
theorem dec_inr (a b : Str) : decide ((Sum.inr a : Key) = Sum.inr b) = decide (a = b) := decide_eq_decide.mpr ⟨fun h => Sum.inr.inj h, fun h => by rw [h]⟩
theorem val_kvS (fs : Fac) (nm : Str) : valV (kvS fs) (Sum.inr nm) = (fs.find? fun p => decide (p.1 = nm)).map fun p => V.int p.2 := by
  unfold valV kvS
  rw [List.find?_map, Option.map_map]
  congr 1
  congr 1
  funext p
  exact dec_inr p.1 nm
theorem val_getD (fs : Fac) (nm : Str) : (valV (kvS fs) (Sum.inr nm)).getD (.int 0) = .int (getF fs nm) := by
  rw [val_kvS]
  unfold getF
  cases fs.find? fun p => decide (p.1 = nm) <;> rfl
theorem any_kvS (fs : Fac) (nm : Str) : ((kvS fs).any fun kv => decide (kv.1 = (Sum.inr nm : Key))) = fs.any fun p => decide (p.1 = nm) := by
  unfold kvS
  rw [List.any_map]
  congr 1
  funext p
  exact dec_inr p.1 nm
def Uniq (fs : Fac) : Prop := (fs.map (·.1)).Nodup
theorem find_uniq {fs : Fac} (u : Uniq fs) {p : Str × Int} (h : p ∈ fs) : (fs.find? fun q => decide (q.1 = p.1)) = some p := by
  induction fs with
  | nil => cases h
  | cons q r ih =>
    have u2 : Uniq r := (List.nodup_cons.mp u).2
    rw [List.find?_cons]
    rcases List.mem_cons.mp h with rfl | h
    · rw [decide_eq_true rfl]
    · have ne : q.1 ≠ p.1 := fun e => (List.nodup_cons.mp u).1 (by show q.1 ∈ _; rw [e]; exact List.mem_map.mpr ⟨p, h, rfl⟩)
      rw [decide_eq_false ne]
      exact ih u2 h
theorem put_kvS {fs : Fac} (u : Uniq fs) (nm : Str) (v : Int) : putK (kvS fs) (Sum.inr nm) (V.int (getF fs nm + v)) = kvS (addF fs nm v) := by
  unfold putK addF
  rw [any_kvS]
  by_cases h : (fs.any fun p => decide (p.1 = nm)) = true
  · rw [if_pos h, if_pos h]
    unfold kvS
    rw [List.map_map, List.map_map]
    refine List.map_congr_left fun p hp => ?_
    show (if (Sum.inr p.1 : Key) = Sum.inr nm then ((Sum.inr p.1 : Key), V.int (getF fs nm + v)) else (Sum.inr p.1, V.int p.2)) = ((Sum.inr (if p.1 = nm then (p.1, p.2 + v) else p).1 : Key), V.int (if p.1 = nm then (p.1, p.2 + v) else p).2)
    by_cases e : p.1 = nm
    · rw [if_pos (by rw [e]), if_pos e]
      have g : getF fs nm = p.2 := by
        unfold getF
        rw [← e, find_uniq u hp]
        rfl
      rw [g]
    · rw [if_neg (fun z => e (Sum.inr.inj z)), if_neg e]
  · rw [if_neg h, if_neg h]
    have g : getF fs nm = 0 := by
      unfold getF
      have : (fs.find? fun p => decide (p.1 = nm)) = none := by
        rw [List.find?_eq_none]
        intro p hp e
        exact h (List.any_eq_true.mpr ⟨p, hp, e⟩)
      rw [this]
      rfl
    unfold kvS
    rw [List.map_append, g, Int.zero_add]
    rfl
theorem names_addF (fs : Fac) (nm : Str) (v : Int) : (addF fs nm v).map (·.1) = if (fs.any fun p => decide (p.1 = nm)) = true then fs.map (·.1) else fs.map (·.1) ++ [nm] := by
  unfold addF
  by_cases h : (fs.any fun p => decide (p.1 = nm)) = true
  · rw [if_pos h, if_pos h, List.map_map]
    refine List.map_congr_left fun p _ => ?_
    show (if p.1 = nm then (p.1, p.2 + v) else p).1 = p.1
    split <;> rfl
  · rw [if_neg h, if_neg h, List.map_append]
    rfl
theorem uniq_addF {fs : Fac} (u : Uniq fs) (nm : Str) (v : Int) : Uniq (addF fs nm v) := by
  unfold Uniq
  rw [names_addF]
  by_cases h : (fs.any fun p => decide (p.1 = nm)) = true
  · rw [if_pos h]
    exact u
  · rw [if_neg h, List.nodup_append]
    refine ⟨u, by simp, fun a ha b hb e => ?_⟩
    rw [List.mem_singleton.mp hb] at e
    obtain ⟨p, hp, rfl⟩ := List.mem_map.mp ha
    exact h (List.any_eq_true.mpr ⟨p, hp, decide_eq_true e⟩)
theorem len_addF (fs : Fac) (nm : Str) (v : Int) : (addF fs nm v).length ≤ fs.length + 1 := by
  unfold addF
  split
  · rw [List.length_map]
    omega
  · rw [List.length_append]
    exact Nat.le_refl _
def PairAt (H : Hp) (v : V) (r : Str × Int) : Prop := ∃ a, v = .ref a ∧ H a = some (.tup [.str r.1, .int r.2])
/-- a sum as a tuple -/
def ExprAt (H : Hp) (v : V) (c : Int) (l : Fac) : Prop := ∃ (p q : Addr) (ys : List V), v = .ref p ∧ H p = some (.tup [.int c, .ref q]) ∧ H q = some (.tup ys) ∧ Paired (PairAt H) ys l
theorem PairAt.same {H H' : Hp} (s : TSame H H') {v : V} {r : Str × Int} (h : PairAt H v r) : PairAt H' v r := let ⟨a, e, q⟩ := h; ⟨a, e, s _ _ q⟩
theorem ExprAt.same {H H' : Hp} (s : TSame H H') {v : V} {c : Int} {l : Fac} (h : ExprAt H v c l) : ExprAt H' v c l := let ⟨p, q, ys, e1, e2, e3, e4⟩ := h; ⟨p, q, ys, e1, s _ _ e2, s _ _ e3, Paired.mapP e4 fun _ _ z => z.same s⟩
/-- the sum with sorted names and without factors 0 -/
def OfF (fs l : Fac) : Prop := ∃ ys : List Str, ys.Perm (fs.map (·.1)) ∧ PyProof.Rows.sortedS ys = true ∧ l = (ys.map fun n => (n, getF fs n)).filter fun p => decide (p.2 ≠ 0)
section
variable {P : Program} {w : World} {K : PySem.W.Frag} {mg : Str → Option Value} {base : Heap} {kw C : Addr}
def spExprOf : Sp := fun vs H Q _ => ∃ (c : Int) (D : Addr) (fs : Fac), vs = [.int c, .ref D] ∧ H D = some (.dK (kvS fs)) ∧ Uniq fs ∧ fs.length < 60 ∧ ∀ (p : Addr) (l : Fac) (H' : Hp), Same H H' → OfF fs l → ExprAt H' (.ref p) c l → Q (.ref p) H'
theorem ok_ExprOf {f : Addr} {fd : FuncData} (F : Fun K "expression_of" "expression_of" sExprOf f fd) (T : TxSum mg) : FnOk P w K mg base CX0 1 f fd PExprOf spExprOf := by
  refine F.ok scExprOf (fun vs H Q E h => ?_) (fun cdv A outer s H vs Q E hr h => ?_)
  · obtain ⟨c, D, fs, rfl, _⟩ := h
    rfl
  · obtain ⟨c, D, fs, rfl, eD, u, lf, k⟩ := h
    have hu := hu_of hr
    refine ⟨_, (pss_one (ps_ret (pe_tup (pa_cons (pv 0) (pa_cons (pe_callTy call_tuple_of (by rfl) T.n_tuple bb_tuple (pa_cons (pe_lc (own := [("name", 2)]) (g := gName 2) rfl scExprOf.nd (pi_list (pe_callB (call_sortedD rfl) (by rfl) T.n_sorted bb_sorted (pa_cons (pv 1) pa_nil))) (blkOk_by (own := [("name", 2)]) (N := NExprOf) (sc := (defScope sExprOf)) (by decide +kernel)) (fun _ _ _ _ _ => (pg_name (i := 2) scExprOf.nd rfl (Or.inl rfl))) (fun _ _ _ _ _ => (pts_one (pt_cmpR op_ne (pe_dget hu (pv 1) (pv 2) (fun _ _ => rfl)) pe_int (nomark _)))) (fun _ _ _ _ _ => (pe_tup (pa_cons (pv 2) (pa_cons (pe_dget hu (pv 1) (pv 2) (fun _ _ => rfl)) pa_nil))))) pa_nil)) pa_nil))))), ?_⟩
    have mem : ∀ {n : Str}, n ∈ fs.map (·.1) → some (V.int (getF fs n)) = valV (kvS fs) (Sum.inr n) := fun {n} h => by
      obtain ⟨p, hp, rfl⟩ := List.mem_map.mp h
      rw [val_kvS]
      unfold getF
      rw [find_uniq u hp]
      rfl
    refine ⟨_, rfl, _, rfl, D, kvS fs, fs.map (·.1), rfl, .inl eD, by unfold kvS; rw [List.map_map, List.map_map]; rfl, by rw [List.length_map]; omega, fun ys p hperm hsort hp => ⟨p, rfl, ⟨_, SqL.of upd_same⟩, fun Z hZ => ?_⟩⟩
    have s1 := same_new (o := .lst (ys.map V.str)) hp
    obtain ⟨H1, eH1⟩ : ∃ H1, H1 = upd H p (.lst (ys.map V.str)) := ⟨_, rfl⟩
    have ep : H1 p = some (.lst (ys.map V.str)) := by rw [eH1, upd_same]
    rw [← eH1] at s1 hZ ⊢
    clear eH1 hp
    have eD1 := s1 _ _ eD
    have lys : ys.length = fs.length := by rw [hperm.length_eq, List.length_map]
    refine lc_it (walk_list (K := K) (a := p) (xs := ys.map V.str)) (fun i H' => Same H1 H' ∧ ∃ zs : List V, H' Z = some (.lst zs) ∧ zs.length ≤ i ∧ Paired (PairAt H') zs (((ys.take i).map fun n => (n, getF fs n)).filter fun p => decide (p.2 ≠ 0))) ⟨same_new hZ, [], upd_same, Nat.le_refl _, .nil⟩ (fun i H' _ h' => SqL.of (h'.1 _ _ ep)) ?_ ?_
    · rintro i x H2 H3 hi ⟨s2, zs, eZ, lz, hz⟩ ⟨rfl, hx⟩
      rw [List.getElem?_map] at hx
      obtain ⟨n, hn, rfl⟩ : ∃ n, ys[i]? = some n ∧ x = V.str n := by
        cases q : ys[i]? with
        | none => rw [q] at hx; cases hx
        | some n => rw [q] at hx; exact ⟨n, rfl, (Option.some.inj hx).symm⟩
      have hm := mem (hperm.mem_iff.mp (List.mem_of_getElem? hn))
      have ft : (((ys.take (i + 1)).map fun n => (n, getF fs n)).filter fun p => decide (p.2 ≠ 0)) = (((ys.take i).map fun n => (n, getF fs n)).filter fun p => decide (p.2 ≠ 0)) ++ (if getF fs n ≠ 0 then [(n, getF fs n)] else []) := by
        rw [take_snoc hn, List.map_append, List.filter_append]
        congr 1
        by_cases q : getF fs n = 0
        · simp [q]
        · simp [q]
      refine ⟨rfl, _, rfl, _, rfl, D, _, rfl, .inl ⟨kvS fs, Sum.inr n, .inl (s2 _ _ eD1), rfl, hm⟩, rfl, _, rfl, ite2 (fun hne => ?_) (fun hne => ?_)⟩
      · have gne : getF fs n ≠ 0 := fun q => by rw [q] at hne; exact absurd hne (by decide)
        refine ⟨_, rfl, _, rfl, _, rfl, D, _, rfl, .inl ⟨kvS fs, Sum.inr n, .inl (s2 _ _ eD1), rfl, hm⟩, (by show 2 ≤ sizeLine; decide), fun t ht => ?_⟩
        have s3 := same_new (o := .tup [.str n, .int (getF fs n)]) ht
        have eZ3 := s3 _ _ eZ
        rw [List.length_map] at hi
        refine ⟨zs, eZ3, small1000 (by omega), fun b o e => by rw [upd_ne (ne_of_none e hZ)]; exact s3 _ _ (s2 _ _ e), zs ++ [.ref t], upd_same, by rw [List.length_append]; show zs.length + 1 ≤ i + 1; omega, ?_⟩
        rw [ft, if_pos gne]
        have ts : TSame H3 (upd (upd H3 t (.tup [.str n, .int (getF fs n)])) Z (.lst (zs ++ [.ref t]))) := fun b xs e => by
          rw [upd_ne (ne_of (s3 _ _ e) eZ3 fun z => by cases z)]
          exact s3 _ _ e
        refine Paired.snocP (Paired.mapP hz fun _ _ q => q.same ts) ⟨t, rfl, ?_⟩
        show upd (upd H3 t _) Z _ t = _
        rw [upd_ne (fun z => by rw [z, eZ] at ht; cases ht), upd_same]
      · have ge : getF fs n = 0 := by
          by_cases q : getF fs n = 0
          · exact q
          · exact absurd (show (!decide (V.int (getF fs n) = V.int 0)) = true by rw [decide_eq_false (fun q' => by injection q' with q'; exact q q')]; rfl) hne
        refine ⟨s2, zs, eZ, by omega, ?_⟩
        rw [ft, if_neg (fun q => q ge), List.append_nil]
        exact hz
    · rintro H2 ⟨s2, zs, eZ, lz, hz⟩
      rw [List.length_map, List.take_length] at hz
      refine ⟨Z, _, rfl, .inl ⟨SqL.of eZ, fun q hq => ⟨(by show 2 ≤ sizeLine; decide), fun r hr' => ?_⟩⟩⟩
      have s3 := same_new (o := .tup zs) hq
      have s4 := same_new (o := .tup [.int c, .ref q]) hr'
      exact k r _ _ (((s1.trans s2).trans s3).trans s4) ⟨ys, hperm, hsort, rfl⟩ ⟨r, q, zs, rfl, upd_same, s4 _ _ upd_same, Paired.mapP hz fun _ _ z => z.same (TSame.of (s3.trans s4))⟩
end

/-! read_expression -/
abbrev Tm := Bool × Option Str × Int
def sgn (b : Bool) : Int := if b = true then -1 else 1
def accT (st : Int × Fac) (t : Tm) : Int × Fac := match t.2.1 with
  | none => (st.1 + sgn t.1 * t.2.2, st.2)
  | some x => (st.1, addF st.2 x (sgn t.1 * t.2.2))
inductive TmsAt (ts : List TK) : Nat → Bool → List Tm → Nat → Prop
  | last {i j : Nat} {sg : Bool} {nm : Option Str} {n : Int} {tk : TK} (t : TermAt ts i nm n j) (h : ts[j]? = some tk) (h1 : isMark tk "+" = false) (h2 : isMark tk "-" = false) : TmsAt ts i sg [(sg, nm, n)] j
  | plus {i j e : Nat} {sg : Bool} {nm : Option Str} {n : Int} {tk : TK} {rest : List Tm} (t : TermAt ts i nm n j) (h : ts[j]? = some tk) (h1 : isMark tk "+" = true) (r : TmsAt ts (j + 1) false rest e) : TmsAt ts i sg ((sg, nm, n) :: rest) e
  | minus {i j e : Nat} {sg : Bool} {nm : Option Str} {n : Int} {tk : TK} {rest : List Tm} (t : TermAt ts i nm n j) (h : ts[j]? = some tk) (h1 : isMark tk "+" = false) (h2 : isMark tk "-" = true) (r : TmsAt ts (j + 1) true rest e) : TmsAt ts i sg ((sg, nm, n) :: rest) e
def ExpAt (ts : List TK) (i : Nat) (tms : List Tm) (e : Nat) : Prop := ∃ tk, ts[i]? = some tk ∧ ((isMark tk "-" = true ∧ TmsAt ts (i + 1) true tms e) ∨ (isMark tk "-" = false ∧ TmsAt ts i false tms e))
theorem sgn_lt (b : Bool) : -(2 ^ 64) < sgn b ∧ sgn b < 2 ^ 64 := by cases b <;> decide
def TailAt (ts : List TK) (j : Nat) (rest : List Tm) (e : Nat) : Prop := ∃ tk, ts[j]? = some tk ∧ ((isMark tk "+" = false ∧ isMark tk "-" = false ∧ rest = [] ∧ e = j) ∨ (isMark tk "+" = true ∧ TmsAt ts (j + 1) false rest e) ∨ (isMark tk "+" = false ∧ isMark tk "-" = true ∧ TmsAt ts (j + 1) true rest e))
theorem TmsAt.inv {ts : List TK} {i e : Nat} {sg : Bool} {tms : List Tm} (h : TmsAt ts i sg tms e) : ∃ nm n j rest, tms = (sg, nm, n) :: rest ∧ TermAt ts i nm n j ∧ TailAt ts j rest e := by
  cases h with
  | last t h h1 h2 => exact ⟨_, _, _, _, rfl, t, _, h, .inl ⟨h1, h2, rfl, rfl⟩⟩
  | plus t h h1 r => exact ⟨_, _, _, _, rfl, t, _, h, .inr (.inl ⟨h1, r⟩)⟩
  | minus t h h1 h2 r => exact ⟨_, _, _, _, rfl, t, _, h, .inr (.inr ⟨h1, h2, r⟩)⟩
def WExp (C S L D : Addr) (d e : Nat) (ts : List TK) (H : Hp) (tot : Int × Fac) (B : Nat) (m : Nat) (σ : L2.St) (H' : Hp) : Prop := ∃ (j : Nat) (sg : Bool) (rest : List Tm) (fs : Fac) (c : Int) (nv xv : Option V), m = rest.length ∧ σ = [some (.ref S), some (.int c), some (.ref D), some (.int (sgn sg)), nv, xv] ∧ Bt S H H' ∧ RdAt C H' S L j d ts ∧ H' D = some (.dK (kvS fs)) ∧ TmsAt ts j sg rest e ∧ rest.foldl accT (c, fs) = tot ∧ Uniq fs ∧ fs.length + rest.length ≤ B
def tTail (C : Addr) : TS := tIfS (tB (tMeth C "accept" (spAcc C) [] E0 (tVar 0) (tCons (tC (V.str "+")) tNil))) (tAsg (tC (V.int 1)) (gName 3)) (tIfS (tB (tMeth C "accept" (spAcc C) [] E0 (tVar 0) (tCons (tC (V.str "-")) tNil))) (tAsg (tUn (rU fun i => V.int (-i)) (tC (V.int 1))) (gName 3)) (tRet (tCall spExprOf [] E0 (tCons (tVar 1) (tCons (tVar 2) tNil)))))
theorem tail_ok {C S L D : Addr} {d e j B : Nat} {ts : List TK} {H H5 : Hp} {tot : Int × Fac} {rest : List Tm} {fs : Fac} {c : Int} {sv nv xv : Option V} {DD : Ends} (DS : D ≠ S)
    (b5 : Bt S H H5) (ra : RdAt C H5 S L j d ts) (eD : H5 D = some (.dK (kvS fs))) (t : TailAt ts j rest e) (ht : rest.foldl accT (c, fs) = tot) (u : Uniq fs) (lf : fs.length + rest.length ≤ B) (hB : B < 60)
    (hN : ∀ m σ' H', m < rest.length + 1 → WExp C S L D d e ts H tot B m σ' H' → DD.nx σ' H') (hR : ∀ (p : Addr) (l : Fac) (H' : Hp), Bt S H H' → RdAt C H' S L e d ts → OfF tot.2 l → ExprAt H' (.ref p) tot.1 l → DD.rt (.ref p) H') :
    tTail C DD [some (.ref S), some (.int c), some (.ref D), sv, nv, xv] H5 := by
  obtain ⟨dx, xs, e1, _⟩ := id ra
  obtain ⟨tk, htk, h⟩ := t
  refine ⟨_, rfl, S, dx, _, rfl, e1, rfl, S, L, j, d, ts, tk, "+", rfl, ra, htk, ?_⟩
  rcases h with ⟨h1, h2, rfl, rfl⟩ | ⟨h1, r⟩ | ⟨h1, h2, r⟩
  · refine .inl ⟨h1, false, rfl, iteE rfl ⟨_, rfl, S, dx, _, rfl, e1, rfl, S, L, _, d, ts, tk, "-", rfl, ra, htk, .inl ⟨h2, false, rfl, iteE rfl ?_⟩⟩⟩
    refine ⟨_, rfl, _, rfl, c, D, fs, rfl, eD, u, Nat.lt_of_le_of_lt (Nat.le_trans (Nat.le_add_right _ _) lf) hB, fun p l H' s1 ho he => ?_⟩
    have et : tot = (c, fs) := ht.symm
    subst et
    exact hR p l H' (b5.trans (.of s1)) (ra.same s1) ho he
  · refine .inr ⟨h1, fun H6 b6 ra6 => ⟨true, rfl, iteS rfl ?_⟩⟩
    exact hN rest.length _ _ (Nat.lt_succ_self _) ⟨j + 1, false, rest, fs, c, nv, xv, rfl, rfl, b5.trans b6, ra6, b6 _ _ eD DS, r, ht, u, lf⟩
  · refine .inl ⟨h1, false, rfl, iteE rfl ⟨_, rfl, S, dx, _, rfl, e1, rfl, S, L, _, d, ts, tk, "-", rfl, ra, htk, .inr ⟨h2, fun H6 b6 ra6 => ⟨true, rfl, iteS rfl ?_⟩⟩⟩⟩
    exact ⟨_, rfl, hN rest.length _ _ (Nat.lt_succ_self _) ⟨j + 1, true, rest, fs, c, nv, xv, rfl, rfl, b5.trans b6, ra6, b6 _ _ eD DS, r, ht, u, lf⟩⟩
section
variable {P : Program} {w : World} {K : PySem.W.Frag} {mg : Str → Option Value} {base : Heap} {kw C : Addr}
def spExpr (C : Addr) : Sp := fun vs H Q _ => ∃ (S L : Addr) (i d : Nat) (ts : List TK) (tms : List Tm) (e : Nat), vs = [.ref S] ∧ RdAt C H S L i d ts ∧ ExpAt ts i tms e ∧ tms.length < 50 ∧
  ∀ (p : Addr) (l : Fac) (H' : Hp), Bt S H H' → RdAt C H' S L e d ts → OfF (tms.foldl accT (0, [])).2 l → ExprAt H' (.ref p) (tms.foldl accT (0, [])).1 l → Q (.ref p) H'
theorem ok_RExpr {f : Addr} {fd : FuncData} (F : Fun K "read_expression" "Reader.read_expression" sRExpr f fd) (T : TxSum mg) (TR : TxR K C) (MT : HasM P w K mg base CX0 4 C "read_term" PRTerm (spTerm C)) (MA : HasM P w K mg base CX0 3 C "accept" PRAcc (spAcc C)) (GE : Has P w K mg base CX0 1 "expression_of" PExprOf spExprOf) :
    FnOk P w K mg base CX0 5 f fd PRExpr (spExpr C) := by
  refine F.ok scRExpr (fun vs H Q E h => ?_) (fun cdv A outer s H vs Q E hr h => ?_)
  · obtain ⟨S, L, i, d, ts, tms, e, rfl, _⟩ := h
    rfl
  · obtain ⟨S, L, i, d, ts, tms, e, rfl, ra, ⟨tk, htk, hx⟩, lt, k⟩ := h
    have hr3 := hr.mono (j := 3) (by decide)
    have hr1 := hr.mono (j := 1) (by decide)
    have hu := hu_of hr
    refine ⟨_, (pss_cons (ps_set (i := 1) scRExpr.nd rfl (Or.inl rfl) pe_int)
  (pss_cons (ps_set (i := 2) scRExpr.nd rfl (Or.inl rfl) pe_dnewK)
  (pss_cons (ps_set (i := 3) scRExpr.nd rfl (Or.inl rfl) (pe_ifExp (pt_val (pe_methH (pv 0) TR.cl MA hr3 pass0 (pa_cons pe_str pa_nil))) (pe_un un_neg pe_int) pe_int))
  (pss_one (ps_while PassesOwn.never (pt_val pe_bl)
  (pss_cons (ps_asg (pe_methH0 (pv 0) TR.cl MT hr pass0) (pg_tup (by rfl) (pgs_cons (pg_name (i := 4) scRExpr.nd rfl (Or.inl rfl)) (pgs_cons (pg_name (i := 5) scRExpr.nd rfl (Or.inl rfl)) pgs_nil))))
  (pss_cons (ps_if (pt_cmpR op_isN (pv 4) pe_non (nomark _))
  (pss_one (ps_aug (i := 1) scRExpr.nd rfl (Or.inl rfl) (pe_op op_mul (pv 3) (pv 5)) ip_add))
  (pss_one (ps_dput hu (pv 2) (pv 4) (pe_op op_add (pe_dget2 hu (pv 2) (pv 4) pe_int ⟨rfl, rfl, rfl, rfl⟩) (pe_op op_mul (pv 3) (pv 5))) rfl)))
  (pss_one (ps_if (pt_val (pe_methH (pv 0) TR.cl MA hr3 pass0 (pa_cons pe_str pa_nil)))
  (pss_one (ps_set (i := 3) scRExpr.nd rfl (Or.inl rfl) pe_int))
  (pss_one (ps_if (pt_val (pe_methH (pv 0) TR.cl MA hr3 pass0 (pa_cons pe_str pa_nil)))
  (pss_one (ps_set (i := 3) scRExpr.nd rfl (Or.inl rfl) (pe_un un_neg pe_int)))
  (pss_one (ps_ret (pe_callH GE hr1 rfl pass0 (pa_cons (pv 1) (pa_cons (pv 2) pa_nil)))))))))))))))), ?_⟩
    refine fun D hD => ?_
    have sD := same_new (o := .dK []) hD
    obtain ⟨H0, eH0⟩ : ∃ H0, H0 = upd H D (.dK []) := ⟨_, rfl⟩
    have eD : H0 D = some (.dK []) := by rw [eH0, upd_same]
    rw [← eH0] at sD ⊢
    have ra0 := ra.same sD
    obtain ⟨dx, xs, e1, _⟩ := id ra0
    have DS : D ≠ S := fun z => by
      obtain ⟨_, _, e, _⟩ := ra
      rw [z, e] at hD
      cases hD
    have DL : L ≠ D := fun z => by
      obtain ⟨_, _, _, e, _⟩ := ra
      rw [z, hD] at e
      cases e
    refine ⟨_, rfl, S, dx, _, rfl, e1, rfl, S, L, i, d, ts, tk, "-", rfl, ra0, htk, ?_⟩
    refine (fun (key : ∀ (sg : Bool) (j : Nat) (H1 : Hp), Bt S H H1 → RdAt C H1 S L j d ts → H1 D = some (.dK []) → TmsAt ts j sg tms e → tWhile _ _ _ [some (.ref S), some (.int 0), some (.ref D), some (.int (sgn sg)), none, none] H1) =>
      Or.imp (fun h => ⟨h.1, false, rfl, iteE rfl (key false i H0 (.of sD) ra0 eD h.2)⟩) (fun h => ⟨h.1, fun H1 b1 ra1 => ⟨true, rfl, iteS rfl ⟨_, rfl, key true (i + 1) H1 ((Bt.of sD).trans b1) ra1 (b1 _ _ eD DS) h.2⟩⟩⟩) (Or.symm hx)) ?_
    intro sg0 j0 H1 b1 ra1 eD1 tm1
    refine ⟨WExp C S L D d e ts H (tms.foldl accT (0, [])) tms.length, ⟨_, j0, sg0, tms, [], 0, none, none, rfl, rfl, b1, ra1, eD1, tm1, rfl, List.nodup_nil, by rw [List.length_nil, Nat.zero_add]; exact Nat.le_refl _⟩, ?_⟩
    rintro m σ H2 ⟨j, sg, rest0, fs, c, nv, xv, rfl, rfl, b2, ra2, eD2, tm2, ht, u, lf⟩
    obtain ⟨nm, n, j2, rest, rfl, hT, hTail⟩ := tm2.inv
    obtain ⟨dx2, xs2, e2, _⟩ := id ra2
    refine ⟨true, rfl, iteS rfl ⟨fun σ' H' => ∃ m', m' < ((sg, nm, n) :: rest).length ∧ WExp C S L D d e ts H (tms.foldl accT (0, [])) tms.length m' σ' H', fun _ _ h => h, ?_⟩⟩
    refine ⟨_, rfl, S, dx2, _, rfl, e2, rfl, S, L, j, d, ts, nm, n, j2, rfl, ra2, hT, fun p H3 b3 ra3 hp => ⟨p, _, rfl, SqT.of hp, rfl, _, _, rfl, _, _, rfl, rfl, ?_⟩⟩
    have eD3 := b3 _ _ eD2 DS
    have lf' : fs.length + (rest.length + 1) ≤ tms.length := lf
    cases nm with
    | none =>
      refine ⟨_, rfl, rfl, _, rfl, iteS (decide_eq_true rfl) ?_⟩
      refine ⟨_, rfl, _, rfl, _, rfl, _, _, rfl, rfl, .inl (sgn_lt sg), _, _, rfl, rfl, ?_⟩
      exact tail_ok DS (b2.trans b3) ra3 eD3 hTail ht u (by omega) (by omega) (fun m σ' H' h1 h2 => ⟨m, h1, h2⟩) k
    | some x =>
      refine ⟨_, rfl, rfl, _, rfl, iteE (decide_eq_false fun z => by cases z) ?_⟩
      refine ⟨_, rfl, D, rfl, .inl ⟨_, .inl eD3⟩, _, rfl, valV (kvS fs) (Sum.inr x), .inl ⟨kvS fs, Sum.inr x, .inl eD3, rfl, rfl⟩, ?_⟩
      rw [val_getD]
      have u5 := uniq_addF u x (sgn sg * n)
      have l5 := len_addF fs x (sgn sg * n)
      have b5 : Bt S H (upd H3 D (.dK (kvS (addF fs x (sgn sg * n))))) := fun b o e h => by
        have bD : b ≠ D := fun z => by rw [z, hD] at e; cases e
        rw [upd_ne bD]
        exact b3 _ _ (b2 _ _ e h) h
      have ra5 : RdAt C (upd H3 D (.dK (kvS (addF fs x (sgn sg * n))))) S L j2 d ts := by
        obtain ⟨dy, ys, y1, y2, y3⟩ := ra3
        exact ⟨dy, ys, by rw [upd_ne DS.symm]; exact y1, by rw [upd_ne DL]; exact y2, Paired.mapP y3 fun _ _ z => z.same fun b zs e => by rw [upd_ne (ne_of e eD3 fun z => by cases z)]; exact e⟩
      refine ⟨_, rfl, _, rfl, _, _, rfl, rfl, .inl (sgn_lt sg), _, _, rfl, rfl, _, rfl, _, rfl, D, _, rfl, .inl ⟨kvS fs, Sum.inr x, eD3, rfl, small1000 (by unfold kvS; rw [List.length_map]; omega), rfl⟩, ?_⟩
      rw [put_kvS u]
      exact tail_ok DS b5 ra5 upd_same hTail ht u5 (by omega) (by omega) (fun m σ' H' h1 h2 => ⟨m, h1, h2⟩) k
end

/-! ### read_program and parse, for a text of one row of names and one sum -/
abbrev sRProg : Stmt := inClass (topS 16) 19
abbrev NRProg : List Str := ["self", "names", "kinds", "keeps", "functions"]
abbrev PRProg : List Str := ["self"]
theorem scRProg : FnScope NRProg PRProg (defScope sRProg) := ⟨rfl, rfl, rfl, by decide +kernel, rfl, by decide +kernel, by decide +kernel⟩
abbrev sParse : Stmt := topS 17
abbrev NParse : List Str := ["text"]
abbrev PParse : List Str := ["text"]
theorem scParse : FnScope NParse PParse (defScope sParse) := ⟨rfl, rfl, rfl, by decide +kernel, rfl, by decide +kernel, by decide +kernel⟩
structure ProgAt (ts : List TK) (ns : List Str) (tms : List Tm) : Prop where
  n0 : 0 < ns.length
  n1 : ns.length ≤ 1000
  g : ∃ tk, ts[0]? = some tk ∧ isMark tk "globals" = true
  names : NamesAt ts 1 ns
  k : ∃ tk, ts[1 + ns.length]? = some tk ∧ tk.1 ≠ "name" ∧ isMark tk "kinds" = false ∧ isMark tk "keep" = true
  s : ∃ e a, ExpAt ts (1 + ns.length + 1) tms e ∧ ts[e]? = some (("end", "", a) : TK)
  lt : tms.length < 50
def TreeAt (H : Hp) (v : V) (ns : List Str) (c : Int) (l : Fac) : Prop := ∃ (r a b k p q : Addr), v = .ref r ∧ H r = some (.tup [.ref a, .ref b, .ref k, .ref q]) ∧ H a = some (.tup (ns.map V.str)) ∧ H b = some (.tup []) ∧ H k = some (.tup [.ref p]) ∧ ExprAt H (.ref p) c l ∧ H q = some (.tup [])
theorem end_mark (z : Str) (a : Nat) (wd : Str) : isMark (("end", z, a) : TK) wd = false := by
  unfold isMark
  rw [decide_eq_false (by show ¬ (("end" : Str) = "mark"); decide +kernel)]
  rfl
section
variable {P : Program} {w : World} {K : PySem.W.Frag} {mg : Str → Option Value} {base : Heap} {kw C : Addr}
def spProg (C : Addr) : Sp := fun vs H Q _ => ∃ (S L : Addr) (d : Nat) (ts : List TK) (ns : List Str) (tms : List Tm), vs = [.ref S] ∧ RdAt C H S L 0 d ts ∧ ProgAt ts ns tms ∧
  ∀ (p : Addr) (l : Fac) (H' : Hp), Bt S H H' → OfF (tms.foldl accT (0, [])).2 l → TreeAt H' (.ref p) ns (tms.foldl accT (0, [])).1 l → Q (.ref p) H'
theorem ok_RProg {f : Addr} {fd : FuncData} (F : Fun K "read_program" "Reader.read_program" sRProg f fd) (T : TxSum mg) (TR : TxR K C) (MC : HasM P w K mg base CX0 1 C "current" PRCur (spCurr C)) (MR : HasM P w K mg base CX0 3 C "read_row" PRRow (spRow C)) (MA : HasM P w K mg base CX0 3 C "accept" PRAcc (spAcc C)) (ME : HasM P w K mg base CX0 5 C "read_expression" PRExpr (spExpr C)) :
    FnOk P w K mg base CX0 6 f fd PRProg (spProg C) := by
  refine F.ok scRProg (fun vs H Q E h => ?_) (fun cdv A outer s H vs Q E hr h => ?_)
  · obtain ⟨S, L, d, ts, ns, tms, rfl, _⟩ := h
    rfl
  · obtain ⟨S, L, d, ts, ns, tms, rfl, ra, ⟨n0, n1, ⟨tk0, ht0, hg0⟩, hn, ⟨tk1, ht1, hk1, hk2, hk3⟩, ⟨e, ea, hx, hte⟩, lt⟩, k⟩ := h
    have hr3 := hr.mono (j := 3) (by decide)
    have hr1 := hr.mono (j := 1) (by decide)
    refine ⟨_, (pss_cons (ps_set (i := 1) scRProg.nd rfl (Or.inl rfl) (pe_ifExp (pt_val (pe_methH (pv 0) TR.cl MA hr3 pass0 (pa_cons pe_str pa_nil))) (pe_methH0 (pv 0) TR.cl MR hr3 pass0) (pe_tup pa_nil)))
  (pss_cons (ps_set (i := 2) scRProg.nd rfl (Or.inl rfl) (pe_ifExp (pt_val (pe_methH (pv 0) TR.cl MA hr3 pass0 (pa_cons pe_str pa_nil))) (pe_methH0 (pv 0) TR.cl MR hr3 pass0) (pe_tup pa_nil)))
  (pss_cons (ps_set (i := 3) scRProg.nd rfl (Or.inl rfl) (pe_lst pa_nil))
  (pss_cons (ps_while PassesOwn.never (pt_val (pe_methH (pv 0) TR.cl MA hr3 pass0 (pa_cons pe_str pa_nil)))
  (pss_one (ps_expr (pe_bm PySem.F.plainAttrs_list PySem.F.slot_list_append PySem.F.type_list_append mt_append (pv 3) (pa_cons (pe_methH0 (pv 0) TR.cl ME hr pass0) pa_nil)))))
  (pss_cons (ps_set (i := 4) scRProg.nd rfl (Or.inl rfl) (pe_lst pa_nil))
  (pss_cons (ps_while PassesOwn.never (pt_val (pe_methH (pv 0) TR.cl MA hr3 pass0 (pa_cons pe_str pa_nil)))
  (pss_one ps_never))
  (pss_cons (ps_if (pt_cmpR op_ne (pe_ix (r := rIxT K) ix_tup (pe_methH0 (pv 0) TR.cl MC hr1 pass0) pe_int (fun _ _ => rfl)) pe_str (nomark _))
  (pss_one ps_never)
  pss_nil)
  (pss_one (ps_ret (pe_tup (pa_cons (pv 1) (pa_cons (pv 2) (pa_cons (pe_callTy call_tuple_of (by rfl) T.n_tuple bb_tuple (pa_cons (pv 3) pa_nil)) (pa_cons (pe_callTy call_tuple_of (by rfl) T.n_tuple bb_tuple (pa_cons (pv 4) pa_nil)) pa_nil)))))))))))))), ?_⟩
    obtain ⟨dx, xs, e1, _⟩ := id ra
    refine ⟨_, rfl, S, dx, _, rfl, e1, rfl, S, L, 0, d, ts, tk0, "globals", rfl, ra, ht0, .inr ⟨hg0, fun H1 b1 ra1 => ⟨true, rfl, iteS rfl ?_⟩⟩⟩
    obtain ⟨dx1, xs1, e11, _⟩ := id ra1
    refine ⟨_, rfl, S, dx1, _, rfl, e11, rfl, S, L, 0 + 1, d, ts, ns, tk1, rfl, ra1, hn, n0, n1, ht1, hk1, fun a H2 b2 ra2 ea2 => ?_⟩
    obtain ⟨dx2, xs2, e12, _⟩ := id ra2
    refine ⟨_, rfl, S, dx2, _, rfl, e12, rfl, S, L, _, d, ts, tk1, "kinds", rfl, ra2, ht1, .inl ⟨hk2, false, rfl, iteE rfl ?_⟩⟩
    refine ⟨Nat.zero_le _, fun b hb => ⟨Nat.zero_le _, fun X hX => ?_⟩⟩
    have sb := same_new (o := .tup []) hb
    have sX := same_new (o := .lst []) hX
    obtain ⟨H3, eH3⟩ : ∃ H3, H3 = upd H2 b (.tup []) := ⟨_, rfl⟩
    have eb3 : H3 b = some (.tup []) := by rw [eH3, upd_same]
    rw [← eH3] at sb hX sX ⊢
    obtain ⟨H4, eH4⟩ : ∃ H4, H4 = upd H3 X (.lst []) := ⟨_, rfl⟩
    have eX4 : H4 X = some (.lst []) := by rw [eH4, upd_same]
    rw [← eH4] at sX ⊢
    have bt3 : Bt S H H3 := (b1.trans b2).trans (.of sb)
    have ra4 := (ra2.same sb).same sX
    have XS : X ≠ S := fun z => by
      obtain ⟨_, _, e, _⟩ := ra2.same sb
      rw [z, e] at hX
      cases hX
    have XL : L ≠ X := fun z => by
      obtain ⟨_, _, _, e, _⟩ := ra2.same sb
      rw [z, hX] at e
      cases e
    have aS : a ≠ S := ne_of ea2 e12 fun z => by cases z
    have bS : b ≠ S := fun z => by rw [z, e12] at hb; cases hb
    have l1 : 0 + 1 + ns.length = 1 + ns.length := by omega
    rw [l1] at ra4
    have ap : ∀ {H5 H6 : Hp} {ys zs : List V} (_ : Bt S H H5) (_ : H5 X = some (.lst ys)), Bt S H (upd H5 X (.lst zs)) := fun {H5 H6 ys zs} b5 e5 c o hc hn => by
      have cX : c ≠ X := fun z => by
        have := bt3 _ _ hc hn
        rw [z, hX] at this
        cases this
      rw [upd_ne cX]
      exact b5 _ _ hc hn
    refine ⟨fun m σ H' => σ = [some (.ref S), some (.ref a), some (.ref b), some (.ref X), none] ∧ Bt S H H' ∧ H' a = some (.tup (ns.map V.str)) ∧ H' b = some (.tup []) ∧ ((m = 1 ∧ RdAt C H' S L (1 + ns.length) d ts ∧ H' X = some (.lst [])) ∨ (m = 0 ∧ RdAt C H' S L e d ts ∧ ∃ (p : Addr) (l : Fac), OfF (tms.foldl accT (0, [])).2 l ∧ ExprAt H' (.ref p) (tms.foldl accT (0, [])).1 l ∧ H' X = some (.lst [.ref p]))),
      ⟨1, rfl, bt3.trans (.of sX), sX _ _ (sb _ _ ea2), sX _ _ eb3, .inl ⟨rfl, ra4, eX4⟩⟩, ?_⟩
    rintro m σ H5 ⟨rfl, b5, ea5, eb5, ⟨rfl, ra5, eX5⟩ | ⟨rfl, ra5, p, l, ho, he, eX5⟩⟩
    · obtain ⟨dx5, xs5, e15, _⟩ := id ra5
      refine ⟨_, rfl, S, dx5, _, rfl, e15, rfl, S, L, _, d, ts, tk1, "keep", rfl, ra5, ht1, .inr ⟨hk3, fun H6 b6 ra6 => ⟨true, rfl, iteS rfl ?_⟩⟩⟩
      obtain ⟨dx6, xs6, e16, _⟩ := id ra6
      refine ⟨fun σ' H' => σ' = [some (.ref S), some (.ref a), some (.ref b), some (.ref X), none] ∧ Bt S H H' ∧ H' a = some (.tup (ns.map V.str)) ∧ H' b = some (.tup []) ∧ RdAt C H' S L e d ts ∧ ∃ (p : Addr) (l : Fac), OfF (tms.foldl accT (0, [])).2 l ∧ ExprAt H' (.ref p) (tms.foldl accT (0, [])).1 l ∧ H' X = some (.lst [.ref p]), fun σ' H' h => ⟨0, by decide, h.1, h.2.1, h.2.2.1, h.2.2.2.1, .inr ⟨rfl, h.2.2.2.2⟩⟩, ?_⟩
      refine ⟨_, rfl, .inl ⟨rfl, _, SqL.of (b6 _ _ eX5 XS)⟩, _, rfl, S, dx6, _, rfl, e16, rfl, S, L, _, d, ts, tms, e, rfl, ra6, hx, lt, fun p l H7 b7 ra7 ho he => ?_⟩
      have eX7 := b7 _ _ (b6 _ _ eX5 XS) XS
      have tsm : TSame H7 (upd H7 X (.lst [.ref p])) := fun c zs q => by rw [upd_ne (ne_of q eX7 fun z => by cases z)]; exact q
      refine ⟨X, _, _, rfl, rfl, eX7, small1000 (by decide), rfl, ap (H6 := H6) ((b5.trans b6).trans b7) eX7, tsm _ _ (b7 _ _ (b6 _ _ ea5 aS) aS), tsm _ _ (b7 _ _ (b6 _ _ eb5 bS) bS), ?_, p, l, ho, he.same tsm, upd_same⟩
      obtain ⟨dy, ys, y1, y2, y3⟩ := ra7
      exact ⟨dy, ys, by rw [upd_ne XS.symm]; exact y1, by rw [upd_ne XL]; exact y2, Paired.mapP y3 fun _ _ z => z.same tsm⟩
    · obtain ⟨dx5, xs5, e15, _⟩ := id ra5
      refine ⟨_, rfl, S, dx5, _, rfl, e15, rfl, S, L, _, d, ts, _, "keep", rfl, ra5, hte, .inl ⟨end_mark _ _ _, false, rfl, iteE rfl ?_⟩⟩
      refine ⟨Nat.zero_le _, fun Y hY => ?_⟩
      have sY := same_new (o := .lst []) hY
      obtain ⟨H6, eH6⟩ : ∃ H6, H6 = upd H5 Y (.lst []) := ⟨_, rfl⟩
      have eY6 : H6 Y = some (.lst []) := by rw [eH6, upd_same]
      rw [← eH6] at sY ⊢
      refine ⟨fun m σ H' => σ = [some (.ref S), some (.ref a), some (.ref b), some (.ref X), some (.ref Y)] ∧ H' = H6, ⟨0, rfl, rfl⟩, ?_⟩
      rintro m σ H7 ⟨rfl, rfl⟩
      have ra7 := ra5.same sY
      obtain ⟨dx7, xs7, e17, _⟩ := id ra7
      refine ⟨_, rfl, S, dx7, _, rfl, e17, rfl, S, L, _, d, ts, _, "def", rfl, ra7, hte, .inl ⟨end_mark _ _ _, false, rfl, iteE rfl ?_⟩⟩
      refine ⟨_, rfl, S, dx7, _, rfl, e17, rfl, S, L, _, d, ts, _, rfl, ra7, hte, fun t ht => ⟨t, _, _, _, rfl, rfl, SqT.of ht, rfl, rfl, _, rfl, iteE (by rw [decide_eq_true rfl]; rfl) ?_⟩⟩
      refine ⟨_, rfl, _, rfl, _, rfl, X, _, rfl, .inl ⟨SqL.of (sY _ _ eX5), fun k1 hk1 => ?_⟩⟩
      have s8 := same_new (o := .tup [.ref p]) hk1
      refine ⟨_, rfl, Y, _, rfl, .inl ⟨SqL.of (s8 _ _ eY6), fun q1 hq1 => ⟨(by show 4 ≤ sizeLine; decide), fun r hr' => ?_⟩⟩⟩
      have s9 := same_new (o := .tup []) hq1
      have s10 := same_new (o := .tup [.ref a, .ref b, .ref k1, .ref q1]) hr'
      have s11 := (sY.trans s8).trans (s9.trans s10)
      exact k r l _ (b5.trans (.of s11)) ho ⟨r, a, b, k1, p, q1, rfl, upd_same, s11 _ _ ea5, s11 _ _ eb5, (s9.trans s10) _ _ upd_same, he.same (TSame.of s11), s10 _ _ upd_same⟩
def spParse : Sp := fun vs H Q _ => ∃ (z : Str) (ts : List TK) (ns : List Str) (tms : List Tm), vs = [.str z] ∧ z.length ≤ 100000 ∧ Tkz z.cps.toList 0 ts ∧ ts.length ≤ 100001 ∧ ProgAt ts ns tms ∧
  ∀ (p : Addr) (l : Fac) (H' : Hp), Same H H' → OfF (tms.foldl accT (0, [])).2 l → TreeAt H' (.ref p) ns (tms.foldl accT (0, [])).1 l → Q (.ref p) H'
theorem ok_Parse {f : Addr} {fd : FuncData} (F : Fun K "parse" "parse" sParse f fd) (ni : mg "isinstance" = none) (ns : mg "str" = none) (TR : TxR K C) (HC : HasC P w K mg base CX0 3 "Reader" C PRIni (spRIni C)) (MP : HasM P w K mg base CX0 6 C "read_program" PRProg (spProg C)) :
    FnOk P w K mg base CX0 7 f fd PParse spParse := by
  refine F.ok scParse (fun vs H Q E h => ?_) (fun cdv A outer s H vs Q E hr h => ?_)
  · obtain ⟨z, ts, ns, tms, rfl, _⟩ := h
    rfl
  · obtain ⟨z, ts, ns', tms, rfl, hz, ht, lts, pa, k⟩ := h
    have hr4 := hr.mono (j := 4) (by decide)
    have T : mg "isinstance" = none ∧ mg "str" = none := ⟨ni, ns⟩
    refine ⟨_, (pss_cons (ps_if (pt_not (pt_val (pe_callB call_isi (by rfl) T.1 bb_isinstance (pa_cons (pv 0) (pa_cons (pe_bltn (v := .ty "str") (by rfl) T.2 bb_str rfl) pa_nil)))))
  (pss_one ps_never)
  pss_nil)
  (pss_one (ps_ret (pe_methH0 (pe_makeH HC hr4 rfl pass0 (pa_cons (pv 0) pa_nil)) TR.cl MP hr pass0)))), ?_⟩
    refine ⟨_, rfl, _, _, _, _, _, rfl, .ty _, .base (.str z), kit_ty (r := true) (by decide +kernel), _, rfl, iteE rfl ?_⟩
    refine ⟨_, rfl, fun x dx hx hdx hne => ⟨x, dx, z, ts, rfl, upd_same, hz, ht, lts, fun L H1 b1 ra1 => ⟨rfl, ?_⟩⟩⟩
    obtain ⟨dy, _, e1, _⟩ := id ra1
    refine ⟨x, dy, _, rfl, e1, rfl, x, L, 0, ts, ns', tms, rfl, ra1, pa, fun p l H2 b2 ho he => k p l H2 (fun b o e => ?_) ho he⟩
    have bx : b ≠ x := fun q => by rw [q, hx] at e; cases e
    have bd : b ≠ dx := fun q => by rw [q, hdx] at e; cases e
    exact b2 _ _ (b1 _ _ (by rw [upd_ne bx, upd_ne bd]; exact e) bx) bx
end

/-! ### text += text; sign * n -/
section
variable {X : Cx}
theorem ip_addS : PIp X .Add (fun x y H Q => ∃ i j, x = .str i ∧ y = .str j ∧ i.length + j.length ≤ sizeLine ∧ Q (.str (i ++ j)) H) := by
  intro pins s σ H x y v u Q I r1 r2 h
  obtain ⟨i, j, e1, e2, hz, q⟩ := h
  subst e1; subst e2
  obtain ⟨t, rfl⟩ := r1
  obtain ⟨t', rfl⟩ := r2
  exact SB.iadd (fun t' k => ⟨.str _, H, I.tok _, ⟨_, rfl⟩, q⟩) hz
theorem fold_rep (c : Nat) : ∀ (n : Nat) (acc : Array Nat), (List.replicate n (#[c] : Array Nat)).foldl (· ++ ·) acc = acc ++ (List.replicate n c).toArray
  | 0, acc => by simp
  | n + 1, acc => by
    rw [List.replicate_succ, List.foldl_cons, fold_rep c n, List.replicate_succ]
    apply Array.ext'
    simp
theorem op_repS : OpR X (binaryOp .Mult) (fun x y H Q => ∃ (c n : Nat), x = .str ⟨#[c]⟩ ∧ y = .int (n : Nat) ∧ n ≤ 1000 ∧ Q (.str ⟨(List.replicate n c).toArray⟩) H) := by
  intro pins s σ H x y v u Q I rx ry h
  obtain ⟨c, n, rfl, rfl, hn, q⟩ := h
  obtain ⟨t, rfl⟩ := rx
  obtain ⟨t', rfl⟩ := ry
  have e1 : ((⟨#[c]⟩ : Str)).length = 1 := rfl
  refine P.mul_str (by rw [decide_eq_false (by omega), decide_eq_false (by omega)]; rfl) (fun h1 h2 => ?_) (fun h1 h2 => ?_) ?_
  · rw [e1]
    have : (1 : Int) ≤ (2 ^ 63 - 1) / (n : Int) := by
      rw [Int.le_ediv_iff_mul_le (by omega)]
      omega
    omega
  · rw [e1]
    unfold Builtin.Str.tooLong
    refine decide_eq_false ?_
    rw [Int.toNat_natCast, Nat.one_mul]
    show ¬ n > 2 ^ 24
    omega
  · rcases Nat.lt_or_ge n 1 with h0 | h0
    · have en : n = 0 := by omega
      subst en
      rw [if_pos (by decide)]
      exact ⟨by decide, .str _, H, I.tok _, ⟨_, rfl⟩, q⟩
    · rw [if_neg (by omega)]
      rcases Nat.lt_or_ge n 2 with h1 | h1
      · have en : n = 1 := by omega
        subst en
        rw [if_pos (show (((1 : Nat) : Int) == 1 || _) = true from rfl)]
        exact ⟨.str _, H, I, ⟨_, rfl⟩, q⟩
      · have e2 : (((n : Nat) : Int) == 1 || (⟨#[c]⟩ : Str).length == 0) = false := by
          rw [e1]
          have : (((n : Nat) : Int) == 1) = false := by rw [beq_eq_false_iff_ne]; omega
          rw [this]
          rfl
        rw [if_neg (by rw [e2]; decide), Int.toNat_natCast]
        have e3 : (⟨(List.replicate n (⟨#[c]⟩ : Str).cps).foldl (· ++ ·) #[]⟩ : Str) = ⟨(List.replicate n c).toArray⟩ := by
          show (⟨(List.replicate n (#[c] : Array Nat)).foldl (· ++ ·) #[]⟩ : Str) = _
          rw [fold_rep, Array.empty_append]
        rw [e3]
        refine ⟨?_, .str _, H, I.tok _, ⟨_, rfl⟩, q⟩
        show (List.replicate n c).toArray.size ≤ 2 ^ 24
        rw [List.size_toArray, List.length_replicate]
        omega
end

/-! ### shown_term, show_expression, show -/
abbrev sShTerm : Stmt := topS 19
abbrev NShTerm : List Str := ["name", "factor"]
abbrev PShTerm : List Str := ["name", "factor"]
theorem scShTerm : FnScope NShTerm PShTerm (defScope sShTerm) := ⟨rfl, rfl, rfl, by decide +kernel, rfl, by decide +kernel, by decide +kernel⟩
abbrev sShExpr : Stmt := topS 20
abbrev NShExpr : List Str := ["expression", "constant", "terms", "parts", "name", "factor", "negative", "text", "part"]
abbrev PShExpr : List Str := ["expression"]
theorem scShExpr : FnScope NShExpr PShExpr (defScope sShExpr) := ⟨rfl, rfl, rfl, by decide +kernel, rfl, by decide +kernel, by decide +kernel⟩
abbrev sShow : Stmt := topS 28
abbrev NShow : List Str := ["tree", "names", "kinds", "keeps", "functions", "lines", "keep", "function", "line"]
abbrev PShow : List Str := ["tree"]
theorem scShow : FnScope NShow PShow (defScope sShow) := ⟨rfl, rfl, rfl, by decide +kernel, rfl, by decide +kernel, by decide +kernel⟩
theorem bb_abs : bootBuiltins "abs" = some (.builtin "abs") := by decide +kernel
def numS (n : Nat) : Str := Str.ofString (toString ((n : Nat) : Int))
def termS (nm : Str) (f : Int) : Str := if f.natAbs = 1 then nm else Str.empty ++ numS f.natAbs ++ "*" ++ nm
def sepS (b : Bool) : Str := if b = true then " - " else " + "
def tailS (t : Str) (ps : List (Bool × Str)) : Str := ps.foldl (fun t p => t ++ (sepS p.1 ++ p.2)) t
def partsS (c : Int) (l : Fac) : List (Bool × Str) := l.map (fun p => (decide (p.2 < 0), termS p.1 p.2)) ++ (if c ≠ 0 ∨ l = [] then [(decide (c < 0), numS c.natAbs)] else [])
def exprS (c : Int) (l : Fac) : Str := match partsS c l with
  | [] => ""
  | p :: r => tailS (if p.1 = true then "-" ++ p.2 else p.2) r
theorem abs_nat (i : Int) : (if i < 0 then -i else i) = ((i.natAbs : Nat) : Int) := by split <;> omega
theorem log_lt {n : Nat} (h : n < 2 ^ 64) : n.log2 < 1920 := by
  by_cases h0 : n = 0
  · subst h0; decide
  · exact Nat.lt_of_lt_of_le ((Nat.log2_lt h0).mpr h) (by decide)
theorem numS_len {n : Nat} (h : n < 2 ^ 64) : (numS n).length ≤ 65 := by
  unfold numS
  rw [ofString_length]
  refine int_text_length_le (k := 64) (by decide) ?_
  by_cases h0 : n = 0
  · subst h0; decide
  · exact (Nat.log2_lt (by simpa using h0)).mpr (by simpa using h)
theorem len_add (a b : Str) : (a ++ b).length = a.length + b.length := by
  show (a.cps ++ b.cps).size = _
  rw [Array.size_append]
  rfl
theorem g_ifS_or {i : Nat} {x : V} {t u : TT} {a b v : TS} {D : Ends} {σ : L2.St} {H : Hp} {c1 c2 : Bool} (ht : ∀ Q : Bool → Hp → Prop, Q c1 H → t (σ.set i (some x)) H Q) (hu : ∀ Q : Bool → Hp → Prop, Q c2 H → u (σ.set i (some x)) H Q) (h : if (c1 || c2) = true then a { D with nx := v D } (σ.set i (some x)) H else b { D with nx := v D } (σ.set i (some x)) H) : gName i x σ H (tSeq (tIfS (tOr t u) a b) v D) := by
  refine ht _ ?_
  cases c1 with
  | true => exact h
  | false => exact hu _ h
theorem if_tC {b : Bool} {u v : Str} {σ : L2.St} {H : Hp} {Q : VK} (h : Q (.str (if b = true then u else v)) H) : if b = true then tC (.str u) σ H Q else tC (.str v) σ H Q := by
  cases b with
  | true => exact h
  | false => exact h
theorem cut_one (xs : List V) : cutV xs (some 1) none = xs.drop 1 := by
  unfold cutV
  have e1 : HT.sIx xs.length 0 (some 1) = min 1 xs.length := HT.sIx_nat ..
  rw [HT.sIx_none, e1]
  cases xs with
  | nil => rfl
  | cons a r =>
    have : min 1 (a :: r).length = 1 := Nat.min_eq_left (Nat.succ_pos _)
    rw [this]
    exact List.take_of_length_le (by rw [List.length_drop]; exact Nat.le_refl _)
theorem tailS_len {X : Str} {n : Nat} (hX : X.length ≤ n) : ∀ (ps : List (Bool × Str)) (_ : ∀ r ∈ ps, r.2.length ≤ 1066), (tailS X ps).length ≤ n + ps.length * 1069 := by
  intro ps
  induction ps generalizing X n with
  | nil => intro _; exact hX
  | cons p r ih =>
    intro h
    have h1 := h p List.mem_cons_self
    have l3 : (sepS p.1).length = 3 := by unfold sepS; split <;> decide +kernel
    have := ih (X := X ++ (sepS p.1 ++ p.2)) (n := n + 1069) (by rw [len_add, len_add, l3]; omega) (fun q hq => h q (List.mem_cons_of_mem _ hq))
    show (tailS (X ++ (sepS p.1 ++ p.2)) r).length ≤ n + (r.length + 1) * 1069
    omega
structure TxShow (mg : Str → Option Value) : Prop where
  n_abs : mg "abs" = none
  n_str : mg "str" = none
section
variable {P : Program} {w : World} {K : PySem.W.Frag} {mg : Str → Option Value} {base : Heap} {kw C : Addr}
def spShTerm : Sp := fun vs H Q _ => ∃ (nm : Str) (f : Int), vs = [.str nm, .int f] ∧ nm.length ≤ 1000 ∧ f.natAbs < 2 ^ 64 ∧ Q (.str (termS nm f)) H
theorem ok_ShTerm {f : Addr} {fd : FuncData} (F : Fun K "shown_term" "shown_term" sShTerm f fd) (T : TxShow mg) : FnOk P w K mg base CX0 1 f fd PShTerm spShTerm := by
  refine F.ok scShTerm (fun vs H Q E h => ?_) (fun cdv A outer s H vs Q E hr h => ?_)
  · obtain ⟨nm, n, rfl, _⟩ := h
    rfl
  · obtain ⟨nm, n, rfl, hl, hn, k⟩ := h
    refine ⟨_, (pss_cons (ps_if (pt_cmpR op_eq (pe_callB call_abs (by rfl) T.n_abs bb_abs (pa_cons (pv 1) pa_nil)) pe_int (nomark _))
  (pss_one (ps_ret (pv 0)))
  pss_nil)
  (pss_one (ps_ret (pe_joined (.cons (pe_fmt (pe_callB call_abs (by rfl) T.n_abs bb_abs (pa_cons (pv 1) pa_nil))) (.cons pe_str (.cons (pe_fmt (pv 0)) .nil))))))), ?_⟩
    refine ⟨_, rfl, n, rfl, ?_⟩
    rw [abs_nat]
    unfold termS at k
    by_cases h1 : n.natAbs = 1
    · rw [if_pos h1] at k
      exact ⟨rfl, _, rfl, iteS (by rw [h1]; rfl) ⟨_, rfl, k⟩⟩
    · rw [if_neg h1] at k
      refine ⟨rfl, _, rfl, iteE (decide_eq_false fun z => h1 (by injection z with z; omega)) ?_⟩
      have e1 := numS_len hn
      refine ⟨_, rfl, n, rfl, .inr ⟨_, rfl, by rw [abs_nat]; exact log_lt hn, ?_⟩⟩
      rw [abs_nat]
      have l0 : Str.empty.length = 0 := rfl
      have l1 : ("*" : Str).length = 1 := by decide +kernel
      have e2 : sizeLine = 2 ^ 24 := rfl
      refine ⟨numS n.natAbs, rfl, by rw [len_add, l0, e2]; omega, "*", rfl, by rw [len_add, len_add, l0, l1, e2]; omega, _, rfl, .inl ⟨nm, rfl, by rw [e2]; omega, nm, rfl, by rw [len_add, len_add, len_add, l0, l1, e2]; omega, k⟩⟩
theorem termS_len {nm : Str} {f : Int} (h1 : nm.length ≤ 1000) (h2 : f.natAbs < 2 ^ 64) : (termS nm f).length ≤ 1066 := by
  unfold termS
  have e1 := numS_len h2
  have l0 : Str.empty.length = 0 := rfl
  have l1 : ("*" : Str).length = 1 := by decide +kernel
  split
  · omega
  · rw [len_add, len_add, len_add, l0, l1]
    omega
def FacOk (l : Fac) : Prop := l.length ≤ 50 ∧ ∀ p ∈ l, p.1.length ≤ 1000 ∧ p.2.natAbs < 2 ^ 64
def PartAt (H : Hp) (v : V) (r : Bool × Str) : Prop := ∃ a, v = .ref a ∧ H a = some (.tup [.bl r.1, .str r.2])
theorem PartAt.same {H H' : Hp} (s : TSame H H') {v : V} {r : Bool × Str} (h : PartAt H v r) : PartAt H' v r := let ⟨a, e, q⟩ := h; ⟨a, e, s _ _ q⟩
def spShExpr : Sp := fun vs H Q _ => ∃ (p : Addr) (c : Int) (l : Fac), vs = [.ref p] ∧ ExprAt H (.ref p) c l ∧ FacOk l ∧ c.natAbs < 2 ^ 64 ∧ ∀ H', Same H H' → Q (.str (exprS c l)) H'
theorem ok_ShExpr {f : Addr} {fd : FuncData} (F : Fun K "show_expression" "show_expression" sShExpr f fd) (T : TxShow mg) (GT : Has P w K mg base CX0 1 "shown_term" PShTerm spShTerm) : FnOk P w K mg base CX0 2 f fd PShExpr spShExpr := by
  refine F.ok scShExpr (fun vs H Q E h => ?_) (fun cdv A outer s H vs Q E hr h => ?_)
  · obtain ⟨p, c, l, rfl, _⟩ := h
    rfl
  · obtain ⟨p, c, l, rfl, ⟨p', q, ys, e0, ep, eq, hys⟩, ⟨ll, lo⟩, hc, k⟩ := h
    obtain rfl : p = p' := by injection e0
    refine ⟨_, (pss_cons (ps_asg (pv 0) (pg_tup (by rfl) (pgs_cons (pg_name (i := 1) scShExpr.nd rfl (Or.inl rfl)) (pgs_cons (pg_name (i := 2) scShExpr.nd rfl (Or.inl rfl)) pgs_nil))))
  (pss_cons (ps_setLc (i := 3) (own := [("name", 4), ("factor", 5)]) (g := gTup K 2 (gCons (gName 4) (gCons (gName 5) gNil))) (tt := tYes) rfl scShExpr.nd rfl rfl (sw_true rfl rfl rfl (by decide +kernel)) (pi_tup (pv 2)) (blkOk_by (own := [("name", 4), ("factor", 5)]) (N := NShExpr) (sc := (defScope sShExpr)) (by decide +kernel)) (fun _ _ _ _ _ => (pg_tup (by rfl) (pgs_cons (pg_name (i := 4) scShExpr.nd rfl (Or.inl rfl)) (pgs_cons (pg_name (i := 5) scShExpr.nd rfl (Or.inl rfl)) pgs_nil)))) (fun _ _ _ _ _ => pts_nil) (fun _ _ _ _ _ => (pe_tup (pa_cons (pe_cmpR op_lt (pv 5) pe_int (nomark _)) (pa_cons (pe_callH GT hr rfl pass0 (pa_cons (pv 4) (pa_cons (pv 5) pa_nil))) pa_nil)))))
  (pss_cons (ps_if (PW.pt (pw_or (pt_cmpR op_ne (pv 1) pe_int (nomark _)) (pw_or1 (pt_not (pt_truth (pv 3) (by intro _; rfl))))))
  (pss_one (ps_expr (pe_bm PySem.F.plainAttrs_list PySem.F.slot_list_append PySem.F.type_list_append mt_append (pv 3) (pa_cons (pe_tup (pa_cons (pe_cmpR op_lt (pv 1) pe_int (nomark _)) (pa_cons (pe_callTy call_str_int (by rfl) T.n_str bb_str (pa_cons (pe_callB call_abs (by rfl) T.n_abs bb_abs (pa_cons (pv 1) pa_nil)) pa_nil)) pa_nil))) pa_nil))))
  pss_nil)
  (pss_cons (ps_asg (pe_ix (r := rIxL K) ix_list (pv 3) pe_int (fun _ _ => rfl)) (pg_tup (by rfl) (pgs_cons (pg_name (i := 6) scShExpr.nd rfl (Or.inl rfl)) (pgs_cons (pg_name (i := 7) scShExpr.nd rfl (Or.inl rfl)) pgs_nil))))
  (pss_cons (ps_if (pt_val (pv 6))
  (pss_one (ps_set (i := 7) scShExpr.nd rfl (Or.inl rfl) (pe_op op_add_str pe_str (pv 7))))
  pss_nil)
  (pss_cons (ps_for PassesOwn.never rfl (pi_list (pe_slice sl_list (pv 3) (po_some pe_int) po_none)) (pg_tup (by rfl) (pgs_cons (pg_name (i := 6) scShExpr.nd rfl (Or.inl rfl)) (pgs_cons (pg_name (i := 8) scShExpr.nd rfl (Or.inl rfl)) pgs_nil)))
  (pss_one (ps_aug (i := 7) scShExpr.nd rfl (Or.inl rfl) (pe_op op_add_str (pe_ifExp (pt_val (pv 6)) pe_str pe_str) (pv 8)) ip_addS)))
  (pss_one (ps_ret (pv 7))))))))), ?_⟩
    refine ⟨_, rfl, p, _, rfl, SqT.of ep, rfl, _, _, rfl, _, _, rfl, rfl, ?_⟩
    have lys := Paired.length hys
    obtain ⟨rs, ers⟩ : ∃ rs : List (Bool × Str), rs = l.map (fun p => (decide (p.2 < 0), termS p.1 p.2)) := ⟨_, rfl⟩
    have lrs : rs.length = l.length := by rw [ers, List.length_map]
    refine ⟨_, rfl, q, rfl, ⟨_, SqT.of eq⟩, fun Z hZ => lc_rel (walk_tup (K := K) (a := q) (xs := ys)) (fun i y H => ∃ r, rs[i]? = some r ∧ PartAt H y r) (fun i y H H' s ⟨r, h1, h2⟩ => ⟨r, h1, h2.same s⟩) hZ (by omega) (fun H' s' => SqT.of (s' _ _ eq)) ?_ ?_⟩
    · rintro i x H1 H2 k1 hi s1 ⟨rfl, hx⟩ kk
      obtain ⟨r, hr1, a, rfl, ha⟩ := Paired.at hys hx
      obtain ⟨o1, o2⟩ := lo r (List.mem_of_getElem? hr1)
      refine ⟨a, _, rfl, SqT.of (s1 _ _ ha), rfl, _, _, rfl, _, _, rfl, rfl, rfl, ?_⟩
      refine ⟨_, rfl, _, _, rfl, rfl, _, rfl, _, rfl, r.1, r.2, rfl, o1, o2, (by show 2 ≤ sizeLine; decide), fun t ht => ?_⟩
      exact kk _ _ (same_new ht) ⟨_, by rw [ers, List.getElem?_map, hr1]; rfl, t, rfl, upd_same⟩
    · intro zs H1 s1 eZ lz hp
      obtain ⟨ps, eps⟩ : ∃ ps, ps = partsS c l := ⟨_, rfl⟩
      have eps' : ps = rs ++ (if c ≠ 0 ∨ l = [] then [(decide (c < 0), numS c.natAbs)] else []) := by rw [eps, ers]; rfl
      have zl : zs.length = l.length := by omega
      dsimp only
      refine g_ifS_or (c1 := decide (c ≠ 0)) (c2 := decide (l = [])) (fun Q q => ⟨_, rfl, rfl, _, rfl, ?_⟩) (fun Q q => ⟨_, rfl, _, .inl ⟨zs, SqL.of eZ, rfl⟩, ?_⟩) ?_
      · have : (!decide (V.int c = V.int 0)) = decide (c ≠ 0) := by
          by_cases h : c = 0
          · subst h; rfl
          · rw [decide_eq_true h, decide_eq_false (fun z => h (by injection z))]; rfl
        show Q (!decide (V.int c = V.int 0)) H1
        rw [this]
        exact q
      · have : (!!zs.isEmpty) = decide (l = []) := by
          cases l with
          | nil =>
            have : zs = [] := List.length_eq_zero_iff.mp zl
            rw [this]
            rfl
          | cons a r =>
            cases zs with
            | nil => cases zl
            | cons _ _ => rfl
        show Q (!!zs.isEmpty) H1
        rw [this]
        exact q
      refine (fun (key : ∀ (H2 : Hp) (zs2 : List V), Same H H2 → H2 Z = some (.lst zs2) → zs2.length = ps.length → (∀ (i : Nat) (y : V), zs2[i]? = some y → ∃ r, ps[i]? = some r ∧ PartAt H2 y r) → tSeq _ _ _ [some (.ref p), some (.int c), some (.ref q), some (.ref Z), none, none, none, none, none] H2) =>
        ite2 (fun h => ⟨_, rfl, .inl ⟨rfl, _, SqL.of eZ⟩, _, rfl, _, _, rfl, rfl, _, rfl, c, rfl, _, rfl, by rw [abs_nat]; exact log_lt hc, (by show 2 ≤ sizeLine; decide), fun t ht => ⟨Z, _, _, rfl, rfl, (same_new ht) _ _ eZ, small1000 (by omega), key _ (zs ++ [.ref t]) ?_ upd_same ?_ ?_⟩⟩)
          (fun h => key H1 zs s1 eZ ?_ ?_)) ?_
      · have hn : ¬ (c ≠ 0 ∨ l = []) := fun z => h (by rw [Bool.or_eq_true, decide_eq_true_eq, decide_eq_true_eq]; exact z)
        rw [eps', if_neg hn, List.append_nil]
        omega
      · have hn : ¬ (c ≠ 0 ∨ l = []) := fun z => h (by rw [Bool.or_eq_true, decide_eq_true_eq, decide_eq_true_eq]; exact z)
        rw [eps', if_neg hn, List.append_nil]
        exact hp
      · intro H2 zs2 s2 eZ2 lz2 hp2
        obtain ⟨r0, pr, epr⟩ : ∃ r0 pr, ps = r0 :: pr := by
          cases e : ps with
          | cons a r => exact ⟨a, r, rfl⟩
          | nil =>
            exfalso
            have z := eps'.symm.trans e
            rw [ers] at z
            obtain ⟨z1, z2⟩ := List.append_eq_nil_iff.mp z
            rw [if_pos (.inr (List.map_eq_nil_iff.mp z1))] at z2
            cases z2
        have pl : ∀ r ∈ ps, r.2.length ≤ 1066 := by
          intro r hr'
          rw [eps', ers] at hr'
          rcases List.mem_append.mp hr' with h | h
          · obtain ⟨x, hx, rfl⟩ := List.mem_map.mp h
            exact termS_len (lo x hx).1 (lo x hx).2
          · split at h
            · rw [List.mem_singleton.mp h]
              exact Nat.le_trans (numS_len hc) (by decide)
            · cases h
        have pn : ps.length ≤ 51 := by
          rw [eps', List.length_append]
          split
          · show rs.length + 1 ≤ 51; omega
          · show rs.length + 0 ≤ 51; omega
        obtain ⟨y0, hy0⟩ : ∃ y0, zs2[0]? = some y0 := ⟨_, List.getElem?_eq_getElem (by rw [lz2, epr]; exact Nat.succ_pos _)⟩
        obtain ⟨r, hr0, a0, rfl, ha0⟩ := hp2 0 y0 hy0
        obtain rfl : r0 = r := by rw [epr] at hr0; exact Option.some.inj hr0
        have e24 : sizeLine = 2 ^ 24 := rfl
        have p0 := pl r0 (by rw [epr]; exact List.mem_cons_self)
        have lm : ("-" : Str).length = 1 := by decide +kernel
        refine ⟨_, rfl, Z, zs2, 0, .ref a0, rfl, rfl, SqL.of eZ2, atI_nat (j := 0) hy0, a0, _, rfl, SqT.of ha0, rfl, _, _, rfl, _, _, rfl, rfl, _, rfl, r0.1, rfl, ?_⟩
        refine (fun (key : ∀ X : Str, X = (if r0.1 = true then "-" ++ r0.2 else r0.2) → tSeq _ _ _ [some (.ref p), some (.int c), some (.ref q), some (.ref Z), none, none, some (.bl r0.1), some (.str X), none] H2) =>
          ite2 (fun h => ⟨_, rfl, _, _, rfl, rfl, by rw [e24, lm]; omega, key _ (by rw [if_pos h])⟩) (fun h => key _ (by rw [if_neg h]))) ?_
        intro X eX
        have k2 : ∀ H', Same H H' → Q (.str (tailS X pr)) H' := fun H' s' => by
          have := k H' s'
          unfold exprS at this
          rw [← eps, epr] at this
          rw [eX]
          exact this
        have lX : X.length ≤ 1067 := by
          rw [eX]
          split
          · rw [len_add, lm]; omega
          · omega
        refine ⟨_, rfl, 1, rfl, Z, zs2, rfl, SqL.of eZ2, fun Y hY => ⟨Y, rfl, ⟨_, SqL.of upd_same⟩, ?_⟩⟩
        rw [cut_one]
        have sY := same_new (o := .lst (zs2.drop 1)) hY
        obtain ⟨H3, eH3⟩ : ∃ H3, H3 = upd H2 Y (.lst (zs2.drop 1)) := ⟨_, rfl⟩
        have eY : H3 Y = some (.lst (zs2.drop 1)) := by rw [eH3, upd_same]
        rw [← eH3] at sY ⊢
        refine for_it (walk_list (K := K) (a := Y) (xs := zs2.drop 1)) (fun i σ H' => H' = H3 ∧ ∃ nv pv, σ = [some (.ref p), some (.int c), some (.ref q), some (.ref Z), none, none, nv, some (.str (tailS X (pr.take i))), pv]) ⟨rfl, _, _, rfl⟩ (fun i σ H' _ h => by rw [h.1]; exact SqL.of eY) ?_ ?_
        · rintro i x σ H4 H5 hi ⟨rfl, nv, pv, rfl⟩ ⟨rfl, hx⟩
          rw [List.getElem?_drop] at hx
          obtain ⟨r, hr1, a, rfl, ha⟩ := hp2 _ x hx
          have hr2 : pr[i]? = some r := by rw [epr, Nat.add_comm, List.getElem?_cons_succ] at hr1; exact hr1
          have hi' : i < pr.length := (List.getElem?_eq_some_iff.mp hr2).1
          have lp : ps.length = pr.length + 1 := by rw [epr]; rfl
          have lr := pl r (List.mem_of_getElem? hr1)
          have l3 : (sepS r.1).length = 3 := by unfold sepS; split <;> decide +kernel
          have lt := tailS_len lX (pr.take i) fun z hz => pl z (by rw [epr]; exact List.mem_cons_of_mem _ (List.mem_of_mem_take hz))
          rw [List.length_take, Nat.min_eq_left (by omega)] at lt
          refine ⟨a, _, rfl, SqT.of (sY _ _ ha), rfl, _, _, rfl, _, _, rfl, rfl, _, rfl, _, rfl, r.1, rfl, if_tC ⟨_, rfl, sepS r.1, r.2, rfl, rfl, by rw [l3, e24]; omega, _, _, rfl, rfl, by rw [len_add, l3, e24]; omega, rfl, some (.bl r.1), some (.str r.2), ?_⟩⟩
          rw [take_snoc hr2]
          unfold tailS
          rw [List.foldl_append]
          rfl
        · rintro σ H4 ⟨rfl, nv, pv, rfl⟩
          rw [List.length_drop, lz2, epr, show (r0 :: pr).length - 1 = pr.length from rfl, List.take_length]
          exact ⟨_, rfl, k2 _ (s2.trans sY)⟩
      · intro b o e
        have bZ : b ≠ Z := ne_of_none e hZ
        rw [upd_ne bZ]
        exact same_new ht _ _ (s1 _ _ e)
      · have hy : c ≠ 0 ∨ l = [] := by rw [Bool.or_eq_true, decide_eq_true_eq, decide_eq_true_eq] at h; exact h
        rw [eps', if_pos hy, List.length_append, List.length_append]
        show zs.length + 1 = rs.length + 1
        omega
      · intro i y hy
        have hh : c ≠ 0 ∨ l = [] := by rw [Bool.or_eq_true, decide_eq_true_eq, decide_eq_true_eq] at h; exact h
        rw [eps', if_pos hh]
        have tZ : t ≠ Z := fun z => by rw [z, eZ] at ht; cases ht
        have ts : TSame H1 (upd (upd H1 t (HO.tup [(fun i j => V.bl (decide (i < j))) c 0, V.str (Str.ofString (toString (if c < 0 then -c else c)))])) Z (HO.lst (zs ++ [V.ref t]))) := fun b xs e => by
          rw [upd_ne (ne_of e eZ fun z => by cases z)]
          exact same_new ht _ _ e
        rcases Nat.lt_or_ge i zs.length with hi | hi
        · rw [List.getElem?_append_left hi] at hy
          obtain ⟨r, h1, h2⟩ := hp i y hy
          exact ⟨r, by rw [List.getElem?_append_left (by omega)]; exact h1, h2.same ts⟩
        · rw [List.getElem?_append_right hi] at hy
          have hj : i - zs.length = 0 := by
            have q := (List.getElem?_eq_some_iff.mp hy).1
            simp at q
            omega
          rw [hj] at hy
          cases hy
          refine ⟨_, by rw [List.getElem?_append_right (by omega), show i - rs.length = 0 by omega]; rfl, t, rfl, ?_⟩
          rw [upd_ne tZ, upd_same, abs_nat]
          rfl
theorem exprS_len {c : Int} {l : Fac} (fo : FacOk l) (hc : c.natAbs < 2 ^ 64) : (exprS c l).length ≤ 60000 := by
  obtain ⟨ll, lo⟩ := fo
  have pl : ∀ r ∈ partsS c l, r.2.length ≤ 1066 := by
    intro r hr'
    unfold partsS at hr'
    rcases List.mem_append.mp hr' with h | h
    · obtain ⟨x, hx, rfl⟩ := List.mem_map.mp h
      exact termS_len (lo x hx).1 (lo x hx).2
    · split at h
      · rw [List.mem_singleton.mp h]
        exact Nat.le_trans (numS_len hc) (by decide)
      · cases h
  have pn : (partsS c l).length ≤ 51 := by
    unfold partsS
    rw [List.length_append, List.length_map]
    split
    · show l.length + 1 ≤ 51; omega
    · show l.length + 0 ≤ 51; omega
  unfold exprS
  cases e : partsS c l with
  | nil => decide +kernel
  | cons p r =>
    rw [e] at pl pn
    have lm : ("-" : Str).length = 1 := by decide +kernel
    have p0 := pl p List.mem_cons_self
    have := tailS_len (X := if p.1 = true then "-" ++ p.2 else p.2) (n := 1067) (by
      split
      · rw [len_add, lm]; omega
      · omega) r fun z hz => pl z (List.mem_cons_of_mem _ hz)
    have pn : r.length + 1 ≤ 51 := pn
    show (tailS _ r).length ≤ 60000
    omega
theorem joinL_len (S : List Nat) : ∀ ys : List (List Nat), (TL.joinL S ys).length ≤ (ys.map (·.length)).sum + ys.length * S.length
  | [] => Nat.zero_le _
  | [x] => by show x.length ≤ (x.length + 0) + 1 * S.length; omega
  | x :: y :: r => by
    have ih := joinL_len S (y :: r)
    have e : TL.joinL S (x :: y :: r) = x ++ (S ++ TL.joinL S (y :: r)) := rfl
    rw [e, List.length_append, List.length_append, List.map_cons, List.sum_cons, List.length_cons, Nat.succ_mul]
    omega
theorem join_len (a : Str) (ys : List Str) : (Txt.join a ys).length ≤ (ys.map (·.length)).sum + ys.length * a.length := by
  rw [TL.len_tl, TL.join_eq, TL.tl_join]
  have h := joinL_len (TL.tl a) (ys.map TL.tl)
  rw [List.map_map, List.length_map] at h
  rw [TL.len_tl]
  have e : ys.map ((fun x : List Nat => x.length) ∘ TL.tl) = ys.map (·.length) := List.map_congr_left fun z _ => (TL.len_tl z).symm
  rw [e] at h
  exact h
theorem sum_len {ys : List Str} {n : Nat} (h : ∀ y ∈ ys, y.length ≤ n) : (ys.map (·.length)).sum ≤ ys.length * n := by
  induction ys with
  | nil => exact Nat.zero_le _
  | cons y r ih =>
    rw [List.map_cons, List.sum_cons, List.length_cons, Nat.succ_mul]
    have := ih fun z hz => h z (List.mem_cons_of_mem _ hz)
    have := h y List.mem_cons_self
    omega
/-! show -/
def showS (ns : List Str) (c : Int) (l : Fac) : Str := Txt.join "" [("globals " ++ Txt.join " " ns) ++ "\n", ("keep " ++ exprS c l) ++ "\n"]
def spShow : Sp := fun vs H Q _ => ∃ (v : V) (ns : List Str) (c : Int) (l : Fac), vs = [v] ∧ TreeAt H v ns c l ∧ FacOk l ∧ c.natAbs < 2 ^ 64 ∧ 0 < ns.length ∧ ns.length ≤ 50 ∧ (∀ n ∈ ns, n.length ≤ 1000) ∧ ∀ H', Same H H' → Q (.str (showS ns c l)) H'
theorem ok_Show {f : Addr} {fd : FuncData} (F : Fun K "show" "show" sShow f fd) (GE : Has P w K mg base CX0 2 "show_expression" PShExpr spShExpr) : FnOk P w K mg base CX0 3 f fd PShow spShow := by
  refine F.ok scShow (fun vs H Q E h => ?_) (fun cdv A outer s H vs Q E hr h => ?_)
  · obtain ⟨v, ns, c, l, rfl, _⟩ := h
    rfl
  · obtain ⟨_, ns, c, l, rfl, ⟨r, a, b, kk, p, q, rfl, er, ea, eb, ek, ep, eq⟩, fo, hc, n0, n1, nl, k⟩ := h
    refine ⟨_, (pss_cons (ps_asg (pv 0) (pg_tup (by rfl) (pgs_cons (pg_name (i := 1) scShow.nd rfl (Or.inl rfl)) (pgs_cons (pg_name (i := 2) scShow.nd rfl (Or.inl rfl)) (pgs_cons (pg_name (i := 3) scShow.nd rfl (Or.inl rfl)) (pgs_cons (pg_name (i := 4) scShow.nd rfl (Or.inl rfl)) pgs_nil))))))
  (pss_cons (ps_set (i := 5) scShow.nd rfl (Or.inl rfl) (pe_lst pa_nil))
  (pss_cons (ps_if (pt_truth (pv 1) (by intro _; rfl))
  (pss_one (ps_expr (pe_bm PySem.F.plainAttrs_list PySem.F.slot_list_append PySem.F.type_list_append mt_append (pv 5) (pa_cons (pe_op op_add_str pe_str (pe_join pe_str (pv 1))) pa_nil))))
  pss_nil)
  (pss_cons (ps_if (pt_truth (pv 2) (by intro _; rfl))
  (pss_one (ps_expr (pe_bm PySem.F.plainAttrs_list PySem.F.slot_list_append PySem.F.type_list_append mt_append (pv 5) (pa_cons (pe_op op_add_str pe_str (pe_join pe_str (pv 2))) pa_nil))))
  pss_nil)
  (pss_cons (ps_expr (pe_bm PySem.F.plainAttrs_list PySem.F.slot_list_extend PySem.F.type_list_extend mt_extend (pv 5) (pa_cons (pe_lc (own := [("keep", 6)]) (g := gName 6) (tt := tYes) rfl scShow.nd (pi_tup (pv 3)) (blkOk_by (own := [("keep", 6)]) (N := NShow) (sc := (defScope sShow)) (by decide +kernel)) (fun _ _ _ _ _ => (pg_name (i := 6) scShow.nd rfl (Or.inl rfl))) (fun _ _ _ _ _ => pts_nil) (fun _ _ _ _ _ => (pe_op op_add_str pe_str (pe_callH GE hr rfl pass0 (pa_cons (pv 6) pa_nil))))) pa_nil)))
  (pss_cons (ps_for PassesOwn.never rfl (pi_tup (pv 4)) (pg_name (i := 7) scShow.nd rfl (Or.inl rfl))
  (pss_one ps_never))
  (pss_one (ps_ret (pe_join pe_str (pe_lc (own := [("line", 8)]) (g := gName 8) (tt := tYes) rfl scShow.nd (pi_list (pv 5)) (blkOk_by (own := [("line", 8)]) (N := NShow) (sc := (defScope sShow)) (by decide +kernel)) (fun _ _ _ _ _ => (pg_name (i := 8) scShow.nd rfl (Or.inl rfl))) (fun _ _ _ _ _ => pts_nil) (fun _ _ _ _ _ => (pe_op op_add_str (pv 8) pe_str)))))))))))), ?_⟩
    have e24 : sizeLine = 2 ^ 24 := rfl
    have lg : ("globals " : Str).length = 8 := by decide +kernel
    have lk : ("keep " : Str).length = 5 := by decide +kernel
    have lsp : (" " : Str).length = 1 := by decide +kernel
    have lnl : ("\n" : Str).length = 1 := by decide +kernel
    have le : ("" : Str).length = 0 := by decide +kernel
    have lx := exprS_len fo hc
    have ls := sum_len nl
    have lj := join_len " " ns
    rw [lsp] at lj
    obtain ⟨sm, esm⟩ : ∃ sm, sm = (ns.map (·.length)).sum := ⟨_, rfl⟩
    rw [← esm] at ls lj
    have ls2 : ns.length * 1000 ≤ 50000 := by omega
    refine ⟨_, rfl, r, _, rfl, SqT.of er, rfl, _, _, rfl, _, _, rfl, _, _, rfl, _, _, rfl, rfl, ⟨Nat.zero_le _, fun Z hZ => ?_⟩⟩
    have sZ := same_new (o := .lst []) hZ
    obtain ⟨H1, eH1⟩ : ∃ H1, H1 = upd H Z (.lst []) := ⟨_, rfl⟩
    have eZ : H1 Z = some (.lst []) := by rw [eH1, upd_same]
    rw [← eH1] at sZ ⊢
    have nE : (ns.map V.str).isEmpty = false := by cases ns with | nil => cases n0 | cons _ _ => rfl
    refine ⟨_, rfl, true, .inr (.inl ⟨_, SqT.of (sZ _ _ ea), by rw [nE]; rfl⟩), iteS rfl ?_⟩
    refine ⟨_, rfl, .inl ⟨rfl, _, SqL.of eZ⟩, ⟨_, rfl⟩, _, rfl, _, a, ns, rfl, rfl, .inr (SqT.of (sZ _ _ ea)), by rw [lsp, ← esm]; omega, _, _, rfl, rfl, by rw [lg, e24]; omega, Z, _, _, rfl, rfl, eZ, by decide, ?_⟩
    obtain ⟨G, eG⟩ : ∃ G : Str, G = "globals " ++ Txt.join " " ns := ⟨_, rfl⟩
    have lG : G.length ≤ 60000 := by rw [eG, len_add, lg]; omega
    obtain ⟨H2, eH2⟩ : ∃ H2, H2 = upd H1 Z (.lst ([] ++ [V.str ("globals " ++ Txt.join " " ns)])) := ⟨_, rfl⟩
    have eZ2 : H2 Z = some (.lst [V.str G]) := by rw [eH2, upd_same, eG]; rfl
    have s2 : Same H H2 := fun b o e => by rw [eH2, upd_ne (ne_of_none e hZ)]; exact sZ _ _ e
    rw [← eH2]
    refine ⟨_, rfl, false, .inr (.inl ⟨_, SqT.of (s2 _ _ eb), rfl⟩), iteE rfl ?_⟩
    obtain ⟨k1, e1⟩ : ∃ k1 : Str, k1 = "keep " ++ exprS c l := ⟨_, rfl⟩
    have lk1 : k1.length ≤ 60005 := by rw [e1, len_add, lk]; omega
    refine ⟨_, rfl, .inl ⟨rfl, _, SqL.of eZ2⟩, _, rfl, kk, rfl, ⟨_, SqT.of (s2 _ _ ek)⟩, fun D hD => lc_map (walk_tup (K := K) (a := kk) (xs := [.ref p])) (fun _ => V.str k1) hD (by show 1 ≤ 1000; decide) (fun H' s' => SqT.of (s' _ _ (s2 _ _ ek))) ?_ ?_⟩
    · rintro i x H4 H5 k5 hi s4 ⟨rfl, hx⟩ kx
      obtain rfl : i = 0 := by have : i < 1 := hi; omega
      cases hx
      refine ⟨rfl, _, rfl, p, c, l, rfl, ep.same (TSame.of (s2.trans s4)), fo, hc, fun H6 s6 => ⟨_, _, rfl, rfl, by rw [lk, e24]; omega, ?_⟩⟩
      rw [← e1]
      exact kx _ s6
    · intro H3 s3 eD
      have eD : H3 D = some (.lst [V.str k1]) := eD
      have eZ3 := s3 _ _ eZ2
      refine ⟨Z, D, _, _, rfl, rfl, eZ3, eD, by show 2 ≤ sizeLine; decide, ?_⟩
      obtain ⟨H4, eH4⟩ : ∃ H4, H4 = upd H3 Z (.lst ([V.str G] ++ [V.str k1])) := ⟨_, rfl⟩
      have eZ4 : H4 Z = some (.lst [V.str G, V.str k1]) := by rw [eH4, upd_same]; rfl
      have s4 : Same H H4 := fun b o e => by rw [eH4, upd_ne (ne_of_none e hZ)]; exact s3 _ _ (s2 _ _ e)
      rw [← eH4]
      refine ⟨_, rfl, q, rfl, ⟨_, SqT.of (s4 _ _ eq)⟩, for_it (walk_tup (K := K) (a := q) (xs := [])) (fun i σ H' => H' = H4 ∧ σ = [some (.ref r), some (.ref a), some (.ref b), some (.ref kk), some (.ref q), some (.ref Z), none, none, none]) ⟨rfl, rfl⟩ (fun i σ H' _ h => by rw [h.1]; exact SqT.of (s4 _ _ eq)) (fun i _ _ _ _ hi => absurd hi (Nat.not_lt_zero _)) ?_⟩
      rintro σ H5 ⟨rfl, rfl⟩
      refine ⟨⟨_, rfl⟩, _, rfl, Z, rfl, ⟨_, SqL.of eZ4⟩, fun D2 hD2 => lc_map (walk_list (K := K) (a := Z) (xs := [V.str G, V.str k1])) (fun i => V.str (([G, k1].getD i "") ++ "\n")) hD2 (by show 2 ≤ 1000; decide) (fun H' s' => SqL.of (s' _ _ eZ4)) ?_ ?_⟩
      · rintro i x H6 H7 k7 hi s6 ⟨rfl, hx⟩ kx
        have hi : i < 2 := hi
        have ex : x = .str ([G, k1].getD i "") ∧ ([G, k1].getD i "").length ≤ 60005 := by
          rcases (show i = 0 ∨ i = 1 by omega) with rfl | rfl
          · cases hx; exact ⟨rfl, by show G.length ≤ 60005; omega⟩
          · cases hx; exact ⟨rfl, lk1⟩
        rw [ex.1]
        exact ⟨rfl, _, rfl, _, _, rfl, rfl, by rw [lnl, e24]; omega, kx _ (Same.refl _)⟩
      · intro H6 s6 eD2
        refine ⟨_, D2, [G ++ "\n", k1 ++ "\n"], rfl, rfl, .inl (SqL.of eD2), ?_, ?_⟩
        · rw [le]
          show (G ++ "\n").length + ((k1 ++ "\n").length + 0) + 2 * 0 ≤ 16777216
          rw [len_add, len_add, lnl]
          omega
        · have := k H6 (s4.trans s6)
          unfold showS at this
          rw [← eG, ← e1] at this
          exact this
end

/-! ### _law_same -/
abbrev sLSame : Stmt := topS 35
abbrev NLSame : List Str := ["_law_actual", "_law_due", "_law_k"]
abbrev PLSame : List Str := ["_law_actual", "_law_due"]
theorem scLSame : FnScope NLSame PLSame (defScope sLSame) := ⟨rfl, rfl, rfl, by decide +kernel, rfl, by decide +kernel, by decide +kernel⟩
def Leaf (v : V) : Prop := (∃ i, v = .int i) ∨ ∃ z : Str, v = .str z
def SameAt : Nat → Hp → V → V → Prop
  | 0, _, x, y => x = y ∧ Leaf y
  | n + 1, H, x, y => (x = y ∧ Leaf y) ∨ ∃ (a b : Addr) (xs ys : List V), x = .ref a ∧ y = .ref b ∧ H a = some (.tup xs) ∧ H b = some (.tup ys) ∧ xs.length ≤ 1000 ∧ Paired (SameAt n H) xs ys
theorem SameAt.same {H H' : Hp} (s : TSame H H') : ∀ {n : Nat} {x y : V}, SameAt n H x y → SameAt n H' x y
  | 0, _, _, h => h
  | n + 1, _, _, .inl h => .inl h
  | n + 1, _, _, .inr ⟨a, b, xs, ys, e1, e2, e3, e4, l, p⟩ => .inr ⟨a, b, xs, ys, e1, e2, s _ _ e3, s _ _ e4, l, Paired.mapP p fun _ _ q => SameAt.same s q⟩
def spLSame : Nat → Sp
  | 0 => fun _ _ _ _ => False
  | n + 1 => fun vs H Q _ => ∃ x y, vs = [x, y] ∧ SameAt n H x y ∧ ∀ H', Same H H' → Q (.bl true) H'
structure TxSame (mg : Str → Option Value) : Prop where
  n_bool : mg "bool" = none
  n_int : mg "int" = none
  n_str : mg "str" = none
  n_tuple : mg "tuple" = none
  n_list : mg "list" = none
  n_isinstance : mg "isinstance" = none
  n_len : mg "len" = none
  n_all : mg "all" = none
  n_range : mg "range" = none
section
variable {P : Program} {w : World} {K : PySem.W.Frag} {mg : Str → Option Value} {base : Heap} {kw C : Addr}
theorem ok_LSame {f : Addr} {fd : FuncData} (F : Fun K "_law_same" "_law_same" sLSame f fd) (T : TxSame mg) (m : mg "_law_same" = some (.ref f)) (kp : PySem.W.keepIn K (.ref f) = true) (b : Binds K fd PLSame []) : ∀ n, FnOk P w K mg base CX0 n f fd PLSame (spLSame n) := by
  intro n
  induction n with
  | zero => exact ⟨fun _ _ _ _ h => h.elim, fun _ _ _ _ _ _ _ _ _ _ _ _ _ h => h.elim⟩
  | succ n ih =>
    have GS : Has P w K mg base CX0 n "_law_same" PLSame (spLSame n) := ⟨f, fd, ih, m, kp, b⟩
    refine F.ok scLSame (fun vs H Q E h => ?_) (fun cdv A outer s H vs Q E hr h => ?_)
    · obtain ⟨x, y, rfl, _⟩ := h
      rfl
    · obtain ⟨x, y, rfl, h, k⟩ := h
      refine ⟨_, (pss_cons (ps_if (pt_cmpR op_isN (pv 1) pe_non (nomark _))
  (pss_one (ps_ret (pe_cmpR op_isN (pv 0) pe_non (nomark _))))
  pss_nil)
  (pss_cons (ps_if (PW.pt (pw_or (pt_val (pe_callB call_isi (by rfl) T.n_isinstance bb_isinstance (pa_cons (pv 1) (pa_cons (pe_bltn (v := .ty "bool") (by rfl) T.n_bool bb_bool rfl) pa_nil)))) (pw_or1 (pt_val (pe_callB call_isi (by rfl) T.n_isinstance bb_isinstance (pa_cons (pv 0) (pa_cons (pe_bltn (v := .ty "bool") (by rfl) T.n_bool bb_bool rfl) pa_nil)))))))
  (pss_one (ps_ret (pe_and (pe_callB call_isi (by rfl) T.n_isinstance bb_isinstance (pa_cons (pv 1) (pa_cons (pe_bltn (v := .ty "bool") (by rfl) T.n_bool bb_bool rfl) pa_nil))) (pe_and (pe_callB call_isi (by rfl) T.n_isinstance bb_isinstance (pa_cons (pv 0) (pa_cons (pe_bltn (v := .ty "bool") (by rfl) T.n_bool bb_bool rfl) pa_nil))) (pe_one (pe_cmpR op_eq (pv 0) (pv 1) (nomark _)))))))
  pss_nil)
  (pss_cons (ps_if (PW.pt (pw_or (pt_val (pe_callB call_isi (by rfl) T.n_isinstance bb_isinstance (pa_cons (pv 1) (pa_cons (pe_bltn (v := .ty "int") (by rfl) T.n_int bb_int rfl) pa_nil)))) (pw_or1 (pt_val (pe_callB call_isi (by rfl) T.n_isinstance bb_isinstance (pa_cons (pv 1) (pa_cons (pe_bltn (v := .ty "str") (by rfl) T.n_str bb_str rfl) pa_nil)))))))
  (pss_one (ps_ret (pe_and (pe_cmpR op_eq (pe_callB call_isi (by rfl) T.n_isinstance bb_isinstance (pa_cons (pv 0) (pa_cons (pe_bltn (v := .ty "int") (by rfl) T.n_int bb_int rfl) pa_nil))) (pe_callB call_isi (by rfl) T.n_isinstance bb_isinstance (pa_cons (pv 1) (pa_cons (pe_bltn (v := .ty "int") (by rfl) T.n_int bb_int rfl) pa_nil))) (nomark _)) (pe_one (pe_cmpR op_eq (pv 0) (pv 1) (nomark _))))))
  pss_nil)
  (pss_cons (ps_if (PW.pt (pw_or (pt_cmpR op_ne (pe_callB call_isi (by rfl) T.n_isinstance bb_isinstance (pa_cons (pv 1) (pa_cons (pe_bltn (v := .ty "tuple") (by rfl) T.n_tuple bb_tuple rfl) pa_nil))) (pe_callB call_isi (by rfl) T.n_isinstance bb_isinstance (pa_cons (pv 0) (pa_cons (pe_bltn (v := .ty "tuple") (by rfl) T.n_tuple bb_tuple rfl) pa_nil))) (nomark _)) (pw_or1 (pt_cmpR op_ne (pe_callB call_isi (by rfl) T.n_isinstance bb_isinstance (pa_cons (pv 1) (pa_cons (pe_bltn (v := .ty "list") (by rfl) T.n_list bb_list rfl) pa_nil))) (pe_callB call_isi (by rfl) T.n_isinstance bb_isinstance (pa_cons (pv 0) (pa_cons (pe_bltn (v := .ty "list") (by rfl) T.n_list bb_list rfl) pa_nil))) (nomark _)))))
  (pss_one (ps_ret pe_bl))
  pss_nil)
  (pss_one (ps_ret (pe_and (pe_cmpR op_eq (pe_callB call_len_seq (by rfl) T.n_len bb_len (pa_cons (pv 0) pa_nil)) (pe_callB call_len_seq (by rfl) T.n_len bb_len (pa_cons (pv 1) pa_nil)) (nomark _)) (pe_one (pe_callB (cr_all rfl) (by rfl) T.n_all bb_all (pa_cons (pe_lc (own := [("_law_k", 2)]) (g := gName 2) (tt := tYes) rfl scLSame.nd (pi_range1 (by rfl) T.n_range (pa_cons (pe_callB call_len_seq (by rfl) T.n_len bb_len (pa_cons (pv 1) pa_nil)) pa_nil)) (blkOk_by (own := [("_law_k", 2)]) (N := NLSame) (sc := (defScope sLSame)) (by decide +kernel)) (fun _ _ _ _ _ => (pg_name (i := 2) scLSame.nd rfl (Or.inl rfl))) (fun _ _ _ _ _ => pts_nil) (fun _ _ _ _ _ => (pe_callH GS hr rfl pass0 (pa_cons (pe_ix (r := rIxT K) ix_tup (pv 0) (pv 2) (fun _ _ => rfl)) (pa_cons (pe_ix (r := rIxT K) ix_tup (pv 1) (pv 2) (fun _ _ => rfl)) pa_nil))))) pa_nil)))))))))), ?_⟩
      have hl : (x = y ∧ Leaf y) ∨ ∃ (m : Nat) (a b : Addr) (xs ys : List V), n = m + 1 ∧ x = .ref a ∧ y = .ref b ∧ H a = some (.tup xs) ∧ H b = some (.tup ys) ∧ xs.length ≤ 1000 ∧ Paired (SameAt m H) xs ys := by
        cases n with
        | zero => exact .inl h
        | succ m =>
          rcases h with h | ⟨a, b, xs, ys, h⟩
          · exact .inl h
          · exact .inr ⟨m, a, b, xs, ys, rfl, h⟩
      rcases hl with ⟨rfl, ⟨i, rfl⟩ | ⟨z, rfl⟩⟩ | ⟨m, a, b, xs, ys, rfl, rfl, rfl, ea, eb, lx, hp⟩
      · refine ⟨_, rfl, rfl, _, rfl, iteE (decide_eq_false fun z => by cases z) ?_⟩
        refine ⟨_, rfl, _, _, _, _, _, rfl, .ty _, .base (.int i), kit_ty (r := false) (by decide +kernel), false, rfl, iteE rfl ⟨_, rfl, _, _, _, _, _, rfl, .ty _, .base (.int i), kit_ty (r := false) (by decide +kernel), false, rfl, iteE rfl ?_⟩⟩
        refine ⟨_, rfl, _, _, _, _, _, rfl, .ty _, .base (.int i), kit_ty (r := true) (by decide +kernel), true, rfl, iteS rfl (iteS rfl ?_)⟩
        refine ⟨_, rfl, _, _, _, _, _, rfl, .ty _, .base (.int i), kit_ty (r := true) (by decide +kernel), _, rfl, _, _, _, _, _, rfl, .ty _, .base (.int i), kit_ty (r := true) (by decide +kernel), rfl, _, rfl, ?_⟩
        refine ⟨_, rfl, _, rfl, rfl, ?_⟩
        rw [decide_eq_true rfl]
        exact k _ (Same.refl _)
      · refine ⟨_, rfl, rfl, _, rfl, iteE (decide_eq_false fun z => by cases z) ?_⟩
        refine ⟨_, rfl, _, _, _, _, _, rfl, .ty _, .base (.str z), kit_ty (r := false) (by decide +kernel), false, rfl, iteE rfl ⟨_, rfl, _, _, _, _, _, rfl, .ty _, .base (.str z), kit_ty (r := false) (by decide +kernel), false, rfl, iteE rfl ?_⟩⟩
        refine ⟨_, rfl, _, _, _, _, _, rfl, .ty _, .base (.str z), kit_ty (r := false) (by decide +kernel), false, rfl, iteE rfl ⟨_, rfl, _, _, _, _, _, rfl, .ty _, .base (.str z), kit_ty (r := true) (by decide +kernel), true, rfl, iteS rfl ?_⟩⟩
        refine ⟨_, rfl, _, _, _, _, _, rfl, .ty _, .base (.str z), kit_ty (r := false) (by decide +kernel), _, rfl, _, _, _, _, _, rfl, .ty _, .base (.str z), kit_ty (r := false) (by decide +kernel), rfl, _, rfl, ?_⟩
        refine ⟨_, rfl, _, rfl, rfl, ?_⟩
        rw [decide_eq_true rfl]
        exact k _ (Same.refl _)
      · refine ⟨_, rfl, rfl, _, rfl, iteE (decide_eq_false fun z => by cases z) ?_⟩
        refine ⟨_, rfl, _, _, _, _, _, rfl, .ty _, .base (.tup eb), kit_ty (r := false) (by decide +kernel), false, rfl, iteE rfl ⟨_, rfl, _, _, _, _, _, rfl, .ty _, .base (.tup ea), kit_ty (r := false) (by decide +kernel), false, rfl, iteE rfl ?_⟩⟩
        refine ⟨_, rfl, _, _, _, _, _, rfl, .ty _, .base (.tup eb), kit_ty (r := false) (by decide +kernel), false, rfl, iteE rfl ⟨_, rfl, _, _, _, _, _, rfl, .ty _, .base (.tup eb), kit_ty (r := false) (by decide +kernel), false, rfl, iteE rfl ?_⟩⟩
        refine ⟨_, rfl, _, _, _, _, _, rfl, .ty _, .base (.tup eb), kit_ty (r := true) (by decide +kernel), _, rfl, _, _, _, _, _, rfl, .ty _, .base (.tup ea), kit_ty (r := true) (by decide +kernel), rfl, _, rfl, iteE rfl ⟨_, rfl, _, _, _, _, _, rfl, .ty _, .base (.tup eb), kit_ty (r := false) (by decide +kernel), _, rfl, _, _, _, _, _, rfl, .ty _, .base (.tup ea), kit_ty (r := false) (by decide +kernel), rfl, _, rfl, iteE rfl ?_⟩⟩
        have lxy := Paired.length hp
        refine ⟨_, rfl, a, xs, rfl, .inr (SqT.of ea), _, rfl, b, ys, rfl, .inr (SqT.of eb), rfl, true, by rw [lxy, decide_eq_true rfl], iteS rfl ?_⟩
        refine ⟨_, rfl, b, ys, rfl, .inr (SqT.of eb), ?_⟩
        have e62 : (2 : Int) ^ 62 = 4611686018427387904 := by decide
        refine ⟨((ys.length : Nat) : Int), rfl, by omega, by omega, fun D hD => lc_range (lo := 0) (n := ((ys.length : Nat) : Int).toNat) (fun i H' => Same H H' ∧ H' D = some (.lst ((List.replicate i true).map V.bl))) ⟨same_new hD, upd_same⟩ ?_ ?_⟩
        · rintro i H1 hi ⟨s1, e1⟩
          have hi : i < ys.length := by omega
          obtain ⟨x, hx⟩ : ∃ x, xs[i]? = some x := ⟨_, List.getElem?_eq_getElem (by omega)⟩
          obtain ⟨y, hy, hxy⟩ := Paired.at hp hx
          refine ⟨rfl, _, rfl, _, rfl, a, xs, _, x, rfl, rfl, SqT.of (s1 _ _ ea), by rw [Int.zero_add]; exact atI_nat hx, _, rfl, _, rfl, b, ys, _, y, rfl, rfl, SqT.of (s1 _ _ eb), by rw [Int.zero_add]; exact atI_nat hy, x, y, rfl, hxy.same (TSame.of s1), fun H2 s2 => ⟨_, s2 _ _ e1, small1000 (by rw [List.length_map, List.length_replicate]; omega), fun c o e => ?_, ?_⟩⟩
          · rw [upd_ne (ne_of_none e hD)]
            exact s2 _ _ (s1 _ _ e)
          · rw [upd_same, List.replicate_succ', List.map_append]
            rfl
        · rintro H1 ⟨s1, e1⟩
          refine ⟨D, _, rfl, SqL.of e1, ?_⟩
          rw [show (List.replicate ((ys.length : Nat) : Int).toNat true).all id = true by rw [List.all_replicate]; split <;> rfl]
          exact k _ s1
end

/-! ### _law_term, _law_written -/
abbrev sLTerm : Stmt := topS 36
abbrev NLTerm : List Str := ["_law_name", "_law_number", "_law_is_short"]
abbrev PLTerm : List Str := ["_law_name", "_law_number", "_law_is_short"]
theorem scLTerm : FnScope NLTerm PLTerm (defScope sLTerm) := ⟨rfl, rfl, rfl, by decide +kernel, rfl, by decide +kernel, by decide +kernel⟩
abbrev sLWrit : Stmt := topS 37
abbrev NLWrit : List Str := ["_law_expression_here", "_law_text", "_law_name", "_law_factor"]
abbrev PLWrit : List Str := ["_law_expression_here"]
theorem scLWrit : FnScope NLWrit PLWrit (defScope sLWrit) := ⟨rfl, rfl, rfl, by decide +kernel, rfl, by decide +kernel, by decide +kernel⟩
def termL (nm : Str) (n : Nat) (b : Bool) : Str := if nm = "" then numS n else if b = true ∧ n = 1 then nm else numS n ++ "*" ++ nm
def prtS (p : Str × Int) : Bool × Str := (decide (p.2 < 0), termL p.1 p.2.natAbs true)
def prts (its : Fac) : List (Bool × Str) := (its.filter fun p => decide (p.2 ≠ 0)).map prtS
def writS (c : Int) (l : Fac) : Str := match prts (l ++ [(("" : Str), c)]) with
  | [] => "0"
  | p :: r => tailS (if p.1 = true then "-" ++ p.2 else p.2) r
theorem app_assoc (a b c : Str) : a ++ b ++ c = a ++ (b ++ c) := by
  refine TL.ext_tl ?_
  rw [TL.tl_append, TL.tl_append, TL.tl_append, TL.tl_append, List.append_assoc]
theorem app_nil (b : Str) : ("" : Str) ++ b = b := by
  refine TL.ext_tl ?_
  rw [TL.tl_append]
  rfl
theorem tailS_app (a : Str) : ∀ (r : List (Bool × Str)) (b : Str), tailS (a ++ b) r = a ++ tailS b r
  | [], _ => rfl
  | p :: r, b => by
    show tailS (a ++ b ++ (sepS p.1 ++ p.2)) r = a ++ tailS (b ++ (sepS p.1 ++ p.2)) r
    rw [app_assoc, tailS_app a r]
theorem tailS_cons (p : Bool × Str) (r : List (Bool × Str)) : tailS "" (p :: r) = sepS p.1 ++ tailS p.2 r := by
  show tailS ("" ++ (sepS p.1 ++ p.2)) r = _
  rw [app_nil, tailS_app]
theorem sepS_len (b : Bool) : (sepS b).length = 3 := by unfold sepS; split <;> decide +kernel
theorem cut_three (b : Bool) (u : Str) : cutS (sepS b ++ u) (some 3) none = u := by
  have h3 := sepS_len b
  refine TL.ext_tl ?_
  unfold cutS
  have e1 : HT.sIx (sepS b ++ u).length 0 (some 3) = min 3 (sepS b ++ u).length := HT.sIx_nat ..
  have e2 := len_add (sepS b) u
  rw [HT.sIx_none, e1, Nat.min_eq_left (by omega)]
  show (((sepS b ++ u).cps.toList.drop 3).take _) = TL.tl u
  have e3 : (sepS b ++ u).cps.toList = TL.tl (sepS b) ++ TL.tl u := TL.tl_append _ _
  have e4 : (TL.tl (sepS b)).length = 3 := by rw [← TL.len_tl]; exact h3
  rw [e3, List.drop_left' e4]
  exact List.take_of_length_le (by rw [← TL.len_tl]; omega)
theorem at_one (b : Bool) (u : Str) : (sepS b ++ u).cps.toList[1]? = some (if b = true then 45 else 43) := by
  have e3 : (sepS b ++ u).cps.toList = TL.tl (sepS b) ++ TL.tl u := TL.tl_append _ _
  rw [e3]
  cases b with
  | true => rw [show TL.tl (sepS true) = [32, 45, 32] by decide +kernel]; rfl
  | false => rw [show TL.tl (sepS false) = [32, 43, 32] by decide +kernel]; rfl
structure TxLt (mg : Str → Option Value) : Prop where
  n_str : mg "str" = none
  n_int : mg "int" = none
  n_abs : mg "abs" = none
theorem termL_len {nm : Str} {n : Nat} {b : Bool} (h1 : nm.length ≤ 1000) (h2 : n < 2 ^ 64) : (termL nm n b).length ≤ 1066 := by
  unfold termL
  have e1 := numS_len h2
  have l1 : ("*" : Str).length = 1 := by decide +kernel
  split
  · omega
  · split
    · omega
    · rw [len_add, len_add, l1]
      omega
section
variable {P : Program} {w : World} {K : PySem.W.Frag} {mg : Str → Option Value} {base : Heap} {kw C : Addr}
def spLTerm : Sp := fun vs H Q _ => ∃ (nm : Str) (n : Nat) (b : Bool), vs = [.str nm, .int (n : Nat), .bl b] ∧ nm.length ≤ 1000 ∧ n < 2 ^ 64 ∧ Q (.str (termL nm n b)) H
theorem ok_LTerm {f : Addr} {fd : FuncData} (F : Fun K "_law_term" "_law_term" sLTerm f fd) (T : TxLt mg) : FnOk P w K mg base CX0 1 f fd PLTerm spLTerm := by
  refine F.ok scLTerm (fun vs H Q E h => ?_) (fun cdv A outer s H vs Q E hr h => ?_)
  · obtain ⟨nm, n, b, rfl, _⟩ := h
    rfl
  · obtain ⟨nm, n, b, rfl, hl, hn, k⟩ := h
    refine ⟨_, (pss_cons (ps_if (pt_cmpR op_eq (pv 0) pe_str (nomark _))
  (pss_one (ps_ret (pe_callTy call_str_int (by rfl) T.n_str bb_str (pa_cons (pv 1) pa_nil))))
  pss_nil)
  (pss_one (ps_ret (pe_ifExp (PW.pt (pw_and (pt_val (pv 2)) (pw_and1 (pt_cmpR op_eq (pv 1) pe_int (nomark _))))) (pv 0) (pe_op op_add_str (pe_op op_add_str (pe_callTy call_str_int (by rfl) T.n_str bb_str (pa_cons (pv 1) pa_nil)) pe_str) (pv 0)))))), ?_⟩
    have e1 := numS_len hn
    have l1 : ("*" : Str).length = 1 := by decide +kernel
    have e24 : sizeLine = 2 ^ 24 := rfl
    unfold termL at k
    by_cases h1 : nm = ""
    · rw [if_pos h1] at k
      exact ⟨_, rfl, rfl, _, rfl, iteS (by rw [h1]; exact decide_eq_true rfl) ⟨_, rfl, _, rfl, log_lt hn, k⟩⟩
    · rw [if_neg h1] at k
      refine ⟨_, rfl, rfl, _, rfl, iteE (decide_eq_false fun z => h1 (by injection z)) ?_⟩
      have num : ∀ Q' : VK, Q' (.str (numS n ++ "*" ++ nm)) H → tOp (fun x y H Q => ∃ i j, x = V.str i ∧ y = V.str j ∧ i.length + j.length ≤ sizeLine ∧ Q (V.str (i ++ j)) H) (tOp (fun x y H Q => ∃ i j, x = V.str i ∧ y = V.str j ∧ i.length + j.length ≤ sizeLine ∧ Q (V.str (i ++ j)) H)
          (tCB (fun xs H Q => ∃ i, xs = [V.int i] ∧ i.natAbs.log2 < 1920 ∧ Q (V.str (Str.ofString (toString i))) H) (tCons (tVar 1) tNil)) (tC (V.str (Str.ofString "*")))) (tVar 0) [some (.str nm), some (.int (n : Nat)), some (.bl b)] H Q' := fun Q' q =>
        ⟨_, rfl, _, rfl, log_lt hn, numS n, _, rfl, rfl, by rw [l1, e24]; omega, _, rfl, _, _, rfl, rfl, by rw [len_add, l1, e24]; omega, q⟩
      refine ⟨_, rfl, b, rfl, ?_⟩
      cases b with
      | false =>
        rw [if_neg (fun z => by cases z.1)] at k
        exact num _ k
      | true =>
        refine ⟨_, rfl, rfl, _, rfl, ?_⟩
        by_cases h2 : n = 1
        · rw [if_pos ⟨rfl, h2⟩] at k
          subst h2
          exact ⟨_, rfl, k⟩
        · rw [if_neg (fun z => h2 z.2)] at k
          refine iteE (decide_eq_false fun z => h2 (by injection z with z; omega)) ?_
          exact num _ k
def spLWrit : Sp := fun vs H Q _ => ∃ (p : Addr) (c : Int) (l : Fac), vs = [.ref p] ∧ ExprAt H (.ref p) c l ∧ FacOk l ∧ c.natAbs < 2 ^ 64 ∧ ∀ H', Same H H' → Q (.str (writS c l)) H'
theorem ok_LWrit {f : Addr} {fd : FuncData} (F : Fun K "_law_written" "_law_written" sLWrit f fd) (T : TxLt mg) (GT : Has P w K mg base CX0 1 "_law_term" PLTerm spLTerm) : FnOk P w K mg base CX0 2 f fd PLWrit spLWrit := by
  refine F.ok scLWrit (fun vs H Q E h => ?_) (fun cdv A outer s H vs Q E hr h => ?_)
  · obtain ⟨p, c, l, rfl, _⟩ := h
    rfl
  · obtain ⟨p, c, l, rfl, ⟨p', q, ys, e0, ep, eq, hys⟩, ⟨ll, lo⟩, hc, k⟩ := h
    obtain rfl : p = p' := by injection e0
    refine ⟨_, (pss_cons (ps_set (i := 1) scLWrit.nd rfl (Or.inl rfl) pe_str)
  (pss_cons (ps_for PassesOwn.never rfl (pi_tup (pe_op op_catA (pe_ix (r := rIxT K) ix_tup (pv 0) pe_int (fun _ _ => rfl)) (pe_tup (pa_cons (pe_tup (pa_cons pe_str (pa_cons (pe_ix (r := rIxT K) ix_tup (pv 0) pe_int (fun _ _ => rfl)) pa_nil))) pa_nil)))) (pg_tup (by rfl) (pgs_cons (pg_name (i := 2) scLWrit.nd rfl (Or.inl rfl)) (pgs_cons (pg_name (i := 3) scLWrit.nd rfl (Or.inl rfl)) pgs_nil)))
  (pss_one (ps_if (pt_cmpR op_ne (pv 3) pe_int (nomark _))
  (pss_one (ps_set (i := 1) scLWrit.nd rfl (Or.inl rfl) (pe_op op_add_str (pe_op op_add_str (pv 1) (pe_ix (r := rIxL K) ix_list (pe_lst (pa_cons pe_str (pa_cons pe_str pa_nil))) (pe_callTy call_int1 (by rfl) T.n_int bb_int (pa_cons (pe_cmpR op_lt (pv 3) pe_int (nomark _)) pa_nil)) (fun _ _ => rfl))) (pe_callH GT hr rfl pass0 (pa_cons (pv 2) (pa_cons (pe_callB call_abs (by rfl) T.n_abs bb_abs (pa_cons (pv 3) pa_nil)) (pa_cons pe_bl pa_nil)))))))
  pss_nil)))
  (pss_cons (ps_if (pt_cmpR op_eq (pv 1) pe_str (nomark _))
  (pss_one (ps_ret pe_str))
  pss_nil)
  (pss_one (ps_ret (pe_ifExp (pt_cmpR op_eq (pe_ix ix_str (pv 1) pe_int (fun _ _ => rfl)) pe_str (nomark _)) (pe_slice sl_str (pv 1) (po_some pe_int) po_none) (pe_op op_add_str pe_str (pe_slice sl_str (pv 1) (po_some pe_int) po_none)))))))), ?_⟩
    obtain ⟨its, eits⟩ : ∃ its : Fac, its = l ++ [(("" : Str), c)] := ⟨_, rfl⟩
    have lits : its.length = l.length + 1 := by rw [eits, List.length_append]; rfl
    have oits : ∀ p ∈ its, p.1.length ≤ 1000 ∧ p.2.natAbs < 2 ^ 64 := by
      intro p hp
      rw [eits] at hp
      rcases List.mem_append.mp hp with h | h
      · exact lo p h
      · rw [List.mem_singleton.mp h]
        exact ⟨by show ("" : Str).length ≤ 1000; decide +kernel, hc⟩
    refine ⟨_, rfl, p, _, 1, _, rfl, rfl, SqT.of ep, atI_nat (j := 1) rfl, _, rfl, p, _, 0, _, rfl, rfl, SqT.of ep, atI_nat (j := 0) rfl, (by show 2 ≤ sizeLine; decide), fun t ht => ⟨(by show 1 ≤ sizeLine; decide), fun t2 ht2 => ?_⟩⟩
    have s1 := same_new (o := .tup [.str "", .int c]) ht
    have s2 := same_new (o := .tup [.ref t]) ht2
    have s12 := s1.trans s2
    refine ⟨q, t2, ys, [.ref t], rfl, rfl, SqT.of (s12 _ _ eq), SqT.of upd_same, Nat.le_of_lt (small1000 (by rw [Paired.length hys]; show l.length + 1 ≤ 1000; omega)), fun h => ?ga, fun _ h => absurd h (by simp), fun _ _ p2 hp2 => ?gb⟩
    case' ga =>
      obtain ⟨r, er⟩ : ∃ r, r = t2 := ⟨_, rfl⟩
      obtain ⟨ws, ews⟩ : ∃ ws : List V, ws = [.ref t] := ⟨_, rfl⟩
      obtain ⟨H4, eH4⟩ : ∃ H4, H4 = upd (upd H t (.tup [.str "", .int c])) t2 (.tup [.ref t]) := ⟨_, rfl⟩
      have e4 : H4 r = some (.tup ws) := by rw [eH4, er, ews, upd_same]
      have hp4 : Paired (PairAt H4) ws its := by
        subst h
        cases hys
        rw [eits, ews]
        exact .cons ⟨t, rfl, by rw [eH4]; exact s2 _ _ upd_same⟩ .nil
      rw [← eH4] at s12 ⊢
      rw [← er]
      clear er ews eH4
    case' gb =>
      obtain ⟨r, er⟩ : ∃ r, r = p2 := ⟨_, rfl⟩
      obtain ⟨ws, ews⟩ : ∃ ws : List V, ws = ys ++ [.ref t] := ⟨_, rfl⟩
      have s3 := same_new (o := .tup (ys ++ [.ref t])) hp2
      obtain ⟨H4, eH4⟩ : ∃ H4, H4 = upd (upd (upd H t (.tup [.str "", .int c])) t2 (.tup [.ref t])) p2 (.tup (ys ++ [.ref t])) := ⟨_, rfl⟩
      have e4 : H4 r = some (.tup ws) := by rw [eH4, er, ews, upd_same]
      have hp4 : Paired (PairAt H4) ws its := by
        rw [eits, ews]
        exact Paired.snocP (Paired.mapP hys fun _ _ z => z.same (TSame.of (by rw [eH4]; exact s12.trans s3))) ⟨t, rfl, by rw [eH4]; exact s3 _ _ (s2 _ _ upd_same)⟩
      replace s12 := s12.trans s3
      rw [← eH4] at s12 ⊢
      rw [← er]
      clear er ews eH4
    all_goals
      have lws := Paired.length hp4
      have e24 : sizeLine = 2 ^ 24 := rfl
      have prl : ∀ (i : Nat), ∀ r ∈ prts (its.take i), r.2.length ≤ 1066 := by
        intro i r hr'
        obtain ⟨x, hx, rfl⟩ := List.mem_map.mp hr'
        have := oits x (List.mem_of_mem_take (List.mem_filter.mp hx).1)
        exact termL_len this.1 this.2
      have prn : ∀ i : Nat, (prts (its.take i)).length ≤ 51 := by
        intro i
        unfold prts
        rw [List.length_map]
        refine Nat.le_trans (List.length_filter_le _ _) ?_
        rw [List.length_take]
        omega
      have tl0 : ("" : Str).length ≤ 0 := by decide +kernel
      have tll : ∀ i : Nat, (tailS "" (prts (its.take i))).length ≤ 60000 := fun i => by
        have := tailS_len tl0 _ (prl i)
        have := prn i
        omega
      refine ⟨r, rfl, ⟨_, SqT.of e4⟩, for_it (walk_tup (K := K) (a := r) (xs := ws)) (fun i σ H' => Same H4 H' ∧ ∃ nv fv, σ = [some (.ref p), some (.str (tailS "" (prts (its.take i)))), nv, fv]) ⟨Same.refl _, none, none, rfl⟩ (fun i σ H' _ h => SqT.of (h.1 _ _ e4)) ?_ ?_⟩
      · rintro i x σ H5 H6 hi ⟨s5, nv, fv, rfl⟩ ⟨rfl, hx⟩
        obtain ⟨rr, hr1, a, rfl, ha⟩ := Paired.at hp4 hx
        obtain ⟨o1, o2⟩ := oits rr (List.mem_of_getElem? hr1)
        have tk : prts (its.take (i + 1)) = prts (its.take i) ++ (if rr.2 ≠ 0 then [prtS rr] else []) := by
          unfold prts
          rw [take_snoc hr1, List.filter_append, List.map_append]
          congr 1
          by_cases z : rr.2 = 0
          · rw [if_neg (fun q => q z)]; simp [z]
          · rw [if_pos z]; simp [z]
        have tli := tll i
        refine ⟨a, _, rfl, SqT.of (s5 _ _ ha), rfl, _, _, rfl, _, _, rfl, rfl, _, rfl, rfl, _, rfl, ite2 (fun hne => ?_) (fun hne => ?_)⟩
        · have gne : rr.2 ≠ 0 := fun q => by rw [q] at hne; exact absurd hne (by decide)
          refine ⟨_, rfl, (by show 2 ≤ sizeLine; decide), fun Z hZ => ⟨_, rfl, _, _, rfl, rfl, .inr ⟨_, rfl, Z, _, _, .str (sepS (decide (rr.2 < 0))), rfl, rfl, SqL.of upd_same, ?_, ?_⟩⟩⟩
          · cases decide (rr.2 < 0) <;> rfl
          · refine ⟨_, _, rfl, rfl, by rw [sepS_len, e24]; omega, _, rfl, _, rfl, _, rfl, rr.1, rr.2.natAbs, true, by rw [abs_nat]; rfl, o1, o2, _, _, rfl, rfl, by have := termL_len (b := true) o1 o2; rw [len_add, sepS_len, e24]; omega, s5.trans (same_new hZ), some (.str rr.1), some (.int rr.2), ?_⟩
            rw [tk, if_pos gne, app_assoc]
            unfold tailS
            rw [List.foldl_append]
            rfl
        · have gz : rr.2 = 0 := by
            by_cases q : rr.2 = 0
            · exact q
            · exact absurd (show (!decide (V.int rr.2 = V.int 0)) = true by rw [decide_eq_false (fun q' => by injection q' with q'; exact q q')]; rfl) hne
          refine ⟨s5, some (.str rr.1), some (.int rr.2), ?_⟩
          rw [tk, if_neg (fun q => q gz), List.append_nil]
          rfl
      · rintro σ H5 ⟨s5, nv, fv, rfl⟩
        rw [lws, List.take_length]
        have tlx := tll its.length
        rw [List.take_length] at tlx
        have kf := k H5 (s12.trans s5)
        unfold writS at kf
        rw [← eits] at kf
        cases e : prts its with
        | nil =>
          rw [e] at kf
          exact ⟨_, rfl, rfl, _, rfl, iteS (decide_eq_true rfl) kf⟩
        | cons p0 pr =>
          rw [e] at kf tlx
          rw [tailS_cons] at tlx
          rw [tailS_cons]
          have l3 := sepS_len p0.1
          refine ⟨_, rfl, rfl, _, rfl, iteE (decide_eq_false fun z => ?_) ?_⟩
          · injection z with z
            have := congrArg Str.length z
            rw [len_add, l3] at this
            have e0 : ("" : Str).length = 0 := by decide +kernel
            omega
          · refine ⟨_, rfl, _, 1, (if p0.1 = true then 45 else 43), rfl, rfl, by rw [e24]; omega, atI_nat (j := 1) (at_one _ _), rfl, _, rfl, ?_⟩
            have p43 : ("+" : Str) = ⟨#[43]⟩ := by decide +kernel
            have lm : ("-" : Str).length = 1 := by decide +kernel
            have ltt : (tailS p0.2 pr).length ≤ 60000 := by rw [len_add] at tlx; omega
            replace kf : Q (.str (tailS (if p0.1 = true then "-" ++ p0.2 else p0.2) pr)) H5 := kf
            by_cases hb : p0.1 = true
            · rw [if_pos hb] at kf
              refine iteE (by rw [if_pos hb, p43, eq_sign]; rfl) ?_
              refine ⟨_, rfl, 3, rfl, _, rfl, by rw [e24]; omega, ?_⟩
              rw [cut_three]
              refine ⟨_, _, rfl, rfl, by rw [lm, e24]; omega, ?_⟩
              rw [← tailS_app]
              exact kf
            · rw [if_neg hb] at kf
              refine iteS (by rw [if_neg hb, p43, eq_sign]; rfl) ?_
              refine ⟨_, rfl, 3, rfl, _, rfl, by rw [e24]; omega, ?_⟩
              rw [cut_three]
              exact kf
end
theorem termL_S {nm : Str} {f : Int} (h : nm ≠ "") : termL nm f.natAbs true = termS nm f := by
  unfold termL termS
  rw [if_neg h]
  by_cases q : f.natAbs = 1
  · rw [if_pos ⟨rfl, q⟩, if_pos q]
  · rw [if_neg (fun z => q z.2), if_neg q]
    have : Str.empty ++ numS f.natAbs = numS f.natAbs := by
      refine TL.ext_tl ?_
      rw [TL.tl_append]
      rfl
    rw [this]
theorem writS_eq {c : Int} {l : Fac} (h : ∀ p ∈ l, p.2 ≠ 0 ∧ p.1 ≠ "") : writS c l = exprS c l := by
  have e1 : prts l = l.map (fun p => (decide (p.2 < 0), termS p.1 p.2)) := by
    unfold prts
    rw [List.filter_eq_self.mpr (fun p hp => decide_eq_true (h p hp).1)]
    refine List.map_congr_left fun p hp => ?_
    unfold prtS
    rw [termL_S (h p hp).2]
  have e2 : prts (l ++ [(("" : Str), c)]) = l.map (fun p => (decide (p.2 < 0), termS p.1 p.2)) ++ (if c ≠ 0 then [(decide (c < 0), numS c.natAbs)] else []) := by
    rw [← e1]
    unfold prts
    rw [List.filter_append, List.map_append]
    congr 1
    by_cases q : c = 0
    · rw [if_neg (fun z => z q)]; simp [q]
    · rw [if_pos q]
      simp [q, prtS, termL]
  unfold writS exprS partsS
  rw [e2]
  by_cases q : c = 0
  · by_cases q2 : l = []
    · subst q; subst q2
      rw [if_neg (fun z => z rfl), if_pos (.inr rfl)]
      show ("0" : Str) = tailS _ []
      decide +kernel
    · rw [if_neg (fun z => z q), if_neg (fun z => z.elim (fun z => z q) q2)]
      cases l with
      | nil => exact absurd rfl q2
      | cons a r => rfl
  · rw [if_pos q, if_pos (.inl q)]
    cases l with
    | nil => rfl
    | cons a r => rfl

/-! ### what a name is -/
def isName (z : Str) : Bool := match z.cps.toList with
  | [] => false
  | c :: r => decide (c ∈ LET.cps.toList) && (c :: r).all al && !inV (.str z) (KWS.map V.str)
theorem isName_at {z : Str} {c : Nat} (h : z.cps.toList[0]? = some c) : isName z = (decide (c ∈ LET.cps.toList) && z.cps.toList.all al && !inV (.str z) (KWS.map V.str)) := by
  unfold isName
  cases e : z.cps.toList with
  | nil => rw [e] at h; simp at h
  | cons a r => rw [e] at h; simp at h; subst h; rfl

/-! ### _law_names -/
abbrev sNames : Stmt := topS 33
abbrev NNames : List Str := ["_law_pool_here", "_law_letter", "_law_shift", "_law_k"]
abbrev PNames : List Str := ["_law_pool_here"]
theorem scNames : FnScope NNames PNames (defScope sNames) := ⟨rfl, rfl, rfl, by decide +kernel, rfl, by decide +kernel, by decide +kernel⟩
def nm (c : Nat) (i : Int) : Str := (⟨#[c]⟩ : Str) ++ ((toString i : String) : Str)
/-- a list of names as _law_names gives it -/
structure NamesOk (ns : List Str) : Prop where
  nd : ns.Nodup
  name : ∀ n ∈ ns, isName n = true
  len : ∀ n ∈ ns, n.length ≤ 10
theorem dig_facts : ∀ k : Fin 16, ((toString ((k.val : Nat) : Int) : String) : Str).cps.toList ≠ [] ∧ (∀ c ∈ ((toString ((k.val : Nat) : Int) : String) : Str).cps.toList, c ∈ DIG.cps.toList) ∧ ((toString ((k.val : Nat) : Int) : String) : Str).cps.toList.length ≤ 2 := by decide +kernel
theorem dig_inj : ∀ k j : Fin 16, ((toString ((k.val : Nat) : Int) : String) : Str) = ((toString ((j.val : Nat) : Int) : String) : Str) → k = j := by decide +kernel
theorem mod_inj : ∀ s k j : Fin 16, (7 * k.val + s.val) % 16 = (7 * j.val + s.val) % 16 → k = j := by decide +kernel
theorem kws_let : ∀ k ∈ KWS, ∀ c ∈ k.cps.toList, c ∈ LET.cps.toList := by decide +kernel
theorem let_dig : ∀ c ∈ DIG.cps.toList, c ∉ LET.cps.toList := by decide +kernel
theorem nm_list (c : Nat) (i : Int) : (nm c i).cps.toList = c :: ((toString i : String) : Str).cps.toList := by
  show (#[c] ++ ((toString i : String) : Str).cps).toList = _
  simp
theorem nm_name {c : Nat} (hc : c ∈ LET.cps.toList) {i : Int} (h0 : 0 ≤ i) (h1 : i < 16) : isName (nm c i) = true ∧ (nm c i).length ≤ 10 := by
  have e : i = (((⟨i.toNat, by omega⟩ : _root_.Fin 16).val : Nat) : Int) := by
    show i = ((i.toNat : Nat) : Int)
    omega
  obtain ⟨d1, d2, d3⟩ := dig_facts ⟨i.toNat, by omega⟩
  rw [← e] at d1 d2 d3
  have hl := nm_list c i
  have h0 : (nm c i).cps.toList[0]? = some c := by rw [hl]; rfl
  constructor
  · rw [isName_at h0, hl]
    simp only [Bool.and_eq_true, decide_eq_true_eq, Bool.not_eq_true']
    refine ⟨⟨hc, ?_⟩, ?_⟩
    · rw [List.all_eq_true]
      intro x hx
      unfold al
      simp only [Bool.or_eq_true, decide_eq_true_eq]
      rcases List.mem_cons.mp hx with q | q
      · rw [q]; exact .inl hc
      · exact .inr (d2 x q)
    · cases q : inV (.str (nm c i)) (KWS.map V.str) with
      | false => rfl
      | true =>
        unfold inV at q
        obtain ⟨v, hv, q⟩ := List.any_eq_true.mp q
        obtain ⟨k, hk, rfl⟩ := List.mem_map.mp hv
        have q : k = nm c i := by
          have q : (k == nm c i) = true := q
          simpa using q
        obtain ⟨x, hx⟩ := List.exists_mem_of_ne_nil _ d1
        exact absurd (kws_let k hk x (by rw [q, hl]; exact List.mem_cons_of_mem _ hx)) (let_dig x (d2 x hx))
  · show (nm c i).cps.size ≤ 10
    rw [← Array.length_toList, hl, List.length_cons]
    omega
theorem nm_inj {c : Nat} {i j : Int} (i0 : 0 ≤ i) (i1 : i < 16) (j0 : 0 ≤ j) (j1 : j < 16) (h : nm c i = nm c j) : i = j := by
  have q : ((toString i : String) : Str).cps.toList = ((toString j : String) : Str).cps.toList := by
    have z := congrArg (fun z : Str => z.cps.toList) h
    simp only [nm_list] at z
    exact (List.cons.inj z).2
  have e : ((toString i : String) : Str) = ((toString j : String) : Str) := by
    have z := congrArg List.toArray q
    simp only [Array.toArray_toList] at z
    cases hx : ((toString i : String) : Str) with
    | mk a =>
      cases hy : ((toString j : String) : Str) with
      | mk b =>
        rw [hx, hy] at z
        rw [show a = b from z]
  have ei : i = (((⟨i.toNat, by omega⟩ : _root_.Fin 16).val : Nat) : Int) := by
    show i = ((i.toNat : Nat) : Int)
    omega
  have ej : j = (((⟨j.toNat, by omega⟩ : _root_.Fin 16).val : Nat) : Int) := by
    show j = ((j.toNat : Nat) : Int)
    omega
  rw [ei, ej] at e
  have f := congrArg Fin.val (dig_inj _ _ e)
  have f : i.toNat = j.toNat := f
  omega
def nms (c : Nat) (s : Int) (n : Nat) : List Str := (List.range n).map fun k => nm c ((7 * (k : Nat) + s) % 16)
theorem nms_ok {c : Nat} (hc : c ∈ LET.cps.toList) {s : Int} (s0 : 0 ≤ s) (s1 : s < 16) {n : Nat} (hn : n ≤ 16) : NamesOk (nms c s n) := by
  have b : ∀ k : Nat, 0 ≤ (7 * (k : Int) + s) % 16 ∧ (7 * (k : Int) + s) % 16 < 16 := fun k => ⟨Int.emod_nonneg _ (by decide), Int.emod_lt_of_pos _ (by decide)⟩
  refine ⟨?_, fun x hx => ?_, fun x hx => ?_⟩
  · unfold nms
    rw [List.nodup_iff_pairwise_ne, List.pairwise_map]
    refine List.Pairwise.imp_of_mem (fun {i j} hi hj hne z => hne ?_) List.nodup_range
    have hi := List.mem_range.mp hi
    have hj := List.mem_range.mp hj
    have q := nm_inj (b i).1 (b i).2 (b j).1 (b j).2 z
    have m := mod_inj ⟨s.toNat, by omega⟩ ⟨i, by omega⟩ ⟨j, by omega⟩ (by show (7 * i + s.toNat) % 16 = (7 * j + s.toNat) % 16; omega)
    exact congrArg Fin.val m
  · obtain ⟨k, _, rfl⟩ := List.mem_map.mp hx
    exact (nm_name hc (b k).1 (b k).2).1
  · obtain ⟨k, _, rfl⟩ := List.mem_map.mp hx
    exact (nm_name hc (b k).1 (b k).2).2
def spNames : Sp := fun vs H Q _ => ∃ (p c : Addr) (lim : V) (n : Nat), vs = [.ref p] ∧ PoolAt H p c lim n ∧ n < 100000000000 ∧
  ∀ (q : Addr) (ns : List Str) (H' : Hp), NamesOk ns → ns.length = 16 → PoolAt H' p c lim (n + 2) → But p c H H' → H q = none → H' q = some (.lst (ns.map V.str)) → Q (.ref q) H'
structure TxNames (mg : Str → Option Value) : Prop where
  n_str : mg "str" = none
  n_range : mg "range" = none
section
variable {P : Program} {w : World} {K : PySem.W.Frag} {mg : Str → Option Value} {base : Heap}
theorem log2_small {i : Int} (h0 : 0 ≤ i) (h1 : i < 16) : i.natAbs.log2 < 1920 := by
  have : i.natAbs.log2 ≤ i.natAbs := Nat.log2_le_self _
  omega
theorem ok_Names {f : Addr} {fd : FuncData} (F : Fun K "_law_names" "_law_names" sNames f fd) (T : TxNames mg) (GD : Has P w K mg base CX0 2 "_law_draw" PDraw spDraw) : FnOk P w K mg base CX0 3 f fd PNames spNames := by
  refine F.ok scNames (fun vs H Q E h => ?_) (fun cdv A outer s H vs Q E hr h => ?_)
  · obtain ⟨p, c, lim, n, rfl, _⟩ := h
    rfl
  · obtain ⟨p, c, lim, n, rfl, P0, hn, k⟩ := h
    refine ⟨_, (pss_cons (ps_set (i := 1) scNames.nd rfl (Or.inr rfl) (pe_ix ix_str pe_str (pe_callH GD hr rfl pass0 (pa_cons (pv 0) (pa_cons pe_int pa_nil))) (fun _ _ => rfl)))
  (pss_cons (ps_set (i := 2) scNames.nd rfl (Or.inr rfl) (pe_callH GD hr rfl pass0 (pa_cons (pv 0) (pa_cons pe_int pa_nil))))
  (pss_one (ps_ret (pe_lc (own := [("_law_k", 3)]) (g := gName 3) (tt := tYes) rfl scNames.nd (pi_range1 (by rfl) T.n_range (pa_cons pe_int pa_nil)) (blkOk_by (own := [("_law_k", 3)]) (N := NNames) (sc := (defScope sNames)) (by decide +kernel)) (fun _ _ _ _ _ => (pg_name (i := 3) scNames.nd rfl (Or.inl rfl))) (fun _ _ _ _ _ => pts_nil) (fun _ _ _ _ _ => (pe_op op_add_str (pv 1) (pe_callTy call_str_int (by rfl) T.n_str bb_str (pa_cons (pe_op op_mod (pe_op op_add (pe_op op_mul pe_int (pv 3)) (pv 2)) pe_int) pa_nil))))))))), ?_⟩
    refine ⟨_, rfl, p, c, lim, n, 26, rfl, P0, by omega, by decide, by decide, fun r H1 r0 r1 P1 b1 => ?_⟩
    obtain ⟨lc, hlc, mlc⟩ := atI_in (xs := LET.cps.toList) r0 (by rw [show LET.cps.toList.length = 26 by decide +kernel]; exact r1)
    refine ⟨_, _, lc, rfl, rfl, by decide +kernel, hlc, ?_⟩
    refine ⟨_, rfl, p, c, lim, n + 1, 16, rfl, P1, by omega, by decide, by decide, fun sh H2 s0 s1 P2 b2 => ?_⟩
    refine ⟨16, rfl, by decide, by decide, fun D hD => ?_⟩
    have Dp := P2.ne1 hD
    have Dc := P2.ne2 hD
    refine lc_range (lo := 0) (n := 16) (fun i H' => Same H2 H' ∧ H' D = some (.lst ((nms lc sh i).map V.str))) ⟨same_new hD, upd_same⟩ ?_ ?_
    · rintro i H3 hi ⟨s3, e3⟩
      have b : 0 ≤ (7 * (0 + (i : Int)) + sh) % 16 ∧ (7 * (0 + (i : Int)) + sh) % 16 < 16 := ⟨Int.emod_nonneg _ (by decide), Int.emod_lt_of_pos _ (by decide)⟩
      refine ⟨rfl, _, rfl, _, rfl, _, _, rfl, rfl, .inl ⟨by decide, by decide⟩, _, rfl, _, _, rfl, rfl, _, _, rfl, rfl, (show (0 : Int) < 16 by decide), _, rfl, log2_small b.1 b.2, _, _, rfl, rfl, ?_, _, e3, small1000 ?_, fun b o z => ?_, ?_⟩
      · have q := (nm_name mlc b.1 b.2).2
        unfold nm at q
        rw [str_app_len] at q
        exact Nat.le_trans q (by decide)
      · unfold nms
        rw [List.length_map, List.length_map, List.length_range]
        omega
      · rw [upd_ne (ne_of_none z hD)]
        exact s3 b o z
      · rw [upd_same]
        unfold nms
        rw [List.range_succ, List.map_append, List.map_append]
        show some (HO.lst (_ ++ [V.str (nm lc ((7 * (0 + (i : Int)) + sh) % 16))])) = _
        rw [Int.zero_add]
        rfl
    · rintro H3 ⟨s3, e3⟩
      have hD0 : H D = none := by
        cases q : H D with
        | none => rfl
        | some o => rw [b2 D o (b1 D o q Dp Dc) Dp Dc] at hD; cases hD
      refine k D _ H3 (nms_ok mlc s0 s1 (Nat.le_refl 16)) (by unfold nms; rw [List.length_map, List.length_range]) (P2.same s3) (fun b o z h1 h2 => s3 b o (b2 b o (b1 b o z h1 h2) h1 h2)) hD0 e3
end

/-! ### the tokens of the law's text -/
abbrev SH := List (Str × Str)
def shOf (ts : List TK) : SH := ts.map fun k => (k.1, k.2.1)
def Tks (t : List Nat) (sh : SH) : Prop := ∀ p : List Nat, ∃ ts : List TK, shOf ts = sh ∧ Tkz (p ++ t) p.length ts
theorem Tks.nil : Tks [] [("end", "")] := fun p => ⟨[(("end", "", p.length) : TK)], rfl, .fin (by rw [List.append_nil])⟩
theorem mid_get (p t : List Nat) (c : Nat) : (p ++ c :: t)[p.length]? = some c := by
  rw [List.getElem?_append_right (Nat.le_refl _), Nat.sub_self]
  rfl
theorem Tks.gap {t : List Nat} {sh : SH} (h : Tks t sh) : Tks (32 :: t) sh := fun p => by
  obtain ⟨ts, e, k⟩ := h (p ++ [32])
  rw [List.append_assoc, List.length_append] at k
  exact ⟨ts, e, .gap (mid_get p t 32) (.inl rfl) k⟩
theorem Tks.gaps {t : List Nat} {sh : SH} (h : Tks t sh) : ∀ n, Tks (List.replicate n 32 ++ t) sh
  | 0 => h
  | n + 1 => (Tks.gaps h n).gap
theorem Tks.sign {t : List Nat} {sh : SH} {c : Nat} (hc : c ∈ SIG.cps.toList) (h : Tks t sh) : Tks (c :: t) (("mark", (⟨#[c]⟩ : Str)) :: sh) := fun p => by
  obtain ⟨ts, e, k⟩ := h (p ++ [c])
  rw [List.append_assoc, List.length_append] at k
  exact ⟨(("mark", ⟨#[c]⟩, p.length) : TK) :: ts, by rw [← e]; rfl, .sign (mid_get p t c) hc k⟩
def NoAl (t : List Nat) : Prop := ∀ c, t[0]? = some c → al c = false
theorem let_plain : ∀ c ∈ LET.cps.toList, c ≠ 32 ∧ c ≠ 10 ∧ c ∉ SIG.cps.toList := by decide +kernel
theorem dig_plain : ∀ c ∈ DIG.cps.toList, c ≠ 32 ∧ c ≠ 10 ∧ c ∉ SIG.cps.toList := by decide +kernel
theorem al_plain {c : Nat} (h : al c = true) : Plain c := by
  unfold al at h
  rw [Bool.or_eq_true, decide_eq_true_eq, decide_eq_true_eq] at h
  rcases h with h | h
  · exact let_plain c h
  · exact dig_plain c h
theorem Tks.word {w t : List Nat} {sh : SH} (hw : w ≠ []) (ha : ∀ c ∈ w, al c = true) (hk : kindOf ⟨w.toArray⟩ ≠ "bad") (hn : NoAl t) (h : Tks t sh) : Tks (w ++ t) ((kindOf ⟨w.toArray⟩, (⟨w.toArray⟩ : Str)) :: sh) := fun p => by
  obtain ⟨ts, e, k⟩ := h (p ++ w)
  rw [List.append_assoc, List.length_append] at k
  have wl : 0 < w.length := List.length_pos_iff.mpr hw
  have cut : cutT (p ++ (w ++ t)) p.length (p.length + w.length) = ⟨w.toArray⟩ := by
    unfold cutT
    rw [List.drop_left, Nat.add_sub_cancel_left, List.take_left]
  have at_w : ∀ x, p.length ≤ x → x < p.length + w.length → (p ++ (w ++ t))[x]? = w[x - p.length]? := fun x h1 h2 => by
    rw [List.getElem?_append_right h1, List.getElem?_append_left (by omega)]
  obtain ⟨c, hc⟩ : ∃ c, w[0]? = some c := ⟨_, List.getElem?_eq_getElem wl⟩
  have run : Run (p ++ (w ++ t)) p.length (p.length + w.length) := by
    refine ⟨by omega, by rw [List.length_append, List.length_append]; omega, fun x h1 h2 => ?_, fun c hc => ?_⟩
    · have hx : x - p.length < w.length := by omega
      exact ⟨_, by rw [at_w x h1 h2]; exact List.getElem?_eq_getElem hx, ha _ (List.getElem_mem hx)⟩
    · rw [List.getElem?_append_right (by omega), Nat.add_sub_cancel_left, List.getElem?_append_right (Nat.le_refl _), Nat.sub_self] at hc
      exact hn c hc
  have tk := Tkz.word (t := p ++ (w ++ t)) (a := p.length) (j := p.length + w.length) (c := c) (by rw [at_w _ (Nat.le_refl _) (by omega), Nat.sub_self]; exact hc) (al_plain (ha c (List.mem_of_getElem? hc))) run (by omega) (by rw [cut]; exact hk) k
  rw [cut] at tk
  exact ⟨_, by rw [← e]; rfl, tk⟩
theorem str_tl (z : Str) : (⟨(TL.tl z).toArray⟩ : Str) = z := TL.ext_tl rfl
/-- a name -/
theorem name_al {x : Str} (h : isName x = true) : TL.tl x ≠ [] ∧ (∀ c ∈ TL.tl x, al c = true) ∧ kindOf x = "name" := by
  unfold isName at h
  cases e : x.cps.toList with
  | nil => rw [e] at h; cases h
  | cons c r =>
    rw [e] at h
    simp only [Bool.and_eq_true, decide_eq_true_eq, Bool.not_eq_true'] at h
    obtain ⟨⟨h1, h2⟩, h3⟩ := h
    refine ⟨by rw [show TL.tl x = c :: r from e]; simp, fun d hd => ?_, ?_⟩
    · rw [show TL.tl x = c :: r from e] at hd
      exact List.all_eq_true.mp h2 d hd
    · unfold kindOf
      rw [h3, if_neg (by decide), e]
      simp only
      rw [if_pos h1]
theorem tks_name {x : Str} {t : List Nat} {sh : SH} (hx : isName x = true) (hn : NoAl t) (h : Tks t sh) : Tks (TL.tl x ++ t) (("name", x) :: sh) := by
  obtain ⟨h1, h2, h3⟩ := name_al hx
  have := Tks.word h1 h2 (by rw [str_tl, h3]; decide +kernel) hn h
  rw [str_tl, h3] at this
  exact this
/-- a number -/
theorem numL_zero (n : Nat) : ∀ c r, TL.numL n = c :: r → c = 48 → n = 0 := by
  induction n using Nat.strongRecOn with
  | ind n ih =>
    intro c r e h
    by_cases h1 : n < 10
    · rw [TL.numL_lt h1] at e
      injection e with e _
      omega
    · rw [TL.numL_step (by omega)] at e
      cases q : TL.numL (n / 10) with
      | nil => exact absurd q (TL.numL_ne _)
      | cons d s =>
        rw [q] at e
        injection e with e _
        have := ih (n / 10) (by omega) d s q (by rw [e]; exact h)
        omega
theorem dig_mem : ∀ k : Fin 10, 48 + k.val ∈ DIG.cps.toList ∧ 48 + k.val ∉ LET.cps.toList := by decide +kernel
theorem num_kind (n : Nat) : TL.tl (numS n) ≠ [] ∧ (∀ c ∈ TL.tl (numS n), al c = true) ∧ kindOf (numS n) = "number" := by
  have e : TL.tl (numS n) = TL.numL n := TL.tl_num n
  have dg' : ∀ c ∈ TL.numL n, c ∈ DIG.cps.toList ∧ c ∉ LET.cps.toList := fun c hc => by
    have := TL.numL_digits n c hc
    have q := dig_mem ⟨c - 48, by omega⟩
    have e : 48 + (c - 48) = c := by omega
    rw [show (48 + (⟨c - 48, by omega⟩ : _root_.Fin 10).val) = c from e] at q
    exact q
  refine ⟨by rw [e]; exact TL.numL_ne n, fun c hc => ?_, ?_⟩
  · rw [e] at hc
    unfold al
    rw [decide_eq_true (dg' c hc).1, Bool.or_true]
  · have nk : inV (.str (numS n)) (KWS.map V.str) = false := by
      cases q : inV (.str (numS n)) (KWS.map V.str) with
      | false => rfl
      | true =>
        unfold inV at q
        obtain ⟨v, hv, q⟩ := List.any_eq_true.mp q
        obtain ⟨k, hk, rfl⟩ := List.mem_map.mp hv
        have q : k = numS n := by
          have q : (k == numS n) = true := q
          simpa using q
        obtain ⟨x, hx⟩ := List.exists_mem_of_ne_nil _ (TL.numL_ne n)
        exact absurd (kws_let k hk x (by rw [q]; show x ∈ TL.tl (numS n); rw [e]; exact hx)) (dg' x hx).2
    unfold kindOf
    rw [nk, if_neg (by decide), show (numS n).cps.toList = TL.numL n from e]
    cases q : TL.numL n with
    | nil => exact absurd q (TL.numL_ne n)
    | cons c r =>
      rw [q] at dg'
      simp only
      rw [if_neg (dg' c List.mem_cons_self).2, if_neg, if_neg]
      · rintro ⟨h1, h2⟩
        have z := numL_zero n c r q h1
        subst z
        rw [TL.numL_lt (by decide)] at q
        injection q with _ q
        rw [← q] at h2
        exact absurd h2 (by show ¬ 1 < 1; decide)
      · rw [Bool.not_eq_false, List.all_eq_true]
        intro d hd
        unfold dg
        rw [decide_eq_true (dg' d hd).1]
theorem tks_num {n : Nat} {t : List Nat} {sh : SH} (hn : NoAl t) (h : Tks t sh) : Tks (TL.tl (numS n) ++ t) (("number", numS n) :: sh) := by
  obtain ⟨h1, h2, h3⟩ := num_kind n
  have := Tks.word h1 h2 (by rw [str_tl, h3]; decide +kernel) hn h
  rw [str_tl, h3] at this
  exact this
theorem noAl_gap {t : List Nat} : NoAl (32 :: t) := fun c h => by cases h; decide +kernel
theorem noAl_nil : NoAl [] := fun c h => by cases h
/-- terms as they are written -/
structure Trm where
  sg : Bool
  nm : Option Str
  n : Nat
  b : Bool
  g : Nat
def trmL (t : Trm) : List Nat := TL.tl (termL (t.nm.getD "") t.n t.b)
def sgL (b : Bool) : Nat := if b = true then 45 else 43
def pieceL (first : Bool) (t : Trm) : List Nat := List.replicate t.g 32 ++ ((if first = false ∨ t.sg = true then [sgL t.sg] else []) ++ (List.replicate t.g 32 ++ trmL t))
def bodyL : Bool → List Trm → List Nat
  | _, [] => []
  | f, t :: r => pieceL f t ++ bodyL false r
def shT (t : Trm) : SH := match t.nm with
  | none => [("number", numS t.n)]
  | some x => if t.b = true ∧ t.n = 1 then [("name", x)] else [("number", numS t.n), ("mark", "*"), ("name", x)]
def shP (first : Bool) (t : Trm) : SH := (if first = false ∨ t.sg = true then [(("mark", ⟨#[sgL t.sg]⟩) : Str × Str)] else []) ++ shT t
def shB : Bool → List Trm → SH
  | _, [] => []
  | f, t :: r => shP f t ++ shB false r
def TrmOk (t : Trm) : Prop := t.n < 10 ^ 12 ∧ ∀ x, t.nm = some x → isName x = true
theorem name_ne {x : Str} (h : isName x = true) : x ≠ "" := fun z => by
  have := (name_al h).1
  rw [z] at this
  exact this (by decide +kernel)
theorem tl_star : TL.tl ("*" : Str) = [42] := by decide +kernel
theorem star_mk : ("*" : Str) = ⟨#[42]⟩ := by decide +kernel
theorem tks_term {t : Trm} (ok : TrmOk t) {rest : List Nat} {sh : SH} (hn : NoAl rest) (h : Tks rest sh) : Tks (trmL t ++ rest) (shT t ++ sh) := by
  unfold trmL shT termL
  cases e : t.nm with
  | none =>
    rw [if_pos (show (none : Option Str).getD "" = "" from rfl)]
    exact tks_num hn h
  | some x =>
    have hx := ok.2 x e
    rw [if_neg (show ¬ (some x).getD "" = "" from name_ne hx)]
    simp only [Option.getD_some]
    by_cases q : t.b = true ∧ t.n = 1
    · rw [if_pos q, if_pos q]
      exact tks_name hx hn h
    · rw [if_neg q, if_neg q, TL.tl_append, TL.tl_append, tl_star, List.append_assoc, List.append_assoc]
      have h1 := tks_name hx hn h
      have h2 := Tks.sign (c := 42) (by decide +kernel) h1
      rw [← star_mk] at h2
      exact tks_num (fun c h => by cases h; decide +kernel) h2
theorem tks_piece {t : Trm} (ok : TrmOk t) {first : Bool} {rest : List Nat} {sh : SH} (hn : NoAl rest) (h : Tks rest sh) : Tks (pieceL first t ++ rest) (shP first t ++ sh) := by
  unfold pieceL shP
  rw [List.append_assoc, List.append_assoc, List.append_assoc, List.append_assoc]
  refine Tks.gaps ?_ _
  have h1 := (tks_term ok hn h).gaps t.g
  by_cases q : first = false ∨ t.sg = true
  · rw [if_pos q, if_pos q]
    refine Tks.sign ?_ h1
    unfold sgL
    split <;> decide +kernel
  · rw [if_neg q, if_neg q]
    exact h1
theorem tks_body : ∀ (r : List Trm) (first : Bool), (∀ t ∈ r, TrmOk t) → Tks (bodyL first r) (shB first r ++ [((("end", "") : Str × Str))])
  | [], _, _ => Tks.nil
  | t :: r, first, ok => by
    have ih := tks_body r false fun x hx => ok x (List.mem_cons_of_mem _ hx)
    show Tks (pieceL first t ++ bodyL false r) (shP first t ++ shB false r ++ _)
    rw [List.append_assoc]
    refine tks_piece (ok t List.mem_cons_self) ?_ ih
    cases r with
    | nil => exact noAl_nil
    | cons t2 r2 =>
      intro c hc
      have hc : (pieceL false t2 ++ bodyL false r2)[0]? = some c := hc
      unfold pieceL at hc
      rw [if_pos (.inl rfl)] at hc
      cases eg : t2.g with
      | zero =>
        rw [eg] at hc
        cases hc
        unfold sgL
        split <;> decide +kernel
      | succ n => rw [eg] at hc; cases hc; decide +kernel
/-! the reading of those tokens -/
theorem sh_at {ts : List TK} {i : Nat} {x : Str × Str} {rest : SH} (h : (shOf ts).drop i = x :: rest) : (∃ a, ts[i]? = some ((x.1, x.2, a) : TK)) ∧ (shOf ts).drop (i + 1) = rest := by
  have h0 : (shOf ts)[i]? = some x := by
    have := congrArg (fun l : SH => l[0]?) h
    simp only [List.getElem?_drop] at this
    exact this
  refine ⟨?_, ?_⟩
  · unfold shOf at h0
    rw [List.getElem?_map] at h0
    cases e : ts[i]? with
    | none => rw [e] at h0; cases h0
    | some tk =>
      rw [e] at h0
      have h0 : (tk.1, tk.2.1) = x := Option.some.inj h0
      exact ⟨tk.2.2, by rw [← h0]⟩
  · rw [← List.drop_drop, h]
    rfl
def tmT (t : Trm) : Tm := (t.sg, t.nm, (t.n : Int))
theorem mark_ne {k wd z : Str} {a : Nat} (h : k ≠ "mark") : isMark ((k, z, a) : TK) wd = false := by
  unfold isMark
  rw [decide_eq_false h]
  rfl
theorem mark_no {wd z : Str} {a : Nat} (h : z ≠ wd) : isMark (("mark", z, a) : TK) wd = false := by
  unfold isMark
  rw [decide_eq_false h, Bool.and_false]
theorem mark_yes {z : Str} {a : Nat} : isMark (("mark", z, a) : TK) z = true := by
  unfold isMark
  rw [decide_eq_true rfl, decide_eq_true rfl]
  rfl
theorem num_len {n : Nat} (h : n < 10 ^ 12) : (numS n).length ≤ 12 := by
  rw [TL.len_tl, show TL.tl (numS n) = TL.numL n from TL.tl_num n]
  exact TL.numL_len (by decide) h
theorem num_int {n : Nat} (h : n < 10 ^ 12) : PySem.intText? (numS n) = some (n : Int) := by
  have := TL.numL_len (k := 12) (by decide) h
  exact TL.int_num (by omega)
theorem term_at {ts : List TK} {t : Trm} (ok : TrmOk t) {i : Nat} {y : Str × Str} {rest : SH} (hy : ∀ a, isMark ((y.1, y.2, a) : TK) "*" = false) (h : (shOf ts).drop i = shT t ++ y :: rest) : ∃ j, TermAt ts i t.nm t.n j ∧ (shOf ts).drop j = y :: rest := by
  unfold shT at h
  cases e : t.nm with
  | none =>
    rw [e] at h
    obtain ⟨⟨a, h1⟩, h2⟩ := sh_at h
    obtain ⟨⟨b, h3⟩, _⟩ := sh_at h2
    exact ⟨i + 1, .num h1 (num_len ok.1) (num_int ok.1) h3 (hy b), h2⟩
  | some x =>
    rw [e] at h
    simp only at h
    by_cases q : t.b = true ∧ t.n = 1
    · rw [if_pos q] at h
      obtain ⟨⟨a, h1⟩, h2⟩ := sh_at h
      rw [q.2]
      exact ⟨i + 1, .name h1, h2⟩
    · rw [if_neg q] at h
      obtain ⟨⟨a, h1⟩, h2⟩ := sh_at h
      obtain ⟨⟨b, h3⟩, h4⟩ := sh_at h2
      obtain ⟨⟨c, h5⟩, h6⟩ := sh_at h4
      exact ⟨i + 1 + 1 + 1, .mul h1 (num_len ok.1) (num_int ok.1) h3 mark_yes h5, h6⟩
theorem plus_mk : (⟨#[43]⟩ : Str) = "+" := by decide +kernel
theorem minus_mk : (⟨#[45]⟩ : Str) = "-" := by decide +kernel
theorem terms_at {ts : List TK} : ∀ (r : List Trm) (t : Trm) (i : Nat), (∀ x ∈ t :: r, TrmOk x) → (shOf ts).drop i = shT t ++ (shB false r ++ [((("end", "") : Str × Str))]) → ∃ e a, TmsAt ts i t.sg ((t :: r).map tmT) e ∧ ts[e]? = some (("end", "", a) : TK)
  | [], t, i, ok, h => by
    obtain ⟨j, h1, h2⟩ := term_at (ok t List.mem_cons_self) (y := ("end", "")) (fun a => end_mark _ _ _) h
    obtain ⟨⟨a, h3⟩, _⟩ := sh_at h2
    exact ⟨j, a, .last h1 h3 (end_mark _ _ _) (end_mark _ _ _), h3⟩
  | t2 :: r, t, i, ok, h => by
    have h : (shOf ts).drop i = shT t ++ (((("mark", ⟨#[sgL t2.sg]⟩) : Str × Str)) :: (shT t2 ++ (shB false r ++ [((("end", "") : Str × Str))]))) := by
      rw [h]
      show shT t ++ ((shP false t2 ++ shB false r) ++ _) = _
      unfold shP
      rw [if_pos (.inl rfl), List.append_assoc, List.append_assoc]
      rfl
    obtain ⟨j, h1, h2⟩ := term_at (ok t List.mem_cons_self) (y := ("mark", ⟨#[sgL t2.sg]⟩)) (fun a => mark_no (by unfold sgL; split <;> decide +kernel)) h
    obtain ⟨⟨a, h3⟩, h4⟩ := sh_at h2
    obtain ⟨e, b, h5, h6⟩ := terms_at r t2 (j + 1) (fun x hx => ok x (List.mem_cons_of_mem _ hx)) h4
    refine ⟨e, b, ?_, h6⟩
    cases q : t2.sg with
    | true =>
      rw [q] at h5 h3
      have h3 : ts[j]? = some (("mark", "-", a) : TK) := by rw [← minus_mk]; exact h3
      exact .minus h1 h3 (mark_no (by decide +kernel)) mark_yes h5
    | false =>
      rw [q] at h5 h3
      have h3 : ts[j]? = some (("mark", "+", a) : TK) := by rw [← plus_mk]; exact h3
      exact .plus h1 h3 mark_yes h5
theorem shT_head (t : Trm) : ∃ k z r, shT t = (k, z) :: r ∧ k ≠ "mark" := by
  unfold shT
  cases t.nm with
  | none => exact ⟨_, _, _, rfl, by decide +kernel⟩
  | some x =>
    simp only
    split
    · exact ⟨_, _, _, rfl, by decide +kernel⟩
    · exact ⟨_, _, _, rfl, by decide +kernel⟩
theorem expr_at {ts : List TK} (t : Trm) (r : List Trm) (i : Nat) (ok : ∀ x ∈ t :: r, TrmOk x) (h : (shOf ts).drop i = shB true (t :: r) ++ [((("end", "") : Str × Str))]) : ∃ e a, ExpAt ts i ((t :: r).map tmT) e ∧ ts[e]? = some (("end", "", a) : TK) := by
  have h : (shOf ts).drop i = shP true t ++ (shB false r ++ [((("end", "") : Str × Str))]) := by rw [h]; show (shP true t ++ shB false r) ++ _ = _; rw [List.append_assoc]
  unfold shP at h
  cases q : t.sg with
  | true =>
    rw [q, if_pos (.inr rfl), List.append_assoc] at h
    obtain ⟨⟨a, h1⟩, h2⟩ := sh_at h
    obtain ⟨e, b, h3, h4⟩ := terms_at r t (i + 1) ok h2
    rw [q] at h3
    exact ⟨e, b, ⟨_, h1, .inl ⟨by rw [show sgL true = 45 from rfl, minus_mk]; exact mark_yes, h3⟩⟩, h4⟩
  | false =>
    rw [q, if_neg (by rintro (z | z) <;> cases z), List.nil_append] at h
    obtain ⟨e, b, h3, h4⟩ := terms_at r t i ok h
    obtain ⟨k, z, s, h5, h6⟩ := shT_head t
    rw [h5] at h
    obtain ⟨⟨a, h1⟩, _⟩ := sh_at h
    rw [q] at h3
    exact ⟨e, b, ⟨_, h1, .inr ⟨mark_ne h6, h3⟩⟩, h4⟩

/-! ### the whole text -/
theorem tkz_len {t : List Nat} {a : Nat} {ts : List TK} (h : Tkz t a ts) : ts.length + a ≤ t.length + 1 := by
  induction h with
  | fin h => show 1 + _ ≤ _; omega
  | gap h hc r ih => omega
  | sign h hc r ih => show _ + 1 + _ ≤ _; omega
  | word h hg run lt k r ih => show _ + 1 + _ ≤ _; omega
  | bad h hg run b => have := (List.getElem?_eq_some_iff.mp h).1; show 1 + _ ≤ _; omega
theorem tks_names {t : List Nat} {sh : SH} (h : Tks t sh) : ∀ ns : List Str, ns ≠ [] → (∀ n ∈ ns, isName n = true) → Tks (TL.joinL [32] (ns.map TL.tl) ++ 32 :: t) (ns.map (fun n => ((("name", n) : Str × Str))) ++ sh)
  | [], hn, _ => absurd rfl hn
  | [x], _, hx => tks_name (hx x List.mem_cons_self) noAl_gap h.gap
  | x :: y :: r, _, hx => by
    have ih := tks_names h (y :: r) (by simp) fun n hn => hx n (List.mem_cons_of_mem _ hn)
    have e : TL.joinL [32] ((x :: y :: r).map TL.tl) = TL.tl x ++ ([32] ++ TL.joinL [32] ((y :: r).map TL.tl)) := rfl
    rw [e, List.append_assoc, List.append_assoc]
    exact tks_name (hx x List.mem_cons_self) noAl_gap ih.gap
def textL (ns : List Str) (r : List Trm) : List Nat := TL.tl "globals" ++ 32 :: (TL.joinL [32] (ns.map TL.tl) ++ 32 :: (TL.tl "keep" ++ 32 :: bodyL true r))
theorem kw_al : (∀ c ∈ TL.tl ("globals" : Str), al c = true) ∧ (∀ c ∈ TL.tl ("keep" : Str), al c = true) := by decide +kernel
theorem kw_kind : kindOf "globals" = "mark" ∧ kindOf "keep" = "mark" := by decide +kernel
theorem tks_kw {x : Str} {t : List Nat} {sh : SH} (h1 : TL.tl x ≠ []) (h2 : ∀ c ∈ TL.tl x, al c = true) (h3 : kindOf x = "mark") (hn : NoAl t) (h : Tks t sh) : Tks (TL.tl x ++ t) (("mark", x) :: sh) := by
  have := Tks.word h1 h2 (by rw [str_tl, h3]; decide +kernel) hn h
  rw [str_tl, h3] at this
  exact this
theorem prog_at {ns : List Str} {t : Trm} {r : List Trm} (n0 : ns ≠ []) (n1 : ns.length ≤ 1000) (hn : ∀ n ∈ ns, isName n = true) (ok : ∀ x ∈ t :: r, TrmOk x) (lr : r.length < 49) {z : Str} (ez : TL.tl z = textL ns (t :: r)) :
    ∃ ts, Tkz z.cps.toList 0 ts ∧ ts.length ≤ z.length + 1 ∧ ProgAt ts ns ((t :: r).map tmT) := by
  have h1 := tks_kw (x := "keep") (by decide +kernel) kw_al.2 kw_kind.2 noAl_gap (tks_body (t :: r) true ok).gap
  have h2 := tks_kw (x := "globals") (by decide +kernel) kw_al.1 kw_kind.1 noAl_gap (tks_names h1 ns n0 hn).gap
  obtain ⟨ts, e, k⟩ := h2 []
  have k : Tkz z.cps.toList 0 ts := by rw [show z.cps.toList = TL.tl z from rfl, ez]; exact k
  have kl := tkz_len k
  refine ⟨ts, k, by rw [TL.len_tl]; exact kl, ?_⟩
  have eg : (shOf ts).drop 0 = (("mark", "globals") : Str × Str) :: (ns.map (fun n => ((("name", n) : Str × Str))) ++ ((("mark", "keep") : Str × Str) :: (shB true (t :: r) ++ [((("end", "") : Str × Str))]))) := e
  obtain ⟨⟨a, g1⟩, g2⟩ := sh_at eg
  have nm : NamesAt ts 1 ns := fun i x hi => by
    have hl : i < ns.length := (List.getElem?_eq_some_iff.mp hi).1
    have q : (shOf ts)[1 + i]? = some (("name", x) : Str × Str) := by
      rw [← List.getElem?_drop, g2, List.getElem?_append_left (by rw [List.length_map]; exact hl), List.getElem?_map, hi]
      rfl
    unfold shOf at q
    rw [List.getElem?_map] at q
    cases e : ts[1 + i]? with
    | none => rw [e] at q; cases q
    | some tk =>
      rw [e] at q
      have q : (tk.1, tk.2.1) = ((("name", x) : Str × Str)) := Option.some.inj q
      obtain ⟨q1, q2⟩ := Prod.mk.inj q
      exact ⟨tk.2.2, by rw [← q1, ← q2]⟩
  have g3 : (shOf ts).drop (1 + ns.length) = (("mark", "keep") : Str × Str) :: (shB true (t :: r) ++ [((("end", "") : Str × Str))]) := by
    rw [← List.drop_drop, g2]
    exact List.drop_left' (List.length_map _)
  obtain ⟨⟨b, k1⟩, k2⟩ := sh_at g3
  obtain ⟨e, c, x1, x2⟩ := expr_at t r _ ok k2
  exact ⟨List.length_pos_iff.mpr n0, n1, ⟨_, g1, mark_yes⟩, nm, ⟨_, k1, by show ¬ (("mark" : Str) = "name"); decide +kernel, mark_no (by decide +kernel), mark_yes⟩, ⟨e, c, x1, x2⟩, by rw [List.length_map]; show r.length + 1 < 50; omega⟩
/-! ### sums -/
theorem getF_addF (fs : Fac) (x : Str) (v : Int) (y : Str) : getF (addF fs x v) y = if y = x then getF fs x + v else getF fs y := by
  unfold addF
  by_cases h : (fs.any fun p => decide (p.1 = x)) = true
  · rw [if_pos h]
    have hm : (fs.map fun p => if p.1 = x then (p.1, p.2 + v) else p).find? (fun p => decide (p.1 = y)) = (fs.find? fun p => decide (p.1 = y)).map fun p => if p.1 = x then (p.1, p.2 + v) else p := by
      rw [List.find?_map]
      congr 1
      congr 1
      funext p
      show decide ((if p.1 = x then (p.1, p.2 + v) else p).1 = y) = decide (p.1 = y)
      split <;> rfl
    unfold getF
    rw [hm]
    by_cases q : y = x
    · rw [if_pos q]
      subst q
      cases e : fs.find? fun p => decide (p.1 = y) with
      | none =>
        obtain ⟨p, hp, hx⟩ := List.any_eq_true.mp h
        exact absurd hx (List.find?_eq_none.mp e p hp)
      | some p =>
        have := List.find?_some e
        have this : p.1 = y := of_decide_eq_true this
        show (if p.1 = y then (p.1, p.2 + v) else p).2 = p.2 + v
        rw [if_pos this]
    · rw [if_neg q]
      cases e : fs.find? fun p => decide (p.1 = y) with
      | none => rfl
      | some p =>
        have := List.find?_some e
        have this : p.1 = y := of_decide_eq_true this
        show (if p.1 = x then (p.1, p.2 + v) else p).2 = p.2
        rw [if_neg (fun z => q (this.symm.trans z))]
  · rw [if_neg h]
    unfold getF
    rw [List.find?_append]
    have hn : (fs.find? fun p => decide (p.1 = x)) = none := by
      rw [List.find?_eq_none]
      intro p hp e
      exact h (List.any_eq_true.mpr ⟨p, hp, e⟩)
    by_cases q : y = x
    · rw [if_pos q]
      subst q
      rw [hn]
      show (((([(y, v)] : Fac).find? fun p => decide (p.1 = y)).map (·.2)).getD 0) = 0 + v
      rw [List.find?_cons, decide_eq_true rfl, Int.zero_add]
      rfl
    · rw [if_neg q]
      have : (([(x, v)] : Fac).find? fun p => decide (p.1 = y)) = none := by
        rw [List.find?_cons, decide_eq_false (fun z => q z.symm)]
        rfl
      rw [this, Option.or_none]
theorem set_sums {ns : List Str} (nd : ns.Nodup) {fs : Fac} {c v : Int} {j : Nat} {x : Str} (h : ns[j]? = some x) : (ns.map (getF fs) ++ [c]).set j (getF fs x + v) = ns.map (getF (addF fs x v)) ++ [c] := by
  have hj : j < ns.length := (List.getElem?_eq_some_iff.mp h).1
  rw [List.set_append_left _ _ (by rw [List.length_map]; exact hj)]
  congr 1
  refine List.ext_getElem? fun i => ?_
  rw [List.getElem?_set, List.getElem?_map, List.getElem?_map, List.length_map]
  by_cases q : j = i
  · subst q
    rw [if_pos rfl, if_pos hj, h]
    show some _ = some (getF (addF fs x v) x)
    rw [getF_addF, if_pos rfl]
  · rw [if_neg q]
    cases e : ns[i]? with
    | none => rfl
    | some y =>
      have : y ≠ x := fun z => by
        subst z
        exact q ((List.getElem?_inj hj nd).mp (h.trans e.symm))
      show some (getF fs y) = some (getF (addF fs x v) y)
      rw [getF_addF, if_neg this]
theorem set_last {ns : List Str} {fs : Fac} {c v : Int} : (ns.map (getF fs) ++ [c]).set ns.length v = ns.map (getF fs) ++ [v] := by
  have := List.set_append_right (s := ns.map (getF fs)) (t := [c]) ns.length v (by rw [List.length_map]; exact Nat.le_refl _)
  rw [this, List.length_map, Nat.sub_self]
  rfl
/-! ### sorted names -/
theorem le_tr {a b c : List Nat} (h1 : ¬ b < a) (h2 : ¬ c < b) : ¬ c < a := fun h => (List.le_trans (α := Nat) h1 h2) h
theorem rising_pw : ∀ (l : List Str) (p : Str), PyProof.Rows.risingS p l = true → (p :: l).Pairwise fun a b => ¬ b.cps.toList < a.cps.toList
  | [], p, _ => List.pairwise_singleton _ _
  | x :: r, p, h => by
    have h : (!PySem.Spec.ltCps x.cps.toList p.cps.toList && PyProof.Rows.risingS x r) = true := h
    rw [Bool.and_eq_true, Bool.not_eq_true', PyProof.Rows.ltCps_eq, decide_eq_false_iff_not] at h
    have ih := rising_pw r x h.2
    refine List.pairwise_cons.mpr ⟨fun y hy => ?_, ih⟩
    rcases List.mem_cons.mp hy with rfl | hy
    · exact h.1
    · exact le_tr h.1 ((List.pairwise_cons.mp ih).1 y hy)
theorem sorted_pw {l : List Str} (h : PyProof.Rows.sortedS l = true) : l.Pairwise fun a b => ¬ b.cps.toList < a.cps.toList := by
  cases l with
  | nil => exact .nil
  | cons x r => exact rising_pw r x h
theorem sorted_uniq {l m : List Str} (h1 : PyProof.Rows.sortedS l = true) (h2 : PyProof.Rows.sortedS m = true) (p : Str → Bool) (d1 : l.Nodup) (d2 : m.Nodup) (h : ∀ x, p x = true → (x ∈ l ↔ x ∈ m)) : l.filter p = m.filter p := by
  refine List.Perm.eq_of_pairwise (le := fun a b : Str => ¬ b.cps.toList < a.cps.toList) (fun a b _ _ q1 q2 => TL.ext_tl (List.le_antisymm (α := Nat) q1 q2)) ((sorted_pw h1).filter _) ((sorted_pw h2).filter _) ?_
  refine (List.perm_ext_iff_of_nodup (d1.filter _) (d2.filter _)).mpr fun x => ?_
  rw [List.mem_filter, List.mem_filter]
  exact ⟨fun q => ⟨(h x q.2).mp q.1, q.2⟩, fun q => ⟨(h x q.2).mpr q.1, q.2⟩⟩
theorem getF_none {fs : Fac} {x : Str} (h : x ∉ fs.map (·.1)) : getF fs x = 0 := by
  unfold getF
  have : (fs.find? fun p => decide (p.1 = x)) = none := by
    rw [List.find?_eq_none]
    intro p hp e
    exact h (List.mem_map.mpr ⟨p, hp, of_decide_eq_true e⟩)
  rw [this]
  rfl
theorem filt_map (ys : List Str) (fs : Fac) : ((ys.map fun n => (n, getF fs n)).filter fun p => decide (p.2 ≠ 0)) = (ys.filter fun n => decide (getF fs n ≠ 0)).map fun n => (n, getF fs n) := by
  rw [List.filter_map]
  rfl
theorem due_eq {fs l : Fac} {ns zs : List Str} (u : Uniq fs) (nd : ns.Nodup) (sub : ∀ x ∈ fs.map (·.1), x ∈ ns) (ho : OfF fs l) (hp : zs.Perm ns) (hs : PyProof.Rows.sortedS zs = true) : l = (zs.map fun n => (n, getF fs n)).filter fun p => decide (p.2 ≠ 0) := by
  obtain ⟨ys, yp, ysd, rfl⟩ := ho
  rw [filt_map, filt_map]
  congr 1
  refine sorted_uniq ysd hs _ (yp.nodup_iff.mpr u) (hp.nodup_iff.mpr nd) fun x hx => ?_
  rw [yp.mem_iff, hp.mem_iff]
  refine ⟨sub x, fun _ => ?_⟩
  by_cases q : x ∈ fs.map (·.1)
  · exact q
  · exact absurd (getF_none q) (of_decide_eq_true hx)

/-! ### the law's state -/
theorem strs_ne1 {H : Hp} {p c q : Addr} {lim : V} {n : Nat} {ns : List Str} (h : PoolAt H p c lim n) (hq : H q = some (.lst (ns.map V.str))) : q ≠ p := by
  obtain ⟨i, cs, cn, sd, md, e1, e2, e⟩ := h
  refine ne_of hq e1 (fun z => ?_)
  injection z with z
  cases ns with
  | nil => cases z
  | cons a r => injection z with z _; cases z
theorem strs_ne2 {H : Hp} {p c q : Addr} {lim : V} {n : Nat} {ns : List Str} (h : PoolAt H p c lim n) (hn : ns ≠ []) (hq : H q = some (.lst (ns.map V.str))) : q ≠ c := by
  obtain ⟨i, cs, cn, sd, md, e1, e2, e⟩ := h
  refine ne_of hq e2 (fun z => ?_)
  injection z with z
  cases ns with
  | nil => exact hn rfl
  | cons a r =>
    cases cs with
    | nil => cases z
    | cons b t => injection z with z _; cases z
theorem cut_strs {ns : List Str} {k : Nat} : cutV (ns.map V.str) none (some (k : Int)) = (ns.take k).map V.str := by
  unfold cutV
  rw [HT.sIx_none, HT.sIx_nat, List.length_map, List.drop_zero, ← List.map_take]
  congr 1
  rw [Nat.sub_zero, List.take_eq_take_iff]
  omega
structure LSt (p c nl sl : Addr) (ns : List Str) (H : Hp) (n : Nat) (S : List Int) : Prop where
  P : PoolAt H p c (.int 30) n
  en : H nl = some (.lst (ns.map V.str))
  es : H sl = some (.lst (S.map V.int))
  np : nl ≠ p
  nc : nl ≠ c
  sp : sl ≠ p
  sc : sl ≠ c
  sn : sl ≠ nl
section
variable {p c nl sl : Addr} {ns : List Str} {H H' : Hp} {n : Nat} {S S' : List Int}
theorem LSt.draw (h : LSt p c nl sl ns H n S) (P' : PoolAt H' p c (.int 30) (n + 1)) (b : But p c H H') : LSt p c nl sl ns H' (n + 1) S :=
  ⟨P', b _ _ h.en h.np h.nc, b _ _ h.es h.sp h.sc, h.np, h.nc, h.sp, h.sc, h.sn⟩
theorem LSt.same (h : LSt p c nl sl ns H n S) (s : Same H H') : LSt p c nl sl ns H' n S :=
  ⟨h.P.same s, s _ _ h.en, s _ _ h.es, h.np, h.nc, h.sp, h.sc, h.sn⟩
theorem LSt.new {q : Addr} {o : HO} (h : LSt p c nl sl ns H n S) (hq : H q = none) : LSt p c nl sl ns (upd H q o) n S := h.same (same_new hq)
theorem LSt.set (h : LSt p c nl sl ns H n S) : LSt p c nl sl ns (upd H sl (.lst (S'.map V.int))) n S' :=
  ⟨h.P.upd h.sp h.sc, by rw [upd_ne h.sn.symm]; exact h.en, upd_same, h.np, h.nc, h.sp, h.sc, h.sn⟩
end
theorem step_sums {ns : List Str} (nd : ns.Nodup) {C : Int} {fs : Fac} {k : Nat} (hk : k ≤ ns.length) : ∃ v0, (ns.map (getF fs) ++ [C])[k]? = some v0 ∧ ∀ (sg : Bool) (n : Int),
    (ns.map (getF fs) ++ [C]).set k (v0 + sgn sg * n) = ns.map (getF (accT (C, fs) (sg, ns[k]?, n)).2) ++ [(accT (C, fs) (sg, ns[k]?, n)).1] := by
  cases e : ns[k]? with
  | some x =>
    have hj : k < ns.length := (List.getElem?_eq_some_iff.mp e).1
    refine ⟨getF fs x, by rw [List.getElem?_append_left (by rw [List.length_map]; exact hj), List.getElem?_map, e]; rfl, fun sg n => ?_⟩
    exact set_sums nd e
  | none =>
    have hj : k = ns.length := Nat.le_antisymm hk (List.getElem?_eq_none_iff.mp e)
    subst hj
    refine ⟨C, by rw [List.getElem?_append_right (by rw [List.length_map]; exact Nat.le_refl _), List.length_map, Nat.sub_self]; rfl, fun sg n => ?_⟩
    exact set_last
theorem name_pick {ns : List Str} {k : Nat} (hk : k ≤ ns.length) : (ns ++ [("" : Str)])[k]? = some ((ns[k]?).getD "") := by
  rcases Nat.lt_or_ge k ns.length with h | h
  · rw [List.getElem?_append_left h, List.getElem?_eq_getElem h]
    rfl
  · have e : k = ns.length := by omega
    subst e
    rw [List.getElem?_append_right (Nat.le_refl _), Nat.sub_self, List.getElem?_eq_none (Nat.le_refl _)]
    rfl
theorem num_pick {r : Int} (r0 : 0 ≤ r) (r1 : r < 10 ^ 12) {d : Nat} (hd : d < 5) : ∃ n : Nat, n < 10 ^ 12 ∧ [V.int 0, V.int 1, V.int 2, V.int 999999999999, V.int r][d]? = some (V.int (n : Nat)) := by
  rcases (show d = 0 ∨ d = 1 ∨ d = 2 ∨ d = 3 ∨ d = 4 by omega) with rfl | rfl | rfl | rfl | rfl
  · exact ⟨0, by decide, rfl⟩
  · exact ⟨1, by decide, rfl⟩
  · exact ⟨2, by decide, rfl⟩
  · exact ⟨999999999999, by decide, rfl⟩
  · refine ⟨r.toNat, by omega, ?_⟩
    show some (V.int r) = some (V.int ((r.toNat : Nat) : Int))
    rw [show ((r.toNat : Nat) : Int) = r by omega]
theorem bodyL_snoc (t : Trm) : ∀ (r : List Trm) (f : Bool), bodyL f (r ++ [t]) = bodyL f r ++ pieceL (f && r.isEmpty) t
  | [], f => by
    show pieceL f t ++ [] = [] ++ pieceL (f && true) t
    rw [List.append_nil, List.nil_append, Bool.and_true]
  | x :: r, f => by
    show pieceL f x ++ bodyL false (r ++ [t]) = (pieceL f x ++ bodyL false r) ++ pieceL (f && false) t
    rw [bodyL_snoc t r false, List.append_assoc, Bool.false_and, Bool.and_false]
/-- what the sums of such terms are like -/
structure SumOk (ns : List Str) (st : Int × Fac) (B : Nat) : Prop where
  u : Uniq st.2
  sub : ∀ x ∈ st.2.map (·.1), x ∈ ns
  cb : st.1.natAbs ≤ B
  fb : ∀ x, (getF st.2 x).natAbs ≤ B
theorem SumOk.step {ns : List Str} {st : Int × Fac} {B : Nat} (h : SumOk ns st B) {t : Trm} (ok : TrmOk t) (hn : ∀ x, t.nm = some x → x ∈ ns) : SumOk ns (accT st (tmT t)) (B + 10 ^ 12) := by
  obtain ⟨c, fs⟩ := st
  have hv : (sgn t.sg * (t.n : Int)).natAbs < 10 ^ 12 := by
    have := ok.1
    cases t.sg with
    | true => show ((-1) * (t.n : Int)).natAbs < _; omega
    | false => show (1 * (t.n : Int)).natAbs < _; omega
  obtain ⟨u, sub, cb, fb⟩ := h
  cases e : t.nm with
  | none =>
    have ea : accT (c, fs) (tmT t) = (c + sgn t.sg * (t.n : Int), fs) := by unfold accT tmT; rw [e]
    rw [ea]
    have cb : c.natAbs ≤ B := cb
    exact ⟨u, sub, by show (c + _).natAbs ≤ _; omega, fun x => by have := fb x; show (getF fs x).natAbs ≤ _; have this : (getF fs x).natAbs ≤ B := this; omega⟩
  | some x =>
    have ea : accT (c, fs) (tmT t) = (c, addF fs x (sgn t.sg * (t.n : Int))) := by unfold accT tmT; rw [e]
    rw [ea]
    have cb : c.natAbs ≤ B := cb
    refine ⟨uniq_addF u _ _, fun y hy => ?_, by show c.natAbs ≤ _; omega, fun y => ?_⟩
    · rw [names_addF] at hy
      split at hy
      · exact sub y hy
      · rcases List.mem_append.mp hy with h | h
        · exact sub y h
        · rw [List.mem_singleton.mp h]
          exact hn x e
    · show (getF (addF fs x _) y).natAbs ≤ _
      rw [getF_addF]
      have h1 : (getF fs x).natAbs ≤ B := fb x
      have h2 : (getF fs y).natAbs ≤ B := fb y
      split <;> omega
theorem sums_ok {ns : List Str} : ∀ (r : List Trm) (st : Int × Fac) (B : Nat), SumOk ns st B → (∀ t ∈ r, TrmOk t ∧ ∀ x, t.nm = some x → x ∈ ns) → SumOk ns ((r.map tmT).foldl accT st) (B + r.length * 10 ^ 12)
  | [], st, B, h, _ => by show SumOk ns st (B + 0 * 10 ^ 12); rw [Nat.zero_mul]; exact h
  | t :: r, st, B, h, ok => by
    have h1 := h.step (ok t List.mem_cons_self).1 (ok t List.mem_cons_self).2
    have := sums_ok r _ _ h1 fun x hx => ok x (List.mem_cons_of_mem _ hx)
    rw [show B + (t :: r).length * 10 ^ 12 = B + 10 ^ 12 + r.length * 10 ^ 12 by rw [List.length_cons, Nat.succ_mul]; omega]
    exact this
def tot (r : List Trm) : Int × Fac := (r.map tmT).foldl accT (0, [])
theorem tot_snoc (r : List Trm) (t : Trm) : tot (r ++ [t]) = accT (tot r) (tmT t) := by
  unfold tot
  rw [List.map_append, List.foldl_append]
  rfl

abbrev sLaw : Stmt := topS 38
abbrev NLaw : List Str := ["_law_script", "_law_pool_here", "_law_names_here", "_law_sums", "_law_name", "_law_text", "_law_k", "_law_at", "_law_number", "_law_sign", "_law_gap", "_law_term_here", "_law_terms", "_law_due", "_law_head", "_law_tree"]
abbrev PLaw : List Str := ["_law_script"]
theorem scLaw : FnScope NLaw PLaw (defScope sLaw) := ⟨rfl, rfl, rfl, by decide +kernel, rfl, by decide +kernel, by decide +kernel⟩
theorem leaf_same {n : Nat} {H : Hp} {v : V} (h : Leaf v) : SameAt n H v v := by
  cases n with
  | zero => exact ⟨rfl, h⟩
  | succ n => exact .inl ⟨rfl, h⟩
theorem strs_same {n : Nat} {H : Hp} : ∀ ns : List Str, Paired (SameAt n H) (ns.map V.str) (ns.map V.str)
  | [] => .nil
  | x :: r => .cons (leaf_same (.inr ⟨x, rfl⟩)) (strs_same r)
theorem emp_same {n : Nat} {H : Hp} {a b : Addr} (h1 : H a = some (.tup [])) (h2 : H b = some (.tup [])) : SameAt (n + 1) H (.ref a) (.ref b) := .inr ⟨a, b, [], [], rfl, rfl, h1, h2, Nat.zero_le _, .nil⟩
theorem pairs_same {H : Hp} : ∀ {l : Fac} {xs ys : List V}, Paired (PairAt H) xs l → Paired (PairAt H) ys l → Paired (SameAt 1 H) xs ys
  | _, _, _, .nil, .nil => .nil
  | _, _, _, .cons ⟨a, e1, q1⟩ t1, .cons ⟨b, e2, q2⟩ t2 => .cons (.inr ⟨a, b, _, _, e1, e2, q1, q2, (by show 2 ≤ 1000; decide), .cons ⟨rfl, .inr ⟨_, rfl⟩⟩ (.cons ⟨rfl, .inl ⟨_, rfl⟩⟩ .nil)⟩) (pairs_same t1 t2)
theorem expr_same {H : Hp} {x y : V} {c : Int} {l : Fac} (h1 : ExprAt H x c l) (h2 : ExprAt H y c l) (ll : l.length ≤ 1000) : SameAt 3 H x y := by
  obtain ⟨p, q, xs, rfl, e1, e2, e3⟩ := h1
  obtain ⟨p', q', ys, rfl, g1, g2, g3⟩ := h2
  exact .inr ⟨p, p', _, _, rfl, rfl, e1, g1, (by show 2 ≤ 1000; decide), .cons (leaf_same (.inl ⟨c, rfl⟩)) (.cons (.inr ⟨q, q', xs, ys, rfl, rfl, e2, g2, by rw [Paired.length e3]; exact ll, pairs_same e3 g3⟩) .nil)⟩
theorem TreeAt.same {H H' : Hp} (s : TSame H H') {v : V} {ns : List Str} {c : Int} {l : Fac} (h : TreeAt H v ns c l) : TreeAt H' v ns c l := let ⟨r, a, b, k, p, q, e0, e1, e2, e3, e4, e5, e6⟩ := h; ⟨r, a, b, k, p, q, e0, s _ _ e1, s _ _ e2, s _ _ e3, s _ _ e4, e5.same s, s _ _ e6⟩
theorem at_last (xs : List V) (v : V) : atI (xs ++ [v]) (-1) = some v := by
  unfold atI ixN
  rw [List.length_append, if_neg (by decide), if_pos (by show -(((xs.length + 1 : Nat)) : Int) ≤ -1; omega)]
  have e : ((-1 : Int) + ((xs.length + [v].length : Nat) : Int)).toNat = xs.length := by show ((-1 : Int) + ((xs.length + 1 : Nat) : Int)).toNat = _; omega
  rw [e]
  show (xs ++ [v])[xs.length]? = some v
  rw [List.getElem?_append_right (Nat.le_refl _), Nat.sub_self]
  rfl
theorem show_eq (ns : List Str) (c : Int) (l : Fac) : showS ns c l = ("globals " ++ Txt.join " " ns) ++ "\nkeep " ++ exprS c l ++ "\n" := by
  unfold showS
  refine TL.ext_tl ?_
  rw [TL.join_eq, TL.tl_join]
  show (TL.tl (("globals " ++ Txt.join " " ns) ++ "\n")) ++ (TL.tl "" ++ TL.tl (("keep " ++ exprS c l) ++ "\n")) = _
  have e1 : TL.tl ("" : Str) = [] := by decide +kernel
  have e2 : TL.tl ("\nkeep " : Str) = TL.tl ("\n" : Str) ++ TL.tl ("keep " : Str) := by decide +kernel
  rw [e1, List.nil_append]
  repeat rw [TL.tl_append]
  rw [e2]
  simp only [List.append_assoc]
theorem tIf_or {t u : TT} {ta tb : TE} {σ : L2.St} {H : Hp} {Q : VK} {c1 c2 : Bool} (ht : ∀ Q : Bool → Hp → Prop, Q c1 H → t σ H Q) (hu : ∀ Q : Bool → Hp → Prop, Q c2 H → u σ H Q) (h : if (c1 || c2) = true then ta σ H Q else tb σ H Q) : tIf (tOr t u) ta tb σ H Q := by
  refine ht _ ?_
  cases c1 with
  | true => exact h
  | false => exact hu _ h
structure TxLaw (mg : Str → Option Value) : Prop where
  n_len : mg "len" = none
  n_tuple : mg "tuple" = none
  n_range : mg "range" = none
  n_sorted : mg "sorted" = none
section
variable {P : Program} {w : World} {K : PySem.W.Frag} {mg : Str → Option Value} {base : Heap} {kw C : Addr}
def spLaw (K : PySem.W.Frag) : Sp := fun vs H Q _ => ∃ (a : Addr) (ns : List Int), vs = [.ref a] ∧ SqL K H a (ns.map V.int) ∧ ns.length ≤ 63 ∧ ∀ H', Q (.bl true) H'
def LIv (a p c nl sl : Addr) (ns : List Str) (i : Nat) (σ : L2.St) (H : Hp) : Prop := ∃ (trms : List Trm) (text : Str) (x6 x7 x8 x9 x10 x11 : Option V) (n : Nat), n ≤ 10 + 10 * i ∧ σ = [some (.ref a), some (.ref p), some (.ref nl), some (.ref sl), none, some (.str text), x6, x7, x8, x9, x10, x11, none, none, none, none] ∧
  LSt p c nl sl ns H n (ns.map (getF (tot trms).2) ++ [(tot trms).1]) ∧ trms.length = i ∧ TL.tl text = bodyL true trms ∧ (∀ t ∈ trms, TrmOk t ∧ ∀ x, t.nm = some x → x ∈ ns) ∧ text.length ≤ i * 1100
theorem ok_Law {f : Addr} {fd : FuncData} (F : Fun K "law" "law" sLaw f fd) (T : TxLaw mg) (GP : Has P w K mg base CX0 1 "_law_pool" PPool (spPool K)) (GD : Has P w K mg base CX0 2 "_law_draw" PDraw spDraw) (GN : Has P w K mg base CX0 3 "_law_names" PNames spNames)
    (GT : Has P w K mg base CX0 1 "_law_term" PLTerm spLTerm) (GW : Has P w K mg base CX0 2 "_law_written" PLWrit spLWrit) (GS : Has P w K mg base CX0 6 "_law_same" PLSame (spLSame 6)) (GR : Has P w K mg base CX0 7 "parse" PParse spParse) (GH : Has P w K mg base CX0 3 "show" PShow spShow) :
    FnOk P w K mg base CX0 8 f fd PLaw (spLaw K) := by
  refine F.ok scLaw (fun vs H Q E h => ?_) (fun cdv A outer s H vs Q E hr h => ?_)
  · obtain ⟨a, ns, rfl, _⟩ := h
    rfl
  · obtain ⟨a, ns0, rfl, hS, hlen, k⟩ := h
    have hr6 := hr.mono (j := 6) (by decide)
    have hr3 := hr.mono (j := 3) (by decide)
    have hr2 := hr.mono (j := 2) (by decide)
    have hr1 := hr.mono (j := 1) (by decide)
    refine ⟨_, (pss_cons (ps_set (i := 1) scLaw.nd rfl (Or.inl rfl) (pe_callH GP hr1 rfl pass0 (pa_cons (pv 0) pa_nil)))
  (pss_cons (ps_set (i := 2) scLaw.nd rfl (Or.inr rfl) (pe_slice sl_list (pe_callH GN hr3 rfl pass0 (pa_cons (pv 1) pa_nil)) po_none (po_some (pe_op op_add pe_int (pe_callH GD hr2 rfl pass0 (pa_cons (pv 1) (pa_cons pe_int pa_nil)))))))
  (pss_cons (ps_set (i := 3) scLaw.nd rfl (Or.inr rfl) (pe_op op_cat (pe_lc (own := [("_law_name", 4)]) (g := gName 4) (tt := tYes) rfl scLaw.nd (pi_list (pv 2)) (blkOk_by (own := [("_law_name", 4)]) (N := NLaw) (sc := (defScope sLaw)) (by decide +kernel)) (fun _ _ _ _ _ => (pg_name (i := 4) scLaw.nd rfl (Or.inl rfl))) (fun _ _ _ _ _ => pts_nil) (fun _ _ _ _ _ => pe_int)) (pe_lst (pa_cons pe_int pa_nil))))
  (pss_cons (ps_set (i := 5) scLaw.nd rfl (Or.inl rfl) pe_str)
  (pss_cons (ps_for PassesOwn.never rfl (pi_range1 (by rfl) T.n_range (pa_cons (pe_op op_add pe_int (pe_callH GD hr2 rfl pass0 (pa_cons (pv 1) (pa_cons pe_int pa_nil)))) pa_nil)) (pg_name (i := 6) scLaw.nd rfl (Or.inl rfl))
  (pss_cons (ps_set (i := 7) scLaw.nd rfl (Or.inl rfl) (pe_callH GD hr2 rfl pass0 (pa_cons (pv 1) (pa_cons (pe_op op_add (pe_callB call_len_seq (by rfl) T.n_len bb_len (pa_cons (pv 2) pa_nil)) pe_int) pa_nil))))
  (pss_cons (ps_set (i := 8) scLaw.nd rfl (Or.inl rfl) (pe_ix (r := rIxL K) ix_list (pe_lst (pa_cons pe_int (pa_cons pe_int (pa_cons pe_int (pa_cons pe_int (pa_cons (pe_callH GD hr2 rfl pass0 (pa_cons (pv 1) (pa_cons (pe_op op_pow pe_int pe_int) pa_nil))) pa_nil)))))) (pe_callH GD hr2 rfl pass0 (pa_cons (pv 1) (pa_cons pe_int pa_nil))) (fun _ _ => rfl)))
  (pss_cons (ps_set (i := 9) scLaw.nd rfl (Or.inl rfl) (pe_callH GD hr2 rfl pass0 (pa_cons (pv 1) (pa_cons pe_int pa_nil))))
  (pss_cons (ps_asg (pe_op op_add (pe_ix (r := rIxL K) ix_list (pv 3) (pv 7) (fun _ _ => rfl)) (pe_op op_mul (pe_ix (r := rIxL K) ix_list (pe_lst (pa_cons pe_int (pa_cons (pe_un un_neg pe_int) pa_nil))) (pv 9) (fun _ _ => rfl)) (pv 8))) (pg_sub (pv 3) (pv 7) set_list))
  (pss_cons (ps_set (i := 10) scLaw.nd rfl (Or.inl rfl) (pe_op op_repS pe_str (pe_callH GD hr2 rfl pass0 (pa_cons (pv 1) (pa_cons pe_int pa_nil)))))
  (pss_cons (ps_set (i := 11) scLaw.nd rfl (Or.inl rfl) (pe_callH GT hr1 rfl pass0 (pa_cons (pe_ix (r := rIxL K) ix_list (pe_op op_cat (pv 2) (pe_lst (pa_cons pe_str pa_nil))) (pv 7) (fun _ _ => rfl)) (pa_cons (pv 8) (pa_cons (pe_cmpR op_eq (pe_callH GD hr2 rfl pass0 (pa_cons (pv 1) (pa_cons pe_int pa_nil))) pe_int (nomark _)) pa_nil)))))
  (pss_one (ps_set (i := 5) scLaw.nd rfl (Or.inl rfl) (pe_op op_add_str (pe_op op_add_str (pe_op op_add_str (pe_op op_add_str (pv 5) (pv 10)) (pe_ifExp (PW.pt (pw_or (pt_cmpR op_gt (pv 6) pe_int (nomark _)) (pw_or1 (pt_cmpR op_eq (pv 9) pe_int (nomark _))))) (pe_ix (r := rIxL K) ix_list (pe_lst (pa_cons pe_str (pa_cons pe_str pa_nil))) (pv 9) (fun _ _ => rfl)) pe_str)) (pv 10)) (pv 11)))))))))))
  (pss_cons (ps_setLc (i := 12) (own := [("_law_name", 4)]) (g := gName 4) (tt := tYes) rfl scLaw.nd rfl rfl (sw_true rfl rfl rfl (by decide +kernel)) (pi_list (pe_callB cr_sortedS (by rfl) T.n_sorted bb_sorted (pa_cons (pv 2) pa_nil))) (blkOk_by (own := [("_law_name", 4)]) (N := NLaw) (sc := (defScope sLaw)) (by decide +kernel)) (fun _ _ _ _ _ => (pg_name (i := 4) scLaw.nd rfl (Or.inl rfl))) (fun _ _ _ _ _ => pts_nil) (fun _ _ _ _ _ => (pe_tup (pa_cons (pv 4) (pa_cons (pe_ix (r := rIxL K) ix_list (pv 3) (show PE _ _ (tBM K "list" (rIndex K) (tVar 2) (tCons (tVar 4) tNil)) from (pe_bm PySem.F.plainAttrs_list PySem.F.slot_list_index PySem.F.type_list_index mt_index (pv 2) (pa_cons (pv 4) pa_nil))) (fun _ _ => rfl)) pa_nil)))))
  (pss_cons (ps_set (i := 13) scLaw.nd rfl (Or.inl rfl) (pe_tup (pa_cons (pe_ix (r := rIxL K) ix_list (pv 3) (pe_un un_neg pe_int) (fun _ _ => rfl)) (pa_cons (pe_callTy call_tuple_of (by rfl) T.n_tuple bb_tuple (pa_cons (pe_lc (own := [("_law_term_here", 11)]) (g := gName 11) rfl scLaw.nd (pi_list (pv 12)) (blkOk_by (own := [("_law_term_here", 11)]) (N := NLaw) (sc := (defScope sLaw)) (by decide +kernel)) (fun _ _ _ _ _ => (pg_name (i := 11) scLaw.nd rfl (Or.inl rfl))) (fun _ _ _ _ _ => (pts_one (pt_cmpR op_ne (pe_ix (r := rIxT K) ix_tup (pv 11) pe_int (fun _ _ => rfl)) pe_int (nomark _)))) (fun _ _ _ _ _ => (pv 11))) pa_nil)) pa_nil))))
  (pss_cons (ps_set (i := 14) scLaw.nd rfl (Or.inl rfl) (pe_op op_add_str pe_str (pe_join pe_str (pv 2))))
  (pss_cons (ps_set (i := 15) scLaw.nd rfl (Or.inl rfl) (pe_callH GR hr rfl pass0 (pa_cons (pe_op op_add_str (pe_op op_add_str (pe_op op_add_str (pv 14) pe_str) pe_str) (pv 5)) pa_nil)))
  (pss_cons (ps_if (pt_not (pt_val (pe_callH GS hr6 rfl pass0 (pa_cons (pv 15) (pa_cons (pe_tup (pa_cons (pe_callTy call_tuple_of (by rfl) T.n_tuple bb_tuple (pa_cons (pv 2) pa_nil)) (pa_cons (pe_tup pa_nil) (pa_cons (pe_tup (pa_cons (pv 13) pa_nil)) (pa_cons (pe_tup pa_nil) pa_nil))))) pa_nil)))))
  (pss_one (ps_ret pe_bl))
  pss_nil)
  (pss_one (ps_ret (pe_cmpR op_eq (pe_callH GH hr3 rfl pass0 (pa_cons (pv 15) pa_nil)) (pe_op op_add_str (pe_op op_add_str (pe_op op_add_str (pv 14) pe_str) (pe_callH GW hr2 rfl pass0 (pa_cons (pv 13) pa_nil))) pe_str) (nomark _)))))))))))))), ?_⟩
    refine ⟨_, rfl, a, ns0, rfl, hS, hlen, fun p c H1 s1 hp0 hc0 P1 => ?_⟩
    -- the names
    refine ⟨_, rfl, p, c, _, 0, rfl, P1, by decide, fun q all H2 okA lA P2 b2 hq e2 => ?_⟩
    refine ⟨_, rfl, p, c, _, _, 4, rfl, P2, by decide, by decide, by decide, fun r H3 r0 r1 P3 b3 => ?_⟩
    have q1 := strs_ne1 P2 e2
    have q2 := strs_ne2 P2 (by intro z; rw [z] at lA; cases lA) e2
    have e3 := b3 _ _ e2 q1 q2
    refine ⟨_, _, rfl, rfl, _, rfl, q, _, rfl, SqL.of e3, fun nl hnl => ?_⟩
    obtain ⟨m, hm⟩ : ∃ m : Nat, 1 + r = (m : Int) := ⟨(1 + r).toNat, by omega⟩
    rw [hm, cut_strs]
    obtain ⟨ns, ens⟩ : ∃ ns, ns = all.take m := ⟨_, rfl⟩
    rw [← ens]
    have okN : NamesOk ns := by
      rw [ens]
      exact ⟨okA.nd.sublist (List.take_sublist ..), fun x hx => okA.name x (List.mem_of_mem_take hx), fun x hx => okA.len x (List.mem_of_mem_take hx)⟩
    have lns : ns.length = m := by rw [ens, List.length_take, lA]; omega
    have nne : ns ≠ [] := fun z => by rw [z] at lns; simp at lns; omega
    have l4 : ns.length ≤ 4 := by omega
    have P4 := P3.same (same_new (o := .lst (ns.map V.str)) hnl)
    have n1 := P3.ne1 hnl
    have n2 := P3.ne2 hnl
    obtain ⟨H4, eH4⟩ : ∃ H4, H4 = upd H3 nl (.lst (ns.map V.str)) := ⟨_, rfl⟩
    have en4 : H4 nl = some (.lst (ns.map V.str)) := by rw [eH4, upd_same]
    rw [← eH4] at P4 ⊢
    -- the sums
    refine ⟨_, rfl, nl, rfl, ⟨_, SqL.of en4⟩, fun Z hZ => lc_map (walk_list (K := K) (a := nl) (xs := ns.map V.str)) (fun _ => V.int 0) hZ (by rw [List.length_map]; omega) (fun H' s' => SqL.of (s' _ _ en4)) ?_ ?_⟩
    · rintro i x H5 H6 k5 hi s5 ⟨rfl, hx⟩ kx
      exact ⟨rfl, kx _ (Same.refl _)⟩
    intro H5 s5 eZ
    refine ⟨(by show 1 ≤ sizeLine; decide), fun Y hY => ?_⟩
    have sY := same_new (o := .lst [V.int 0]) hY
    refine ⟨Z, Y, _, _, rfl, rfl, sY _ _ eZ, upd_same, small1000 (by rw [List.length_map, List.length_range, List.length_map]; show ns.length + 1 ≤ 1000; omega) |> Nat.le_of_lt, fun sl hsl => ?_⟩
    obtain ⟨H6, eH6⟩ : ∃ H6, H6 = upd H5 Y (.lst [V.int 0]) := ⟨_, rfl⟩
    rw [← eH6] at sY hsl ⊢
    have z0 : (List.range (ns.map V.str).length).map (fun _ => V.int 0) ++ [V.int 0] = (ns.map (getF (tot []).2) ++ [(tot []).1]).map V.int := by
      rw [List.map_append, List.map_map, List.length_map]
      congr 1
      rw [range_map ns (fun _ => V.int 0) _ fun _ _ _ => rfl]
      rfl
    rw [z0]
    have P6 := (P4.same s5).same sY
    have st0 : LSt p c nl sl ns (upd H6 sl (.lst ((ns.map (getF (tot []).2) ++ [(tot []).1]).map V.int))) _ (ns.map (getF (tot []).2) ++ [(tot []).1]) := ⟨P6.same (same_new hsl), same_new hsl _ _ (sY _ _ (s5 _ _ en4)), upd_same, n1, n2, P6.ne1 hsl, P6.ne2 hsl, fun z => by rw [z, sY _ _ (s5 _ _ en4)] at hsl; cases hsl⟩
    obtain ⟨H7, eH7⟩ : ∃ H7, H7 = upd H6 sl (.lst ((ns.map (getF (tot []).2) ++ [(tot []).1]).map V.int)) := ⟨_, rfl⟩
    rw [← eH7] at st0 ⊢
    clear eH7 hsl P6 hY sY eZ s5 hZ P4 eH4 hnl P3
    refine ⟨_, rfl, p, c, _, _, 7, rfl, st0.P, by decide, by decide, by decide, fun r7 H8 r70 r71 P8 b8 => ?_⟩
    have st1 := st0.draw P8 b8
    have e62 : (2 : Int) ^ 62 = 4611686018427387904 := by decide
    have e24 : sizeLine = 2 ^ 24 := rfl
    refine ⟨_, _, rfl, rfl, _, rfl, by omega, by omega, ?_⟩
    have t0 : ("" : Str).length ≤ 0 := by decide +kernel
    refine for_range (lo := 0) (n := (1 + r7).toNat) (LIv a p c nl sl ns) ⟨[], "", none, none, none, none, none, none, _, by decide, rfl, st1, rfl, by decide +kernel, (fun _ h => by cases h), (by omega)⟩ ?_ ?_
    · rintro i σ H9 hi ⟨trms, text, x6, x7, x8, x9, x10, x11, n, hn, rfl, st, lt, tt, ok, ll⟩
      refine ⟨_, rfl, _, rfl, nl, _, rfl, .inl (SqL.of st.en), _, _, rfl, rfl, p, c, _, _, _, rfl, st.P, by omega, by omega, by rw [List.length_map]; omega, fun r H10 r0 r1 P10 b10 => ?_⟩
      have st10 := st.draw P10 b10
      obtain ⟨k1, rfl⟩ : ∃ k1 : Nat, r = (k1 : Int) := ⟨r.toNat, by omega⟩
      have hk : k1 ≤ ns.length := by rw [List.length_map] at r1; omega
      refine ⟨_, rfl, _, _, rfl, rfl, ⟨by decide, by decide, by decide⟩, p, c, _, _, _, rfl, st10.P, by omega, by decide, by decide, fun r11 H11 r110 r111 P11 b11 => ⟨(by show 5 ≤ sizeLine; decide), fun Z hZ => ?_⟩⟩
      have st11 := st10.draw P11 b11
      have st11' := st11.new (o := .lst [V.int 0, V.int 1, V.int 2, V.int 999999999999, V.int r11]) hZ
      refine ⟨_, rfl, p, c, _, _, 5, rfl, st11'.P, by omega, by decide, by decide, fun d5 H12 d0 d1 P12 b12 => ?_⟩
      have st12 := st11'.draw P12 b12
      obtain ⟨d, rfl⟩ : ∃ d : Nat, d5 = (d : Int) := ⟨d5.toNat, by omega⟩
      obtain ⟨num, hnum, pick⟩ := num_pick r110 r111 (d := d) (by omega)
      refine ⟨Z, _, _, _, rfl, rfl, SqL.of (b12 _ _ upd_same (st11.P.ne1 hZ) (st11.P.ne2 hZ)), atI_nat pick, ?_⟩
      refine ⟨_, rfl, p, c, _, _, 2, rfl, st12.P, by omega, by decide, by decide, fun s2 H13 s20 s21 P13 b13 => ?_⟩
      have st13 := st12.draw P13 b13
      obtain ⟨sg, hsg⟩ : ∃ sg : Bool, s2 = if sg = true then 1 else 0 := by
        rcases (show s2 = 0 ∨ s2 = 1 by omega) with rfl | rfl
        · exact ⟨false, rfl⟩
        · exact ⟨true, rfl⟩
      obtain ⟨v0, hv0, hset⟩ := step_sums okN.nd (C := (tot trms).1) (fs := (tot trms).2) hk
      refine ⟨_, rfl, _, rfl, sl, _, _, .int v0, rfl, rfl, SqL.of st13.es, atI_nat (by rw [List.getElem?_map, hv0]; rfl), _, rfl, (by show 2 ≤ sizeLine; decide), fun Y hY => ?_⟩
      have st14 := st13.new (o := .lst [V.int 1, V.int (-1)]) hY
      refine ⟨_, rfl, Y, _, _, .int (sgn sg), rfl, rfl, SqL.of upd_same, by rw [hsg]; cases sg <;> rfl, _, rfl, _, _, rfl, rfl, .inl (sgn_lt sg), _, _, rfl, rfl, ?_⟩
      have ix : ixN ((ns.map (getF (tot trms).2) ++ [(tot trms).1]).map V.int).length (k1 : Int) = some k1 := by
        have : ((ns.map (getF (tot trms).2) ++ [(tot trms).1]).map V.int).length = ns.length + 1 := by rw [List.length_map, List.length_append, List.length_map]; rfl
        rw [this]
        unfold ixN
        rw [if_pos (by omega), if_pos (by omega)]
        simp
      refine ⟨_, rfl, _, rfl, sl, _, _, k1, rfl, rfl, st14.es, ix, ?_⟩
      have hset' : ((ns.map (getF (tot trms).2) ++ [(tot trms).1]).map V.int).set k1 (V.int (v0 + sgn sg * (num : Int))) = (ns.map (getF (accT (tot trms) (sg, ns[k1]?, (num : Int))).2) ++ [(accT (tot trms) (sg, ns[k1]?, (num : Int))).1]).map V.int := by
        rw [← List.map_set, hset sg (num : Int)]
      rw [hset']
      have st15 := st14.set (S' := ns.map (getF (accT (tot trms) (sg, ns[k1]?, (num : Int))).2) ++ [(accT (tot trms) (sg, ns[k1]?, (num : Int))).1])
      obtain ⟨H15, eH15⟩ : ∃ H15, H15 = upd (upd H13 Y (.lst [V.int 1, V.int (-1)])) sl (.lst ((ns.map (getF (accT (tot trms) (sg, ns[k1]?, (num : Int))).2) ++ [(accT (tot trms) (sg, ns[k1]?, (num : Int))).1]).map V.int)) := ⟨_, rfl⟩
      rw [← eH15] at st15 ⊢
      refine ⟨_, rfl, p, c, _, _, 3, rfl, st15.P, by omega, by decide, by decide, fun g3 H16 g0 g1 P16 b16 => ?_⟩
      have st16 := st15.draw P16 b16
      obtain ⟨g, rfl⟩ : ∃ g : Nat, g3 = (g : Int) := ⟨g3.toNat, by omega⟩
      refine ⟨32, g, e32 ▸ rfl, rfl, by omega, ?_⟩
      refine ⟨_, rfl, (by show 1 ≤ sizeLine; decide), fun W hW => ?_⟩
      have st17 := st16.new (o := .lst [V.str ""]) hW
      refine ⟨nl, W, _, _, rfl, rfl, st17.en, upd_same, Nat.le_of_lt (small1000 (by rw [List.length_map]; show ns.length + 1 ≤ 1000; omega)), fun X hX => ?_⟩
      have st18 := st17.new (o := .lst (ns.map V.str ++ [V.str ""])) hX
      refine ⟨_, rfl, X, _, _, .str ((ns[k1]?).getD ""), rfl, rfl, SqL.of upd_same, ?_, ?_⟩
      · have := name_pick hk
        refine atI_nat ?_
        rw [show ns.map V.str ++ [V.str ""] = (ns ++ [("" : Str)]).map V.str by rw [List.map_append]; rfl, List.getElem?_map, this]
        rfl
      have lnm : ((ns[k1]?).getD "").length ≤ 10 := by
        cases e : ns[k1]? with
        | none => show ("" : Str).length ≤ 10; omega
        | some x => exact okN.len x (List.mem_of_getElem? e)
      refine ⟨_, rfl, _, rfl, p, c, _, _, 2, rfl, st18.P, by omega, by decide, by decide, fun b2 H19 b20 b21 P19 b19 => ?_⟩
      have st19 := st18.draw P19 b19
      refine ⟨rfl, (ns[k1]?).getD "", num, decide (b2 = 1), ?_, by omega, by omega, ?_⟩
      · show [_, _, V.bl (decide (V.int b2 = V.int 1))] = _
        congr 4
        rw [decide_eq_decide]
        exact ⟨fun z => by injection z, fun z => by rw [z]⟩
      obtain ⟨b, eb⟩ : ∃ b : Bool, b = decide (b2 = 1) := ⟨_, rfl⟩
      rw [← eb]
      have tl' := termL_len (b := b) (nm := (ns[k1]?).getD "") (n := num) (by omega) (by omega)
      obtain ⟨tm, etm⟩ : ∃ tm : Str, tm = termL ((ns[k1]?).getD "") num b := ⟨_, rfl⟩
      rw [← etm] at tl' ⊢
      obtain ⟨G, eG⟩ : ∃ G : Str, G = ⟨(List.replicate g 32).toArray⟩ := ⟨_, rfl⟩
      have tG : TL.tl G = List.replicate g 32 := by rw [eG]
      have lG : G.length ≤ 2 := by rw [TL.len_tl, tG, List.length_replicate]; omega
      rw [← eG]
      have hi7 : i < 7 := by omega
      have fin : ∀ (z : Str) (H' : Hp) (n' : Nat), n' ≤ 10 + 10 * (i + 1) → z.length ≤ 1 → TL.tl z = (if trms.isEmpty = false ∨ sg = true then [sgL sg] else []) → LSt p c nl sl ns H' n' (ns.map (getF (accT (tot trms) (sg, ns[k1]?, (num : Int))).2) ++ [(accT (tot trms) (sg, ns[k1]?, (num : Int))).1]) →
          LIv a p c nl sl ns (i + 1) [some (.ref a), some (.ref p), some (.ref nl), some (.ref sl), none, some (.str (text ++ G ++ z ++ G ++ tm)), some (.int (0 + (i : Nat))), some (.int (k1 : Nat)), some (.int (num : Nat)), some (.int s2), some (.str G), some (.str tm), none, none, none, none] H' := fun z H' n' hn' lz tz stz => by
        refine ⟨trms ++ [⟨sg, ns[k1]?, num, b, g⟩], _, _, _, _, _, _, _, n', hn', rfl, ?_, by rw [List.length_append, lt]; rfl, ?_, ?_, ?_⟩
        · rw [tot_snoc]
          exact stz
        · rw [bodyL_snoc, TL.tl_append, TL.tl_append, TL.tl_append, TL.tl_append, tt, tG, tz, etm, Bool.true_and]
          unfold pieceL trmL
          rw [List.append_assoc, List.append_assoc, List.append_assoc]
        · intro t ht
          rcases List.mem_append.mp ht with h | h
          · exact ok t h
          · rw [List.mem_singleton.mp h]
            exact ⟨⟨hnum, fun x hx => okN.name x (List.mem_of_getElem? hx)⟩, fun x hx => List.mem_of_getElem? hx⟩
        · rw [len_add, len_add, len_add, len_add, Nat.succ_mul]
          omega
      have lx : text.length ≤ 7700 := by omega
      refine ⟨_, rfl, _, rfl, _, _, rfl, rfl, by rw [e24]; omega, ?_⟩
      refine tIf_or (c1 := decide (0 < i)) (c2 := sg) (fun Q q => ⟨_, rfl, _, _, rfl, rfl, _, rfl, ?_⟩) (fun Q q => ⟨_, rfl, rfl, _, rfl, ?_⟩) ?_
      · have : decide ((0 : Int) < 0 + (i : Nat)) = decide (0 < i) := decide_eq_decide.mpr (by omega)
        rw [← this] at q
        exact q
      · have : decide (V.int s2 = V.int 1) = sg := by rw [hsg]; cases sg <;> rfl
        rw [← this] at q
        exact q
      have em : trms.isEmpty = false ↔ 0 < i := by
        rw [← lt]
        cases trms with
        | nil => simp
        | cons a r => simp
      refine ite2 (fun h => ?_) (fun h => ?_)
      · have hc : trms.isEmpty = false ∨ sg = true := by
          rw [Bool.or_eq_true, decide_eq_true_eq] at h
          exact h.imp em.mpr id
        refine ⟨(by show 2 ≤ sizeLine; decide), fun V0 hV => ?_⟩
        have lsg : (⟨#[sgL sg]⟩ : Str).length = 1 := rfl
        refine ⟨_, rfl, V0, _, _, .str ⟨#[sgL sg]⟩, rfl, rfl, SqL.of upd_same, ?_, ?_⟩
        · rw [hsg]
          cases sg with
          | true => show some (V.str "-") = some (V.str ⟨#[45]⟩); rw [minus_mk]
          | false => show some (V.str "+") = some (V.str ⟨#[43]⟩); rw [plus_mk]
        refine ⟨_, _, rfl, rfl, by rw [len_add, lsg, e24]; omega, _, rfl, _, _, rfl, rfl, by rw [len_add, len_add, lsg, e24]; omega, _, rfl, _, _, rfl, rfl, by rw [len_add, len_add, len_add, lsg, e24]; omega, ?_⟩
        exact fin _ _ _ (by omega) (by rw [lsg]; omega) (by rw [if_pos hc]) (st19.new hV)
      · have hc : ¬ (trms.isEmpty = false ∨ sg = true) := fun z => h (by
          rw [Bool.or_eq_true, decide_eq_true_eq]
          exact z.imp em.mp id)
        refine ⟨_, _, rfl, rfl, by rw [len_add, e24]; omega, _, rfl, _, _, rfl, rfl, by rw [len_add, len_add, e24]; omega, _, rfl, _, _, rfl, rfl, by rw [len_add, len_add, len_add, e24]; omega, ?_⟩
        exact fin _ _ _ (by omega) (by omega) (by rw [if_neg hc]; decide +kernel) st19
    · rintro σ H9 ⟨trms, text, x6, x7, x8, x9, x10, x11, n, hn, rfl, st, lt, tt, ok, ll⟩
      have so : SumOk ns (tot trms) (trms.length * 10 ^ 12) := by
        have h0 : SumOk ns ((0 : Int), ([] : Fac)) 0 := ⟨List.nodup_nil, (fun x h => by cases h), Nat.le_refl _, fun x => Nat.le_refl _⟩
        have := sums_ok trms _ _ h0 ok
        rw [Nat.zero_add] at this
        exact this
      have lt7 : trms.length ≤ 7 := by omega
      have lt1 : 1 ≤ trms.length := by omega
      obtain ⟨C, eC⟩ : ∃ C, C = (tot trms).1 := ⟨_, rfl⟩
      obtain ⟨fs, efs⟩ : ∃ fs, fs = (tot trms).2 := ⟨_, rfl⟩
      rw [← eC, ← efs] at st
      refine ⟨_, rfl, nl, ns, rfl, SqL.of st.en, by omega, fun zs Zs hperm hsort hZs => ⟨Zs, rfl, ⟨_, SqL.of upd_same⟩, fun D hD => ?_⟩⟩
      have st2 := st.new (o := .lst (zs.map V.str)) hZs
      obtain ⟨H10, eH10⟩ : ∃ H10, H10 = upd H9 Zs (.lst (zs.map V.str)) := ⟨_, rfl⟩
      have eZs : H10 Zs = some (.lst (zs.map V.str)) := by rw [eH10, upd_same]
      rw [← eH10] at st2 hD ⊢
      have lzs : zs.length = ns.length := hperm.length_eq
      refine lc_rel (walk_list (K := K) (a := Zs) (xs := zs.map V.str)) (fun i y H => ∃ x, zs[i]? = some x ∧ PairAt H y (x, getF fs x)) (fun i y H H' s ⟨r, h1, h2⟩ => ⟨r, h1, h2.same s⟩) hD (by rw [List.length_map]; omega) (fun H' s' => SqL.of (s' _ _ eZs)) ?_ ?_
      · rintro i x H11 H12 k1 hi s11 ⟨rfl, hx⟩ kk
        rw [List.length_map] at hi
        obtain ⟨z, hz⟩ : ∃ z, zs[i]? = some z := ⟨_, List.getElem?_eq_getElem hi⟩
        rw [List.getElem?_map, hz] at hx
        cases hx
        have mz : z ∈ ns := hperm.mem_iff.mp (List.mem_of_getElem? hz)
        obtain ⟨j, hj⟩ := List.getElem?_of_mem mz
        have hjl : j < ns.length := (List.getElem?_eq_some_iff.mp hj).1
        have st3 := st2.same s11
        refine ⟨rfl, _, rfl, _, rfl, _, rfl, .inl ⟨rfl, _, SqL.of st3.en⟩, _, rfl, nl, _, _, j, .str z, rfl, rfl, SqL.of st3.en, rfl, ?_, ?_, ?_, ?_, sl, _, _, .int (getF fs z), rfl, rfl, SqL.of st3.es, ?_, (by show 2 ≤ sizeLine; decide), fun t ht => kk _ _ (same_new ht) ⟨z, hz, t, rfl, upd_same⟩⟩
        · rw [List.all_map, List.all_eq_true]
          intro _ _
          rfl
        · rw [List.getElem?_map, hj]
          rfl
        · show (z == z) = true
          simp
        · intro m1 z' hm1 hz'
          rw [List.getElem?_map] at hz'
          cases e : ns[m1]? with
          | none => rw [e] at hz'; cases hz'
          | some y =>
            rw [e] at hz'
            cases hz'
            show (y == z) = false
            rw [beq_eq_false_iff_ne]
            intro q
            subst q
            have := (List.getElem?_inj hjl okN.nd).mp (hj.trans e.symm)
            omega
        · refine atI_nat ?_
          rw [List.getElem?_map, List.getElem?_append_left (by rw [List.length_map]; exact hjl), List.getElem?_map, hj]
          rfl
      · intro ys H11 s11 eD lys hys
        rw [List.length_map] at lys
        have st3 := st2.same s11
        refine ⟨_, rfl, _, rfl, sl, _, _, .int C, rfl, rfl, SqL.of st3.es, by rw [List.map_append]; exact at_last _ _, _, rfl, D, rfl, ⟨_, SqL.of eD⟩, fun F0 hF => ?_⟩
        refine lc_it (walk_list (K := K) (a := D) (xs := ys)) (fun i H' => Same H11 H' ∧ ∃ us : List V, H' F0 = some (.lst us) ∧ us.length ≤ i ∧ Paired (PairAt H') us (((zs.take i).map fun n => (n, getF fs n)).filter fun p => decide (p.2 ≠ 0))) ⟨same_new hF, [], upd_same, Nat.le_refl _, .nil⟩ (fun i H' _ h' => SqL.of (h'.1 _ _ eD)) ?_ ?_
        · rintro i x H12 H13 hi ⟨s12, us, eF, lus, hus⟩ ⟨rfl, hx⟩
          obtain ⟨z, hz, t, rfl, et⟩ := hys i x hx
          have ft : (((zs.take (i + 1)).map fun n => (n, getF fs n)).filter fun p => decide (p.2 ≠ 0)) = (((zs.take i).map fun n => (n, getF fs n)).filter fun p => decide (p.2 ≠ 0)) ++ (if getF fs z ≠ 0 then [(z, getF fs z)] else []) := by
            rw [take_snoc hz, List.map_append, List.filter_append]
            congr 1
            by_cases q : getF fs z = 0
            · simp [q]
            · simp [q]
          refine ⟨rfl, _, rfl, t, _, _, _, rfl, rfl, SqT.of (s12 _ _ et), atI_nat (j := 1) rfl, rfl, _, rfl, ite2 (fun hne => ?_) (fun hne => ?_)⟩
          · have hne : (!decide (V.int (getF fs z) = V.int 0)) = true := hne
            have gne : getF fs z ≠ 0 := fun q => by rw [q] at hne; exact absurd hne (by decide)
            refine ⟨_, rfl, us, eF, small1000 (by omega), fun b o e => by rw [upd_ne (ne_of_none e hF)]; exact s12 _ _ e, us ++ [.ref t], upd_same, by rw [List.length_append]; show us.length + 1 ≤ i + 1; omega, ?_⟩
            rw [ft, if_pos gne]
            have tsm : TSame H13 (upd H13 F0 (.lst (us ++ [.ref t]))) := fun b xs e => by
              rw [upd_ne (ne_of e eF fun z => by cases z)]
              exact e
            exact Paired.snocP (Paired.mapP hus fun _ _ q => q.same tsm) ⟨t, rfl, tsm _ _ (s12 _ _ et)⟩
          · have ge : getF fs z = 0 := by
              by_cases q : getF fs z = 0
              · exact q
              · exact absurd (show (!decide (V.int (getF fs z) = V.int 0)) = true by rw [decide_eq_false (fun q' => by injection q' with q'; exact q q')]; rfl) hne
            refine ⟨s12, us, eF, by omega, ?_⟩
            rw [ft, if_neg (fun q => q ge), List.append_nil]
            exact hus
        · rintro H12 ⟨s12, us, eF, lus, hus⟩
          rw [lys, List.take_length] at hus
          refine ⟨F0, _, rfl, .inl ⟨SqL.of eF, fun u hu => ⟨(by show 2 ≤ sizeLine; decide), fun du hdu => ?_⟩⟩⟩
          have su := same_new (o := .tup us) hu
          have sdu := same_new (o := .tup [V.int C, V.ref u]) hdu
          obtain ⟨H13, eH13⟩ : ∃ H13, H13 = upd (upd H12 u (.tup us)) du (.tup [V.int C, V.ref u]) := ⟨_, rfl⟩
          have s13 : Same H12 H13 := by rw [eH13]; exact su.trans sdu
          obtain ⟨dl, edl⟩ : ∃ dl : Fac, dl = (zs.map fun n => (n, getF fs n)).filter fun p => decide (p.2 ≠ 0) := ⟨_, rfl⟩
          have edu : ExprAt H13 (.ref du) C dl := ⟨du, u, us, rfl, by rw [eH13, upd_same], by rw [eH13]; exact sdu _ _ upd_same, by rw [edl]; exact Paired.mapP hus fun _ _ z => z.same (TSame.of s13)⟩
          have st4 := (st3.same s12).same s13
          show gName 13 (V.ref du) _ (upd (upd H12 u (.tup us)) du (.tup [V.int C, V.ref u])) _
          rw [← eH13]
          clear eH13 sdu su hdu hu
          -- the text
          have lsp : (" " : Str).length = 1 := by decide +kernel
          have lg : ("globals " : Str).length = 8 := by decide +kernel
          have lk : (" keep" : Str).length = 5 := by decide +kernel
          have lk2 : ("\nkeep " : Str).length = 6 := by decide +kernel
          have lnl : ("\n" : Str).length = 1 := by decide +kernel
          have ls := sum_len okN.len
          have lj := join_len " " ns
          rw [lsp] at lj
          obtain ⟨sm, esm⟩ : ∃ sm, sm = (ns.map (·.length)).sum := ⟨_, rfl⟩
          rw [← esm] at ls lj
          have ls2 : ns.length * 10 ≤ 40 := by omega
          refine ⟨⟨_, rfl⟩, _, rfl, _, nl, ns, rfl, rfl, .inl (SqL.of st4.en), by rw [lsp, ← esm]; omega, _, _, rfl, rfl, by rw [lg, e24]; omega, ?_⟩
          obtain ⟨hd, ehd⟩ : ∃ hd : Str, hd = "globals " ++ Txt.join " " ns := ⟨_, rfl⟩
          have lhd : hd.length ≤ 60 := by rw [ehd, len_add, lg]; omega
          rw [← ehd]
          have lx : text.length ≤ 7700 := by rw [← lt] at ll; omega
          obtain ⟨t0', tr, etr⟩ : ∃ t0' tr, trms = t0' :: tr := by
            cases trms with
            | nil => exact absurd lt1 (by decide)
            | cons x y => exact ⟨x, y, rfl⟩
          have ez : TL.tl (hd ++ " keep" ++ " " ++ text) = textL ns (t0' :: tr) := by
            rw [TL.tl_append, TL.tl_append, TL.tl_append, ehd, TL.tl_append, TL.join_eq, TL.tl_join, tt, etr]
            unfold textL
            have e1 : TL.tl ("globals " : Str) = TL.tl ("globals" : Str) ++ [32] := by decide +kernel
            have e2 : TL.tl (" keep" : Str) = [32] ++ TL.tl ("keep" : Str) := by decide +kernel
            have e3 : TL.tl (" " : Str) = [32] := by decide +kernel
            rw [e1, e2, e3]
            simp only [List.append_assoc, List.cons_append, List.nil_append]
          have lz : (hd ++ " keep" ++ " " ++ text).length ≤ 8000 := by rw [len_add, len_add, len_add, lk, lsp]; omega
          obtain ⟨ts, tk1, tk2, pa⟩ := prog_at nne (by omega) okN.name (fun x hx => (ok x (by rw [etr]; exact hx)).1) (by rw [etr] at lt7; have lt7 : tr.length + 1 ≤ 7 := lt7; omega) ez
          refine ⟨_, rfl, _, _, rfl, rfl, by rw [lk, e24]; omega, _, _, rfl, rfl, by rw [len_add, lk, lsp, e24]; omega, _, rfl, _, _, rfl, rfl, by rw [len_add, len_add, lk, lsp, e24]; omega, hd ++ " keep" ++ " " ++ text, ts, ns, (t0' :: tr).map tmT, rfl, by omega, tk1, by omega, pa, fun tre l H14 s14 ho he => ?_⟩
          rw [← etr] at ho he
          have ho : OfF fs l := by rw [efs]; exact ho
          have he : TreeAt H14 (.ref tre) ns C l := by rw [eC]; exact he
          have el : l = dl := by rw [edl]; exact due_eq (by rw [efs]; exact so.u) okN.nd (by rw [efs]; exact so.sub) ho hperm hsort
          subst el
          have st5 := st4.same s14
          have edu5 := edu.same (TSame.of s14)
          have ldl : l.length ≤ 4 := by
            rw [edl]
            refine Nat.le_trans (List.length_filter_le _ _) ?_
            rw [List.length_map]
            omega
          have fo0 : ∀ x ∈ l, x.2 ≠ 0 ∧ x.1 ∈ ns ∧ x.2.natAbs < 2 ^ 64 := by
            intro x hx
            rw [edl] at hx
            obtain ⟨h1, h2⟩ := List.mem_filter.mp hx
            obtain ⟨y, hy, rfl⟩ := List.mem_map.mp h1
            refine ⟨of_decide_eq_true h2, hperm.mem_iff.mp hy, ?_⟩
            have := so.fb y
            rw [← efs] at this
            show (getF fs y).natAbs < 2 ^ 64
            omega
          have fo : FacOk l := ⟨by omega, fun x hx => ⟨Nat.le_trans (okN.len _ (fo0 x hx).2.1) (by decide), (fo0 x hx).2.2⟩⟩
          have hC : C.natAbs < 2 ^ 64 := by
            have := so.cb
            rw [← eC] at this
            omega
          -- the same tree
          refine ⟨_, rfl, _, rfl, nl, _, rfl, .inl ⟨SqL.of st5.en, fun t1 ht1 => ⟨Nat.zero_le _, fun t2 ht2 => ⟨_, rfl, (by show 1 ≤ sizeLine; decide), fun t3 ht3 => ⟨Nat.zero_le _, fun t4 ht4 => ⟨(by show 4 ≤ sizeLine; decide), fun t5 ht5 => ?_⟩⟩⟩⟩⟩⟩
          have u1 := same_new (o := .tup (ns.map V.str)) ht1
          have u2 := same_new (o := .tup []) ht2
          have u3 := same_new (o := .tup [V.ref du]) ht3
          have u4 := same_new (o := .tup []) ht4
          have u5 := same_new (o := .tup [V.ref t1, V.ref t2, V.ref t3, V.ref t4]) ht5
          have u15 := (u1.trans u2).trans ((u3.trans u4).trans u5)
          have g1 := (u2.trans ((u3.trans u4).trans u5)) _ _ upd_same
          have g2 := ((u3.trans u4).trans u5) _ _ upd_same
          have g3 := (u4.trans u5) _ _ upd_same
          have g4 := u5 _ _ upd_same
          have he6 := he.same (TSame.of u15)
          have edu6 := edu5.same (TSame.of u15)
          have st6 := st5.same u15
          obtain ⟨H15, eH15⟩ : ∃ H15, H15 = upd (upd (upd (upd (upd H14 t1 (.tup (ns.map V.str))) t2 (.tup [])) t3 (.tup [V.ref du])) t4 (.tup [])) t5 (.tup [V.ref t1, V.ref t2, V.ref t3, V.ref t4]) := ⟨_, rfl⟩
          have g5 : H15 t5 = some (.tup [V.ref t1, V.ref t2, V.ref t3, V.ref t4]) := by rw [eH15, upd_same]
          rw [← eH15] at g1 g2 g3 g4 he6 edu6 st6
          rw [← eH15]
          obtain ⟨r', a1, b1, k1, p1, q1', e0, er, ea, eb, ek, ep, eq⟩ := id he6
          obtain rfl : tre = r' := by injection e0
          refine ⟨.ref tre, .ref t5, rfl, .inr ⟨tre, t5, _, _, rfl, rfl, er, g5, (by show 4 ≤ 1000; decide), .cons (.inr ⟨a1, t1, _, _, rfl, rfl, ea, g1, by rw [List.length_map]; omega, strs_same ns⟩) (.cons (emp_same eb g2) (.cons (.inr ⟨k1, t3, _, _, rfl, rfl, ek, g3, (by show 1 ≤ 1000; decide), .cons (expr_same ep edu6 (by omega)) .nil⟩) (.cons (emp_same eq g4) .nil)))⟩, fun H16 s16 => ⟨true, rfl, iteE rfl ?_⟩⟩
          -- the shown text
          have lx := exprS_len fo hC
          refine ⟨_, rfl, .ref tre, ns, C, l, rfl, he6.same (TSame.of s16), fo, hC, List.length_pos_iff.mpr nne, by omega, fun x hx => Nat.le_trans (okN.len x hx) (by decide), fun H17 s17 => ?_⟩
          have wr := writS_eq (c := C) (l := l) fun x hx => ⟨(fo0 x hx).1, name_ne (okN.name _ (fo0 x hx).2.1)⟩
          refine ⟨_, rfl, _, _, rfl, rfl, by rw [lk2, e24]; omega, _, rfl, du, C, l, rfl, edu6.same (TSame.of (s16.trans s17)), fo, hC, fun H18 s18 => ⟨_, _, rfl, rfl, by rw [wr, len_add, lk2, e24]; omega, _, _, rfl, rfl, by rw [wr, len_add, len_add, lk2, lnl, e24]; omega, rfl, ?_⟩⟩
          rw [wr, show_eq, ← ehd, decide_eq_true rfl]
          exact k _
end

theorem sq_kws {K : PySem.W.Frag} {a : Addr} {od : Option Addr} {n : Nat} {sl : Array (Option Value)} {its : List Value} (h : K.lookup a = some ⟨.type "tuple", od, .seq its.toArray n, sl⟩) (hv : Vals (KWS.map V.str) its) (H : Hp) : SqT K H a (KWS.map V.str) :=
  .inr ⟨_, _, n, h, rfl, rfl, by
    have e := hv.length
    rw [List.length_map] at e
    have e2 : KWS.length = 16 := rfl
    show its.toArray.size ≤ sizeLine
    rw [List.size_toArray, ← e, e2]
    decide, by simpa using hv⟩
theorem all_mk {l : PySem.W.OpenLaw} {w : World} {K : PySem.W.Frag} {h : Heap} {mg : Str → Option Value} {fa fMixed fDraw fPool fKindOf fEndRun fToksOf fExprOf fParse fShTerm fShExpr fShow fLSame fLTerm fLWrit fNames fLaw a_KEYWORDS CReader fRIni fRCur fRNext fRAcc fRName fRRow fRTerm fRExpr fRProg : Addr} (X : K.In h) (G : h.Ns mainGlobals mg) (hfa : mg "law" = some (.ref fa))
    {odMixed anMixed : Option Addr} {slMixed : Array (Option Value)} {ocMixed kVMixed dcMixed pmMixed cdMixed ctMixed : Value}
    (aMixed : PySem.W.nsIn K mainGlobals "_law_mixed" = some (some (.ref fMixed))) (lMixed : K.lookup fMixed = some ⟨ocMixed, odMixed, .func (PySem.W.fnOf "_law_mixed" "_law_mixed" (defArgs sMixed) (defBody sMixed) (defScope sMixed) .none kVMixed dcMixed pmMixed anMixed cdMixed ctMixed), slMixed⟩) (cMixed : PySem.W.codeIn K cdMixed "_law_mixed" = true) (kMixed : PySem.W.keepIn K (.ref fMixed) = true)
    {odDraw anDraw : Option Addr} {slDraw : Array (Option Value)} {ocDraw kVDraw dcDraw pmDraw cdDraw ctDraw : Value}
    (aDraw : PySem.W.nsIn K mainGlobals "_law_draw" = some (some (.ref fDraw))) (lDraw : K.lookup fDraw = some ⟨ocDraw, odDraw, .func (PySem.W.fnOf "_law_draw" "_law_draw" (defArgs sDraw) (defBody sDraw) (defScope sDraw) .none kVDraw dcDraw pmDraw anDraw cdDraw ctDraw), slDraw⟩) (cDraw : PySem.W.codeIn K cdDraw "_law_draw" = true) (kDraw : PySem.W.keepIn K (.ref fDraw) = true)
    {odPool anPool : Option Addr} {slPool : Array (Option Value)} {ocPool kVPool dcPool pmPool cdPool ctPool : Value}
    (aPool : PySem.W.nsIn K mainGlobals "_law_pool" = some (some (.ref fPool))) (lPool : K.lookup fPool = some ⟨ocPool, odPool, .func (PySem.W.fnOf "_law_pool" "_law_pool" (defArgs sPool) (defBody sPool) (defScope sPool) .none kVPool dcPool pmPool anPool cdPool ctPool), slPool⟩) (cPool : PySem.W.codeIn K cdPool "_law_pool" = true) (kPool : PySem.W.keepIn K (.ref fPool) = true)
    {odKindOf anKindOf : Option Addr} {slKindOf : Array (Option Value)} {ocKindOf kVKindOf dcKindOf pmKindOf cdKindOf ctKindOf : Value}
    (aKindOf : PySem.W.nsIn K mainGlobals "kind_of" = some (some (.ref fKindOf))) (lKindOf : K.lookup fKindOf = some ⟨ocKindOf, odKindOf, .func (PySem.W.fnOf "kind_of" "kind_of" (defArgs sKindOf) (defBody sKindOf) (defScope sKindOf) .none kVKindOf dcKindOf pmKindOf anKindOf cdKindOf ctKindOf), slKindOf⟩) (cKindOf : PySem.W.codeIn K cdKindOf "kind_of" = true) (kKindOf : PySem.W.keepIn K (.ref fKindOf) = true)
    {odEndRun anEndRun : Option Addr} {slEndRun : Array (Option Value)} {ocEndRun kVEndRun dcEndRun pmEndRun cdEndRun ctEndRun : Value}
    (aEndRun : PySem.W.nsIn K mainGlobals "end_of_run" = some (some (.ref fEndRun))) (lEndRun : K.lookup fEndRun = some ⟨ocEndRun, odEndRun, .func (PySem.W.fnOf "end_of_run" "end_of_run" (defArgs sEndRun) (defBody sEndRun) (defScope sEndRun) .none kVEndRun dcEndRun pmEndRun anEndRun cdEndRun ctEndRun), slEndRun⟩) (cEndRun : PySem.W.codeIn K cdEndRun "end_of_run" = true) (kEndRun : PySem.W.keepIn K (.ref fEndRun) = true)
    {odToksOf anToksOf : Option Addr} {slToksOf : Array (Option Value)} {ocToksOf kVToksOf dcToksOf pmToksOf cdToksOf ctToksOf : Value}
    (aToksOf : PySem.W.nsIn K mainGlobals "tokens_of" = some (some (.ref fToksOf))) (lToksOf : K.lookup fToksOf = some ⟨ocToksOf, odToksOf, .func (PySem.W.fnOf "tokens_of" "tokens_of" (defArgs sToksOf) (defBody sToksOf) (defScope sToksOf) .none kVToksOf dcToksOf pmToksOf anToksOf cdToksOf ctToksOf), slToksOf⟩) (cToksOf : PySem.W.codeIn K cdToksOf "tokens_of" = true) (kToksOf : PySem.W.keepIn K (.ref fToksOf) = true)
    {odExprOf anExprOf : Option Addr} {slExprOf : Array (Option Value)} {ocExprOf kVExprOf dcExprOf pmExprOf cdExprOf ctExprOf : Value}
    (aExprOf : PySem.W.nsIn K mainGlobals "expression_of" = some (some (.ref fExprOf))) (lExprOf : K.lookup fExprOf = some ⟨ocExprOf, odExprOf, .func (PySem.W.fnOf "expression_of" "expression_of" (defArgs sExprOf) (defBody sExprOf) (defScope sExprOf) .none kVExprOf dcExprOf pmExprOf anExprOf cdExprOf ctExprOf), slExprOf⟩) (cExprOf : PySem.W.codeIn K cdExprOf "expression_of" = true) (kExprOf : PySem.W.keepIn K (.ref fExprOf) = true)
    {odParse anParse : Option Addr} {slParse : Array (Option Value)} {ocParse kVParse dcParse pmParse cdParse ctParse : Value}
    (aParse : PySem.W.nsIn K mainGlobals "parse" = some (some (.ref fParse))) (lParse : K.lookup fParse = some ⟨ocParse, odParse, .func (PySem.W.fnOf "parse" "parse" (defArgs sParse) (defBody sParse) (defScope sParse) .none kVParse dcParse pmParse anParse cdParse ctParse), slParse⟩) (cParse : PySem.W.codeIn K cdParse "parse" = true) (kParse : PySem.W.keepIn K (.ref fParse) = true)
    {odShTerm anShTerm : Option Addr} {slShTerm : Array (Option Value)} {ocShTerm kVShTerm dcShTerm pmShTerm cdShTerm ctShTerm : Value}
    (aShTerm : PySem.W.nsIn K mainGlobals "shown_term" = some (some (.ref fShTerm))) (lShTerm : K.lookup fShTerm = some ⟨ocShTerm, odShTerm, .func (PySem.W.fnOf "shown_term" "shown_term" (defArgs sShTerm) (defBody sShTerm) (defScope sShTerm) .none kVShTerm dcShTerm pmShTerm anShTerm cdShTerm ctShTerm), slShTerm⟩) (cShTerm : PySem.W.codeIn K cdShTerm "shown_term" = true) (kShTerm : PySem.W.keepIn K (.ref fShTerm) = true)
    {odShExpr anShExpr : Option Addr} {slShExpr : Array (Option Value)} {ocShExpr kVShExpr dcShExpr pmShExpr cdShExpr ctShExpr : Value}
    (aShExpr : PySem.W.nsIn K mainGlobals "show_expression" = some (some (.ref fShExpr))) (lShExpr : K.lookup fShExpr = some ⟨ocShExpr, odShExpr, .func (PySem.W.fnOf "show_expression" "show_expression" (defArgs sShExpr) (defBody sShExpr) (defScope sShExpr) .none kVShExpr dcShExpr pmShExpr anShExpr cdShExpr ctShExpr), slShExpr⟩) (cShExpr : PySem.W.codeIn K cdShExpr "show_expression" = true) (kShExpr : PySem.W.keepIn K (.ref fShExpr) = true)
    {odShow anShow : Option Addr} {slShow : Array (Option Value)} {ocShow kVShow dcShow pmShow cdShow ctShow : Value}
    (aShow : PySem.W.nsIn K mainGlobals "show" = some (some (.ref fShow))) (lShow : K.lookup fShow = some ⟨ocShow, odShow, .func (PySem.W.fnOf "show" "show" (defArgs sShow) (defBody sShow) (defScope sShow) .none kVShow dcShow pmShow anShow cdShow ctShow), slShow⟩) (cShow : PySem.W.codeIn K cdShow "show" = true) (kShow : PySem.W.keepIn K (.ref fShow) = true)
    {odLSame anLSame : Option Addr} {slLSame : Array (Option Value)} {ocLSame kVLSame dcLSame pmLSame cdLSame ctLSame : Value}
    (aLSame : PySem.W.nsIn K mainGlobals "_law_same" = some (some (.ref fLSame))) (lLSame : K.lookup fLSame = some ⟨ocLSame, odLSame, .func (PySem.W.fnOf "_law_same" "_law_same" (defArgs sLSame) (defBody sLSame) (defScope sLSame) .none kVLSame dcLSame pmLSame anLSame cdLSame ctLSame), slLSame⟩) (cLSame : PySem.W.codeIn K cdLSame "_law_same" = true) (kLSame : PySem.W.keepIn K (.ref fLSame) = true)
    {odLTerm anLTerm : Option Addr} {slLTerm : Array (Option Value)} {ocLTerm kVLTerm dcLTerm pmLTerm cdLTerm ctLTerm : Value}
    (aLTerm : PySem.W.nsIn K mainGlobals "_law_term" = some (some (.ref fLTerm))) (lLTerm : K.lookup fLTerm = some ⟨ocLTerm, odLTerm, .func (PySem.W.fnOf "_law_term" "_law_term" (defArgs sLTerm) (defBody sLTerm) (defScope sLTerm) .none kVLTerm dcLTerm pmLTerm anLTerm cdLTerm ctLTerm), slLTerm⟩) (cLTerm : PySem.W.codeIn K cdLTerm "_law_term" = true) (kLTerm : PySem.W.keepIn K (.ref fLTerm) = true)
    {odLWrit anLWrit : Option Addr} {slLWrit : Array (Option Value)} {ocLWrit kVLWrit dcLWrit pmLWrit cdLWrit ctLWrit : Value}
    (aLWrit : PySem.W.nsIn K mainGlobals "_law_written" = some (some (.ref fLWrit))) (lLWrit : K.lookup fLWrit = some ⟨ocLWrit, odLWrit, .func (PySem.W.fnOf "_law_written" "_law_written" (defArgs sLWrit) (defBody sLWrit) (defScope sLWrit) .none kVLWrit dcLWrit pmLWrit anLWrit cdLWrit ctLWrit), slLWrit⟩) (cLWrit : PySem.W.codeIn K cdLWrit "_law_written" = true) (kLWrit : PySem.W.keepIn K (.ref fLWrit) = true)
    {odNames anNames : Option Addr} {slNames : Array (Option Value)} {ocNames kVNames dcNames pmNames cdNames ctNames : Value}
    (aNames : PySem.W.nsIn K mainGlobals "_law_names" = some (some (.ref fNames))) (lNames : K.lookup fNames = some ⟨ocNames, odNames, .func (PySem.W.fnOf "_law_names" "_law_names" (defArgs sNames) (defBody sNames) (defScope sNames) .none kVNames dcNames pmNames anNames cdNames ctNames), slNames⟩) (cNames : PySem.W.codeIn K cdNames "_law_names" = true) (kNames : PySem.W.keepIn K (.ref fNames) = true)
    {odLaw anLaw : Option Addr} {slLaw : Array (Option Value)} {ocLaw kVLaw dcLaw pmLaw cdLaw ctLaw : Value}
    (aLaw : PySem.W.nsIn K mainGlobals "law" = some (some (.ref fLaw))) (lLaw : K.lookup fLaw = some ⟨ocLaw, odLaw, .func (PySem.W.fnOf "law" "law" (defArgs sLaw) (defBody sLaw) (defScope sLaw) .none kVLaw dcLaw pmLaw anLaw cdLaw ctLaw), slLaw⟩) (cLaw : PySem.W.codeIn K cdLaw "law" = true) (kLaw : PySem.W.keepIn K (.ref fLaw) = true)
    (aReader : PySem.W.nsIn K mainGlobals "Reader" = some (some (.ref CReader)))
    (pgReader : PySem.W.plainGet K CReader Str.empty = true) (hdReader : PySem.W.hasDictIn K CReader = true) (poReader : PySem.W.plainOver K CReader = true) (saReader : PySem.W.findIn K (.ref CReader) "__setattr__" = some (some (.builtin "object.__setattr__"))) (mkReader : PySem.W.makesIn K CReader = true) (kcReader : PySem.W.keepIn K (.ref CReader) = true)
    (noReader_tokens : PySem.W.findIn K (.ref CReader) "tokens" = some none)
    (noReader_index_of_token : PySem.W.findIn K (.ref CReader) "index_of_token" = some none)
    (noReader_depth : PySem.W.findIn K (.ref CReader) "depth" = some none)
    {odRIni anRIni : Option Addr} {slRIni : Array (Option Value)} {ocRIni kVRIni dcRIni pmRIni cdRIni ctRIni : Value}
    (aRIni : PySem.W.findIn K (.ref CReader) "__init__" = some (some (.ref fRIni))) (iRIni : PySem.W.isFn K (.ref fRIni) = true)
    (lRIni : K.lookup fRIni = some ⟨ocRIni, odRIni, .func (PySem.W.fnOf "__init__" "Reader.__init__" (defArgs sRIni) (defBody sRIni) (defScope sRIni) .none kVRIni dcRIni pmRIni anRIni cdRIni ctRIni), slRIni⟩) (cRIni : PySem.W.codeIn K cdRIni "Reader.__init__" = true) (kRIni : PySem.W.keepIn K (.ref fRIni) = true)
    {odRCur anRCur : Option Addr} {slRCur : Array (Option Value)} {ocRCur kVRCur dcRCur pmRCur cdRCur ctRCur : Value}
    (aRCur : PySem.W.findIn K (.ref CReader) "current" = some (some (.ref fRCur))) (iRCur : PySem.W.isFn K (.ref fRCur) = true)
    (lRCur : K.lookup fRCur = some ⟨ocRCur, odRCur, .func (PySem.W.fnOf "current" "Reader.current" (defArgs sRCur) (defBody sRCur) (defScope sRCur) .none kVRCur dcRCur pmRCur anRCur cdRCur ctRCur), slRCur⟩) (cRCur : PySem.W.codeIn K cdRCur "Reader.current" = true) (kRCur : PySem.W.keepIn K (.ref fRCur) = true)
    {odRNext anRNext : Option Addr} {slRNext : Array (Option Value)} {ocRNext kVRNext dcRNext pmRNext cdRNext ctRNext : Value}
    (aRNext : PySem.W.findIn K (.ref CReader) "is_next" = some (some (.ref fRNext))) (iRNext : PySem.W.isFn K (.ref fRNext) = true)
    (lRNext : K.lookup fRNext = some ⟨ocRNext, odRNext, .func (PySem.W.fnOf "is_next" "Reader.is_next" (defArgs sRNext) (defBody sRNext) (defScope sRNext) .none kVRNext dcRNext pmRNext anRNext cdRNext ctRNext), slRNext⟩) (cRNext : PySem.W.codeIn K cdRNext "Reader.is_next" = true) (kRNext : PySem.W.keepIn K (.ref fRNext) = true)
    {odRAcc anRAcc : Option Addr} {slRAcc : Array (Option Value)} {ocRAcc kVRAcc dcRAcc pmRAcc cdRAcc ctRAcc : Value}
    (aRAcc : PySem.W.findIn K (.ref CReader) "accept" = some (some (.ref fRAcc))) (iRAcc : PySem.W.isFn K (.ref fRAcc) = true)
    (lRAcc : K.lookup fRAcc = some ⟨ocRAcc, odRAcc, .func (PySem.W.fnOf "accept" "Reader.accept" (defArgs sRAcc) (defBody sRAcc) (defScope sRAcc) .none kVRAcc dcRAcc pmRAcc anRAcc cdRAcc ctRAcc), slRAcc⟩) (cRAcc : PySem.W.codeIn K cdRAcc "Reader.accept" = true) (kRAcc : PySem.W.keepIn K (.ref fRAcc) = true)
    {odRName anRName : Option Addr} {slRName : Array (Option Value)} {ocRName kVRName dcRName pmRName cdRName ctRName : Value}
    (aRName : PySem.W.findIn K (.ref CReader) "read_name" = some (some (.ref fRName))) (iRName : PySem.W.isFn K (.ref fRName) = true)
    (lRName : K.lookup fRName = some ⟨ocRName, odRName, .func (PySem.W.fnOf "read_name" "Reader.read_name" (defArgs sRName) (defBody sRName) (defScope sRName) .none kVRName dcRName pmRName anRName cdRName ctRName), slRName⟩) (cRName : PySem.W.codeIn K cdRName "Reader.read_name" = true) (kRName : PySem.W.keepIn K (.ref fRName) = true)
    {odRRow anRRow : Option Addr} {slRRow : Array (Option Value)} {ocRRow kVRRow dcRRow pmRRow cdRRow ctRRow : Value}
    (aRRow : PySem.W.findIn K (.ref CReader) "read_row" = some (some (.ref fRRow))) (iRRow : PySem.W.isFn K (.ref fRRow) = true)
    (lRRow : K.lookup fRRow = some ⟨ocRRow, odRRow, .func (PySem.W.fnOf "read_row" "Reader.read_row" (defArgs sRRow) (defBody sRRow) (defScope sRRow) .none kVRRow dcRRow pmRRow anRRow cdRRow ctRRow), slRRow⟩) (cRRow : PySem.W.codeIn K cdRRow "Reader.read_row" = true) (kRRow : PySem.W.keepIn K (.ref fRRow) = true)
    {odRTerm anRTerm : Option Addr} {slRTerm : Array (Option Value)} {ocRTerm kVRTerm dcRTerm pmRTerm cdRTerm ctRTerm : Value}
    (aRTerm : PySem.W.findIn K (.ref CReader) "read_term" = some (some (.ref fRTerm))) (iRTerm : PySem.W.isFn K (.ref fRTerm) = true)
    (lRTerm : K.lookup fRTerm = some ⟨ocRTerm, odRTerm, .func (PySem.W.fnOf "read_term" "Reader.read_term" (defArgs sRTerm) (defBody sRTerm) (defScope sRTerm) .none kVRTerm dcRTerm pmRTerm anRTerm cdRTerm ctRTerm), slRTerm⟩) (cRTerm : PySem.W.codeIn K cdRTerm "Reader.read_term" = true) (kRTerm : PySem.W.keepIn K (.ref fRTerm) = true)
    {odRExpr anRExpr : Option Addr} {slRExpr : Array (Option Value)} {ocRExpr kVRExpr dcRExpr pmRExpr cdRExpr ctRExpr : Value}
    (aRExpr : PySem.W.findIn K (.ref CReader) "read_expression" = some (some (.ref fRExpr))) (iRExpr : PySem.W.isFn K (.ref fRExpr) = true)
    (lRExpr : K.lookup fRExpr = some ⟨ocRExpr, odRExpr, .func (PySem.W.fnOf "read_expression" "Reader.read_expression" (defArgs sRExpr) (defBody sRExpr) (defScope sRExpr) .none kVRExpr dcRExpr pmRExpr anRExpr cdRExpr ctRExpr), slRExpr⟩) (cRExpr : PySem.W.codeIn K cdRExpr "Reader.read_expression" = true) (kRExpr : PySem.W.keepIn K (.ref fRExpr) = true)
    {odRProg anRProg : Option Addr} {slRProg : Array (Option Value)} {ocRProg kVRProg dcRProg pmRProg cdRProg ctRProg : Value}
    (aRProg : PySem.W.findIn K (.ref CReader) "read_program" = some (some (.ref fRProg))) (iRProg : PySem.W.isFn K (.ref fRProg) = true)
    (lRProg : K.lookup fRProg = some ⟨ocRProg, odRProg, .func (PySem.W.fnOf "read_program" "Reader.read_program" (defArgs sRProg) (defBody sRProg) (defScope sRProg) .none kVRProg dcRProg pmRProg anRProg cdRProg ctRProg), slRProg⟩) (cRProg : PySem.W.codeIn K cdRProg "Reader.read_program" = true) (kRProg : PySem.W.keepIn K (.ref fRProg) = true)
    (n_int : PySem.W.nsIn K mainGlobals "int" = some none)
    (n_len : PySem.W.nsIn K mainGlobals "len" = some none)
    (n_isinstance : PySem.W.nsIn K mainGlobals "isinstance" = some none)
    (n_str : PySem.W.nsIn K mainGlobals "str" = some none)
    (n_all : PySem.W.nsIn K mainGlobals "all" = some none)
    (n_range : PySem.W.nsIn K mainGlobals "range" = some none)
    (n_bool : PySem.W.nsIn K mainGlobals "bool" = some none)
    (n_tuple : PySem.W.nsIn K mainGlobals "tuple" = some none)
    (n_list : PySem.W.nsIn K mainGlobals "list" = some none)
    (n_abs : PySem.W.nsIn K mainGlobals "abs" = some none)
    (n_sorted : PySem.W.nsIn K mainGlobals "sorted" = some none)
    {t_LETTERS : Tok} (c_LETTERS : PySem.W.nsIn K mainGlobals "LETTERS" = some (some (.str LET t_LETTERS)))
    {t_DIGITS : Tok} (c_DIGITS : PySem.W.nsIn K mainGlobals "DIGITS" = some (some (.str DIG t_DIGITS)))
    {t_SIGNS : Tok} (c_SIGNS : PySem.W.nsIn K mainGlobals "SIGNS" = some (some (.str SIG t_SIGNS)))
    {t_LONGEST : Tok} (c_LONGEST : PySem.W.nsIn K mainGlobals "LONGEST" = some (some (.int 12 t_LONGEST)))
    {t_KEYWORDS0 t_KEYWORDS1 t_KEYWORDS2 t_KEYWORDS3 t_KEYWORDS4 t_KEYWORDS5 t_KEYWORDS6 t_KEYWORDS7 t_KEYWORDS8 t_KEYWORDS9 t_KEYWORDS10 t_KEYWORDS11 t_KEYWORDS12 t_KEYWORDS13 t_KEYWORDS14 t_KEYWORDS15 : Tok} {od_KEYWORDS : Option Addr} {z_KEYWORDS : Nat} {sl_KEYWORDS : Array (Option Value)} (c_KEYWORDS : PySem.W.nsIn K mainGlobals "KEYWORDS" = some (some (.ref a_KEYWORDS))) (l_KEYWORDS : K.lookup a_KEYWORDS = some ⟨.type "tuple", od_KEYWORDS, .seq #[.str "globals" t_KEYWORDS0, .str "kinds" t_KEYWORDS1, .str "keep" t_KEYWORDS2, .str "def" t_KEYWORDS3, .str "if" t_KEYWORDS4, .str "else" t_KEYWORDS5, .str "while" t_KEYWORDS6, .str "risk" t_KEYWORDS7, .str "raise" t_KEYWORDS8, .str "try" t_KEYWORDS9, .str "except" t_KEYWORDS10, .str "finally" t_KEYWORDS11, .str "undo" t_KEYWORDS12, .str "with" t_KEYWORDS13, .str "swallow" t_KEYWORDS14, .str "return" t_KEYWORDS15] z_KEYWORDS, sl_KEYWORDS⟩)
    : ∃ fd : FuncData, (∀ (s : Shared) (v : Value), BindsTo s fd ⟨[v], []⟩ [("_law_script", v)]) ∧ ∀ base : Heap, K.In base → base.Ns mainGlobals mg → FnOk l.prog w K mg base CX0 8 fa fd PLaw (spLaw K) := by
  have e := hfa.symm.trans (PySem.W.mg_of X G aLaw)
  cases e
  have FMixed := fun_mk (st := sMixed) lMixed cMixed kMixed
  have bMixed := FMixed.binds (ps := PMixed) fun _ _ _ _ _ _ us hl => match us, hl with | [_, _, _], _ => rfl
  have gMixed := PySem.W.mg_of X G aMixed
  have FDraw := fun_mk (st := sDraw) lDraw cDraw kDraw
  have bDraw := FDraw.binds (ps := PDraw) fun _ _ _ _ _ _ us hl => match us, hl with | [_, _], _ => rfl
  have gDraw := PySem.W.mg_of X G aDraw
  have FPool := fun_mk (st := sPool) lPool cPool kPool
  have bPool := FPool.binds (ps := PPool) fun _ _ _ _ _ _ us hl => match us, hl with | [_], _ => rfl
  have gPool := PySem.W.mg_of X G aPool
  have FKindOf := fun_mk (st := sKindOf) lKindOf cKindOf kKindOf
  have bKindOf := FKindOf.binds (ps := PKindOf) fun _ _ _ _ _ _ us hl => match us, hl with | [_], _ => rfl
  have gKindOf := PySem.W.mg_of X G aKindOf
  have FEndRun := fun_mk (st := sEndRun) lEndRun cEndRun kEndRun
  have bEndRun := FEndRun.binds (ps := PEndRun) fun _ _ _ _ _ _ us hl => match us, hl with | [_, _], _ => rfl
  have gEndRun := PySem.W.mg_of X G aEndRun
  have FToksOf := fun_mk (st := sToksOf) lToksOf cToksOf kToksOf
  have bToksOf := FToksOf.binds (ps := PToksOf) fun _ _ _ _ _ _ us hl => match us, hl with | [_], _ => rfl
  have gToksOf := PySem.W.mg_of X G aToksOf
  have FExprOf := fun_mk (st := sExprOf) lExprOf cExprOf kExprOf
  have bExprOf := FExprOf.binds (ps := PExprOf) fun _ _ _ _ _ _ us hl => match us, hl with | [_, _], _ => rfl
  have gExprOf := PySem.W.mg_of X G aExprOf
  have FParse := fun_mk (st := sParse) lParse cParse kParse
  have bParse := FParse.binds (ps := PParse) fun _ _ _ _ _ _ us hl => match us, hl with | [_], _ => rfl
  have gParse := PySem.W.mg_of X G aParse
  have FShTerm := fun_mk (st := sShTerm) lShTerm cShTerm kShTerm
  have bShTerm := FShTerm.binds (ps := PShTerm) fun _ _ _ _ _ _ us hl => match us, hl with | [_, _], _ => rfl
  have gShTerm := PySem.W.mg_of X G aShTerm
  have FShExpr := fun_mk (st := sShExpr) lShExpr cShExpr kShExpr
  have bShExpr := FShExpr.binds (ps := PShExpr) fun _ _ _ _ _ _ us hl => match us, hl with | [_], _ => rfl
  have gShExpr := PySem.W.mg_of X G aShExpr
  have FShow := fun_mk (st := sShow) lShow cShow kShow
  have bShow := FShow.binds (ps := PShow) fun _ _ _ _ _ _ us hl => match us, hl with | [_], _ => rfl
  have gShow := PySem.W.mg_of X G aShow
  have FLSame := fun_mk (st := sLSame) lLSame cLSame kLSame
  have bLSame := FLSame.binds (ps := PLSame) fun _ _ _ _ _ _ us hl => match us, hl with | [_, _], _ => rfl
  have gLSame := PySem.W.mg_of X G aLSame
  have FLTerm := fun_mk (st := sLTerm) lLTerm cLTerm kLTerm
  have bLTerm := FLTerm.binds (ps := PLTerm) fun _ _ _ _ _ _ us hl => match us, hl with | [_, _, _], _ => rfl
  have gLTerm := PySem.W.mg_of X G aLTerm
  have FLWrit := fun_mk (st := sLWrit) lLWrit cLWrit kLWrit
  have bLWrit := FLWrit.binds (ps := PLWrit) fun _ _ _ _ _ _ us hl => match us, hl with | [_], _ => rfl
  have gLWrit := PySem.W.mg_of X G aLWrit
  have FNames := fun_mk (st := sNames) lNames cNames kNames
  have bNames := FNames.binds (ps := PNames) fun _ _ _ _ _ _ us hl => match us, hl with | [_], _ => rfl
  have gNames := PySem.W.mg_of X G aNames
  have FLaw := fun_mk (st := sLaw) lLaw cLaw kLaw
  have bLaw := FLaw.binds (ps := PLaw) fun _ _ _ _ _ _ us hl => match us, hl with | [_], _ => rfl
  have gLaw := PySem.W.mg_of X G aLaw
  have gReader := PySem.W.mg_of X G aReader
  have clReader : Cls K CReader := ⟨pgReader, hdReader, poReader, saReader⟩
  have meRIni : Meth K CReader "__init__" fRIni := ⟨aRIni, iRIni, kRIni⟩
  have FRIni := fun_mk (st := sRIni) lRIni cRIni kRIni
  have bRIni := FRIni.binds (ps := PRIni) fun _ _ _ _ _ _ us hl => match us, hl with | [_, _], _ => rfl
  have meRCur : Meth K CReader "current" fRCur := ⟨aRCur, iRCur, kRCur⟩
  have FRCur := fun_mk (st := sRCur) lRCur cRCur kRCur
  have bRCur := FRCur.binds (ps := PRCur) fun _ _ _ _ _ _ us hl => match us, hl with | [_], _ => rfl
  have meRNext : Meth K CReader "is_next" fRNext := ⟨aRNext, iRNext, kRNext⟩
  have FRNext := fun_mk (st := sRNext) lRNext cRNext kRNext
  have bRNext := FRNext.binds (ps := PRNext) fun _ _ _ _ _ _ us hl => match us, hl with | [_, _], _ => rfl
  have meRAcc : Meth K CReader "accept" fRAcc := ⟨aRAcc, iRAcc, kRAcc⟩
  have FRAcc := fun_mk (st := sRAcc) lRAcc cRAcc kRAcc
  have bRAcc := FRAcc.binds (ps := PRAcc) fun _ _ _ _ _ _ us hl => match us, hl with | [_, _], _ => rfl
  have meRName : Meth K CReader "read_name" fRName := ⟨aRName, iRName, kRName⟩
  have FRName := fun_mk (st := sRName) lRName cRName kRName
  have bRName := FRName.binds (ps := PRName) fun _ _ _ _ _ _ us hl => match us, hl with | [_], _ => rfl
  have meRRow : Meth K CReader "read_row" fRRow := ⟨aRRow, iRRow, kRRow⟩
  have FRRow := fun_mk (st := sRRow) lRRow cRRow kRRow
  have bRRow := FRRow.binds (ps := PRRow) fun _ _ _ _ _ _ us hl => match us, hl with | [_], _ => rfl
  have meRTerm : Meth K CReader "read_term" fRTerm := ⟨aRTerm, iRTerm, kRTerm⟩
  have FRTerm := fun_mk (st := sRTerm) lRTerm cRTerm kRTerm
  have bRTerm := FRTerm.binds (ps := PRTerm) fun _ _ _ _ _ _ us hl => match us, hl with | [_], _ => rfl
  have meRExpr : Meth K CReader "read_expression" fRExpr := ⟨aRExpr, iRExpr, kRExpr⟩
  have FRExpr := fun_mk (st := sRExpr) lRExpr cRExpr kRExpr
  have bRExpr := FRExpr.binds (ps := PRExpr) fun _ _ _ _ _ _ us hl => match us, hl with | [_], _ => rfl
  have meRProg : Meth K CReader "read_program" fRProg := ⟨aRProg, iRProg, kRProg⟩
  have FRProg := fun_mk (st := sRProg) lRProg cRProg kRProg
  have bRProg := FRProg.binds (ps := PRProg) fun _ _ _ _ _ _ us hl => match us, hl with | [_], _ => rfl
  have m_int := PySem.W.mg_none_of X G n_int
  have m_len := PySem.W.mg_none_of X G n_len
  have m_isinstance := PySem.W.mg_none_of X G n_isinstance
  have m_str := PySem.W.mg_none_of X G n_str
  have m_all := PySem.W.mg_none_of X G n_all
  have m_range := PySem.W.mg_none_of X G n_range
  have m_bool := PySem.W.mg_none_of X G n_bool
  have m_tuple := PySem.W.mg_none_of X G n_tuple
  have m_list := PySem.W.mg_none_of X G n_list
  have m_abs := PySem.W.mg_none_of X G n_abs
  have m_sorted := PySem.W.mg_none_of X G n_sorted
  have m_LETTERS := PySem.W.mg_of X G c_LETTERS
  have m_DIGITS := PySem.W.mg_of X G c_DIGITS
  have m_SIGNS := PySem.W.mg_of X G c_SIGNS
  have m_LONGEST := PySem.W.mg_of X G c_LONGEST
  have m_KEYWORDS := PySem.W.mg_of X G c_KEYWORDS

  have T0 : TxPool mg := ⟨m_int, m_len⟩
  have TT : TxTok K mg a_KEYWORDS := { n_len := m_len, c_LETTERS := ⟨_, m_LETTERS, _, rfl⟩, c_DIGITS := ⟨_, m_DIGITS, _, rfl⟩, c_SIGNS := ⟨_, m_SIGNS, _, rfl⟩, c_KEYWORDS := ⟨_, m_KEYWORDS, rfl⟩, kws := sq_kws (its := _) l_KEYWORDS (by repeat (first | exact Paired.nil | refine Paired.cons ⟨_, rfl⟩ ?_)) }
  have TD : TxRd mg := { n_tuple := m_tuple, n_len := m_len, n_int := m_int, n_sorted := m_sorted }
  have TS : TxSum mg := { toTxRd := TD, c_LONGEST := ⟨_, m_LONGEST, _, rfl⟩ }
  have TR : TxR K CReader := ⟨clReader, noReader_tokens, noReader_index_of_token, noReader_depth⟩
  refine ⟨PySem.W.fnOf "law" "law" (defArgs sLaw) (defBody sLaw) (defScope sLaw) .none kVLaw dcLaw pmLaw anLaw cdLaw ctLaw, fun s v => .of_eq rfl, fun base kB gB => ?_⟩
  have GM : Has l.prog w K mg base CX0 1 "_law_mixed" PMixed spMixed := ⟨_, _, ok_Mixed FMixed T0, gMixed, kMixed, bMixed⟩
  have GD : Has l.prog w K mg base CX0 2 "_law_draw" PDraw spDraw := ⟨_, _, ok_Draw FDraw T0 GM, gDraw, kDraw, bDraw⟩
  have GP : Has l.prog w K mg base CX0 1 "_law_pool" PPool (spPool K) := ⟨_, _, ok_Pool FPool T0, gPool, kPool, bPool⟩
  have GN : Has l.prog w K mg base CX0 3 "_law_names" PNames spNames := ⟨_, _, ok_Names FNames ⟨m_str, m_range⟩ GD, gNames, kNames, bNames⟩
  have GK : Has l.prog w K mg base CX0 1 "kind_of" PKindOf spKind := ⟨_, _, ok_KindOf FKindOf TT, gKindOf, kKindOf, bKindOf⟩
  have GE : Has l.prog w K mg base CX0 1 "end_of_run" PEndRun spEnd := ⟨_, _, ok_EndRun FEndRun TT, gEndRun, kEndRun, bEndRun⟩
  have GTo : Has l.prog w K mg base CX0 2 "tokens_of" PToksOf spToks := ⟨_, _, ok_ToksOf FToksOf TT GK GE, gToksOf, kToksOf, bToksOf⟩
  have GEx : Has l.prog w K mg base CX0 1 "expression_of" PExprOf spExprOf := ⟨_, _, ok_ExprOf FExprOf TS, gExprOf, kExprOf, bExprOf⟩
  have HC : HasC l.prog w K mg base CX0 3 "Reader" CReader PRIni (spRIni CReader) := ⟨_, _, ⟨mkReader, aRIni, iRIni, kcReader⟩, ok_RIni FRIni TR GTo, gReader, bRIni⟩
  have MC : HasM l.prog w K mg base CX0 1 CReader "current" PRCur (spCurr CReader) := ⟨_, _, meRCur, ok_RCur FRCur TR, bRCur⟩
  have MN : HasM l.prog w K mg base CX0 2 CReader "is_next" PRNext (spNext CReader) := ⟨_, _, meRNext, ok_RNext FRNext TR MC, bRNext⟩
  have MA : HasM l.prog w K mg base CX0 3 CReader "accept" PRAcc (spAcc CReader) := ⟨_, _, meRAcc, ok_RAcc FRAcc TR MN, bRAcc⟩
  have MM : HasM l.prog w K mg base CX0 2 CReader "read_name" PRName (spRName CReader) := ⟨_, _, meRName, ok_RName FRName TR MC, bRName⟩
  have MR : HasM l.prog w K mg base CX0 3 CReader "read_row" PRRow (spRow CReader) := ⟨_, _, meRRow, ok_RRow FRRow TD TR MC MM, bRRow⟩
  have MT : HasM l.prog w K mg base CX0 4 CReader "read_term" PRTerm (spTerm CReader) := ⟨_, _, meRTerm, ok_RTerm FRTerm TS TR MC MM MA, bRTerm⟩
  have ME : HasM l.prog w K mg base CX0 5 CReader "read_expression" PRExpr (spExpr CReader) := ⟨_, _, meRExpr, ok_RExpr FRExpr TS TR MT MA GEx, bRExpr⟩
  have MP : HasM l.prog w K mg base CX0 6 CReader "read_program" PRProg (spProg CReader) := ⟨_, _, meRProg, ok_RProg FRProg TS TR MC MR MA ME, bRProg⟩
  have GR : Has l.prog w K mg base CX0 7 "parse" PParse spParse := ⟨_, _, ok_Parse FParse m_isinstance m_str TR HC MP, gParse, kParse, bParse⟩
  have GSt : Has l.prog w K mg base CX0 1 "shown_term" PShTerm spShTerm := ⟨_, _, ok_ShTerm FShTerm ⟨m_abs, m_str⟩, gShTerm, kShTerm, bShTerm⟩
  have GSe : Has l.prog w K mg base CX0 2 "show_expression" PShExpr spShExpr := ⟨_, _, ok_ShExpr FShExpr ⟨m_abs, m_str⟩ GSt, gShExpr, kShExpr, bShExpr⟩
  have GH : Has l.prog w K mg base CX0 3 "show" PShow spShow := ⟨_, _, ok_Show FShow GSe, gShow, kShow, bShow⟩
  have GT : Has l.prog w K mg base CX0 1 "_law_term" PLTerm spLTerm := ⟨_, _, ok_LTerm FLTerm ⟨m_str, m_int, m_abs⟩, gLTerm, kLTerm, bLTerm⟩
  have GW : Has l.prog w K mg base CX0 2 "_law_written" PLWrit spLWrit := ⟨_, _, ok_LWrit FLWrit ⟨m_str, m_int, m_abs⟩ GT, gLWrit, kLWrit, bLWrit⟩
  have GS : Has l.prog w K mg base CX0 6 "_law_same" PLSame (spLSame 6) := ⟨_, _, ok_LSame FLSame ⟨m_bool, m_int, m_str, m_tuple, m_list, m_isinstance, m_len, m_all, m_range⟩ gLSame kLSame bLSame 6, gLSame, kLSame, bLSame⟩
  exact ok_Law FLaw ⟨m_len, m_tuple, m_range, m_sorted⟩ GP GD GN GT GW GS GR GH
theorem walk {l : PySem.W.OpenLaw} {q : Program} {loose : List Str} {XP : (Str → Option Value) → Heap → Prop} {YP : World → Heap → Prop} {d : DefRec} {K : Params → PySem.W.Frag} (hn : l.most = some 63) (hdf : d.params.defaults = [])
    (hY : ∀ (w : World) (h : Heap), YP w h → (K w.params).In h)
    (F : ∀ (w : World) (mg : Str → Option Value) (fa : Addr) (h : Heap), (K w.params).In h → h.Ns mainGlobals mg → mg d.name = some (.ref fa) →
      ∃ fd : FuncData, (∀ (s : Shared) (u : Value), BindsTo s fd ⟨[u], []⟩ [("_law_script", u)]) ∧ ∀ base : Heap, (K w.params).In base → base.Ns mainGlobals mg → FnOk l.prog w (K w.params) mg base CX0 8 fa fd PLaw (spLaw (K w.params))) :
    PySem.W.WalkO q loose XP YP l.row.toRowW d [] (fun f vs => PySem.call f vs) :=
  L2.walk_of (n := 63) (k := 8) (x := "_law_script") (CX := fun _ => CX0) (sp := fun w => spLaw (K w.params)) hn (by decide) hdf ⟨rfl, by decide, by decide⟩ hY F (fun _ _ a ns hl _ hS => ⟨a, ns, rfl, hS, hl, fun _ => rfl⟩) fun _ _ _ _ _ z => z
end Aon
open PySem PySem.W PyProof.Rows
set_option maxRecDepth 100000 in
set_option maxHeartbeats 0 in
theorem PySem.Challenge.cw_allornothing_k01_sums_in_texts_holds : PySem.Challenge.rw_allornothing_k01_sums_in_texts.Holds := by
  w_on; o_law; k_head; (case hw => w_witness2)
  k_fill
  refine Aon.walk (l := PySem.Challenge.rw_allornothing_k01_sums_in_texts) rfl rfl (fun w h Y => PySem.W.kIn_of Y) ?F
  case F =>
    intro w mg fa h KX G hmg
    refine' Aon.all_mk KX G hmg ?aMixed ?lMixed ?cMixed ?kMixed ?aDraw ?lDraw ?cDraw ?kDraw ?aPool ?lPool ?cPool ?kPool ?aKindOf ?lKindOf ?cKindOf ?kKindOf ?aEndRun ?lEndRun ?cEndRun ?kEndRun ?aToksOf ?lToksOf ?cToksOf ?kToksOf ?aExprOf ?lExprOf ?cExprOf ?kExprOf ?aParse ?lParse ?cParse ?kParse ?aShTerm ?lShTerm ?cShTerm ?kShTerm ?aShExpr ?lShExpr ?cShExpr ?kShExpr ?aShow ?lShow ?cShow ?kShow ?aLSame ?lLSame ?cLSame ?kLSame ?aLTerm ?lLTerm ?cLTerm ?kLTerm ?aLWrit ?lLWrit ?cLWrit ?kLWrit ?aNames ?lNames ?cNames ?kNames ?aLaw ?lLaw ?cLaw ?kLaw ?aReader ?pgReader ?hdReader ?poReader ?saReader ?mkReader ?kcReader ?noReader_tokens ?noReader_index_of_token ?noReader_depth ?aRIni ?iRIni ?lRIni ?cRIni ?kRIni ?aRCur ?iRCur ?lRCur ?cRCur ?kRCur ?aRNext ?iRNext ?lRNext ?cRNext ?kRNext ?aRAcc ?iRAcc ?lRAcc ?cRAcc ?kRAcc ?aRName ?iRName ?lRName ?cRName ?kRName ?aRRow ?iRRow ?lRRow ?cRRow ?kRRow ?aRTerm ?iRTerm ?lRTerm ?cRTerm ?kRTerm ?aRExpr ?iRExpr ?lRExpr ?cRExpr ?kRExpr ?aRProg ?iRProg ?lRProg ?cRProg ?kRProg ?n_int ?n_len ?n_isinstance ?n_str ?n_all ?n_range ?n_bool ?n_tuple ?n_list ?n_abs ?n_sorted ?c_LETTERS ?c_DIGITS ?c_SIGNS ?c_LONGEST ?c_KEYWORDS ?l_KEYWORDS
    (case aMixed => k_is)
    (case lMixed => k_is)
    (case cMixed => k_is)
    (case kMixed => k_is)
    (case aDraw => k_is)
    (case lDraw => k_is)
    (case cDraw => k_is)
    (case kDraw => k_is)
    (case aPool => k_is)
    (case lPool => k_is)
    (case cPool => k_is)
    (case kPool => k_is)
    (case aKindOf => k_is)
    (case lKindOf => k_is)
    (case cKindOf => k_is)
    (case kKindOf => k_is)
    (case aEndRun => k_is)
    (case lEndRun => k_is)
    (case cEndRun => k_is)
    (case kEndRun => k_is)
    (case aToksOf => k_is)
    (case lToksOf => k_is)
    (case cToksOf => k_is)
    (case kToksOf => k_is)
    (case aExprOf => k_is)
    (case lExprOf => k_is)
    (case cExprOf => k_is)
    (case kExprOf => k_is)
    (case aParse => k_is)
    (case lParse => k_is)
    (case cParse => k_is)
    (case kParse => k_is)
    (case aShTerm => k_is)
    (case lShTerm => k_is)
    (case cShTerm => k_is)
    (case kShTerm => k_is)
    (case aShExpr => k_is)
    (case lShExpr => k_is)
    (case cShExpr => k_is)
    (case kShExpr => k_is)
    (case aShow => k_is)
    (case lShow => k_is)
    (case cShow => k_is)
    (case kShow => k_is)
    (case aLSame => k_is)
    (case lLSame => k_is)
    (case cLSame => k_is)
    (case kLSame => k_is)
    (case aLTerm => k_is)
    (case lLTerm => k_is)
    (case cLTerm => k_is)
    (case kLTerm => k_is)
    (case aLWrit => k_is)
    (case lLWrit => k_is)
    (case cLWrit => k_is)
    (case kLWrit => k_is)
    (case aNames => k_is)
    (case lNames => k_is)
    (case cNames => k_is)
    (case kNames => k_is)
    (case aLaw => k_is)
    (case lLaw => k_is)
    (case cLaw => k_is)
    (case kLaw => k_is)
    (case aReader => k_is)
    (case pgReader => k_is)
    (case hdReader => k_is)
    (case poReader => k_is)
    (case saReader => k_is)
    (case mkReader => k_is)
    (case kcReader => k_is)
    (case noReader_tokens => k_is)
    (case noReader_index_of_token => k_is)
    (case noReader_depth => k_is)
    (case aRIni => k_is)
    (case iRIni => k_is)
    (case lRIni => k_is)
    (case cRIni => k_is)
    (case kRIni => k_is)
    (case aRCur => k_is)
    (case iRCur => k_is)
    (case lRCur => k_is)
    (case cRCur => k_is)
    (case kRCur => k_is)
    (case aRNext => k_is)
    (case iRNext => k_is)
    (case lRNext => k_is)
    (case cRNext => k_is)
    (case kRNext => k_is)
    (case aRAcc => k_is)
    (case iRAcc => k_is)
    (case lRAcc => k_is)
    (case cRAcc => k_is)
    (case kRAcc => k_is)
    (case aRName => k_is)
    (case iRName => k_is)
    (case lRName => k_is)
    (case cRName => k_is)
    (case kRName => k_is)
    (case aRRow => k_is)
    (case iRRow => k_is)
    (case lRRow => k_is)
    (case cRRow => k_is)
    (case kRRow => k_is)
    (case aRTerm => k_is)
    (case iRTerm => k_is)
    (case lRTerm => k_is)
    (case cRTerm => k_is)
    (case kRTerm => k_is)
    (case aRExpr => k_is)
    (case iRExpr => k_is)
    (case lRExpr => k_is)
    (case cRExpr => k_is)
    (case kRExpr => k_is)
    (case aRProg => k_is)
    (case iRProg => k_is)
    (case lRProg => k_is)
    (case cRProg => k_is)
    (case kRProg => k_is)
    (case n_int => k_is)
    (case n_len => k_is)
    (case n_isinstance => k_is)
    (case n_str => k_is)
    (case n_all => k_is)
    (case n_range => k_is)
    (case n_bool => k_is)
    (case n_tuple => k_is)
    (case n_list => k_is)
    (case n_abs => k_is)
    (case n_sorted => k_is)
    (case c_LETTERS => k_is)
    (case c_DIGITS => k_is)
    (case c_SIGNS => k_is)
    (case c_LONGEST => k_is)
    (case c_KEYWORDS => k_is)
    (case l_KEYWORDS => k_is)
#print axioms PySem.Challenge.cw_allornothing_k01_sums_in_texts_holds

