import PyProof.Rows.All
import Wide.All
import OpenK.AllK
import Wide.FinOn
import HandS.ForMost
import HandS.Wide
import HandS.IsInst
import HandS.Walk
import HandS.Flow
import HandS.Property
import HandS.Star
import HandS.DictComp
import HandS.Conv
import HandS.Zip
import HandS.SortKw
import HandS.MapSum
import HandS.Text
import HandS.TryOnly
import HandS.FStr
import HandS.TupAny
import HandS.Codes
import HandS.Replace
import HandS.ReplaceList
import PyProof.StrBlock
import PyProof.RulesMatchSeq
import PyProof.Rows.MatchSeqLen
import KE.GoesEnumKw
import KE.KTurns
import KE.GoesMore
import PyProof.GenRules
import HandS.GenList
import HandS.OwnEq
import HandS.TupLe
import HandS.TryMany
import HandS.ExcInit
import HandS.ExcInitHot
import HandS.ExcIs
import HandS.ExcField
import HandS.WordsExc
import HandS.DeepEq
import HandS.Deep
import KE.KExcInit
import KE.KStateDown
import HandS.Defaults
import HandS.Head0
import HandS.Head1
import HandS.Head2
import HandS.HeadEnd
import HandS.HeadHook1
import HandS.HeadHook2
import PySem.Challenge.RW_allornothing_k10_errors_of_names
set_option Elab.async false
set_option linter.all false
set_option maxRecDepth 100000
set_option maxHeartbeats 4000000
namespace Aon
open PySem L2
def topS (i : Nat) : Stmt := PySem.Challenge.pw_allornothing_k10_errors_of_names.main.body.getD i (.Pass ⟨0, 0, 0, 0⟩)

/-! ### words of this text, over HandS -/
theorem bb_int : bootBuiltins "int" = some (.type "int") := by decide +kernel
theorem bb_str : bootBuiltins "str" = some (.type "str") := by decide +kernel
theorem bb_bool : bootBuiltins "bool" = some (.type "bool") := by decide +kernel
theorem bb_list : bootBuiltins "list" = some (.type "list") := by decide +kernel
theorem bb_tuple : bootBuiltins "tuple" = some (.type "tuple") := by decide +kernel
theorem bb_len : bootBuiltins "len" = some (.builtin "len") := by decide +kernel
theorem bb_all : bootBuiltins "all" = some (.builtin "all") := by decide +kernel
theorem bb_isinstance : bootBuiltins "isinstance" = some (.builtin "isinstance") := by decide +kernel
/-- a def that stands under its name: its promise, and how it is called -/
structure Has (P : Program) (w : World) (K : PySem.W.Frag) (mg : Str → Option Value) (base : Heap) (CX : CXT) (k : Nat) (x : Str) (ps : List Str) (sp : Sp) : Prop where
  ex : ∃ (f : Addr) (fd : FuncData), FnOk P w K mg base CX k f fd ps sp ∧ mg x = some (.ref f) ∧ PySem.W.keepIn K (.ref f) = true ∧ Binds K fd ps []
section
variable {X : Cx}
theorem pe_callH {CX : CXT} {k : Nat} {x : Str} {ps : List Str} {sp : Sp} {E : XK} {e : Expr} {es : List Expr} {t : TA} {p pos : Pos} (F : Has X.prog X.w X.K X.mg X.base CX k x ps sp) (hr : Room k X.A) (hg : Gl X x) (hx : Passes CX X E) (ha : PA X (e :: es) t)
    (hd : (x == ("__debug__" : Str)) = false := by decide) (he : starEach (e :: es) X.env = (false, eval e X.env) :: starEach es X.env := by rfl) (hpl : (backTo pos (starEach es X.env)).any (·.1) = false := by rfl) :
    PE X (.Call (.Name x p) (e :: es) [] pos) (tCall sp [] E t) := by
  obtain ⟨f, fd, F, m, kp, b⟩ := F.ex
  exact pe_call F hr hg m kp b .nil hx ha hd he hpl
theorem pe_callH0 {CX : CXT} {k : Nat} {x : Str} {ps : List Str} {sp : Sp} {E : XK} {p pos : Pos} (F : Has X.prog X.w X.K X.mg X.base CX k x ps sp) (hr : Room k X.A) (hg : Gl X x) (hx : Passes CX X E) (hd : (x == ("__debug__" : Str)) = false := by decide) :
    PE X (.Call (.Name x p) [] [] pos) (tCall sp [] E tNil) := by
  obtain ⟨f, fd, F, m, kp, b⟩ := F.ex
  exact pe_call0 F hr hg m kp b .nil hx hd
theorem pe_globE {x : Str} {v : V} {pos : Pos} (hg : Gl X x) (hm : ∃ u, X.mg x = some u ∧ RelV v u) (hd : (x == ("__debug__" : Str)) = false := by decide) : PE X (.Name x pos) (tC v) := by
  obtain ⟨u, m, r⟩ := hm
  exact pe_glob hg m r hd
end
/-- a method of the class at C; a class under its name -/
structure HasM (P : Program) (w : World) (K : PySem.W.Frag) (mg : Str → Option Value) (base : Heap) (CX : CXT) (k : Nat) (C : Addr) (m : Str) (ps : List Str) (sp : Sp) : Prop where
  ex : ∃ (f : Addr) (fd : FuncData), Meth K C m f ∧ FnOk P w K mg base CX k f fd ps sp ∧ Binds K fd ps []
structure HasC (P : Program) (w : World) (K : PySem.W.Frag) (mg : Str → Option Value) (base : Heap) (CX : CXT) (k : Nat) (x : Str) (C : Addr) (ps : List Str) (sp : Sp) : Prop where
  ex : ∃ (f : Addr) (fd : FuncData), Mk K C f ∧ FnOk P w K mg base CX k f fd ps sp ∧ mg x = some (.ref C) ∧ Binds K fd ps []
section
variable {X : Cx}
theorem pe_methH {CX : CXT} {k : Nat} {C : Addr} {m : Str} {ps : List Str} {sp : Sp} {E : XK} {o e : Expr} {es : List Expr} {ta : TE} {t : TA} {apos pos : Pos} {pl : Sem Bool} (he : PE X o ta) (c : Cls X.K C) (M : HasM X.prog X.w X.K X.mg X.base CX k C m ps sp) (hr : Room k X.A) (hx : Passes CX X E)
    (ha : PA X (e :: es) t) (hst : starEach (e :: es) X.env = (false, eval e X.env) :: starEach es X.env := by rfl) (hpl : (backTo pos (starEach es X.env)).any (·.1) = false := by rfl)
    (ht : eval (.Call (.Attribute o m apos) (e :: es) [] pos) X.env = (do
      let v ← eval o X.env
      standAt apos.atName
      let (g, r) ← holding [v] (getMethod v m pl)
      callWith pos g r (backTo pos (starEach (e :: es) X.env)) (backToKw pos (keywordEach [] X.env))) := by rfl) : PE X (.Call (.Attribute o m apos) (e :: es) [] pos) (tMeth C m sp [] E ta t) := by
  obtain ⟨f, fd, hm, F, b⟩ := M.ex
  exact pe_meth (pl := pl) he c hm F hr b .nil hx ha hst hpl ht
theorem pe_methH0 {CX : CXT} {k : Nat} {C : Addr} {m : Str} {ps : List Str} {sp : Sp} {E : XK} {o : Expr} {ta : TE} {apos pos : Pos} {pl : Sem Bool} (he : PE X o ta) (c : Cls X.K C) (M : HasM X.prog X.w X.K X.mg X.base CX k C m ps sp) (hr : Room k X.A) (hx : Passes CX X E)
    (ht : eval (.Call (.Attribute o m apos) [] [] pos) X.env = (do
      let v ← eval o X.env
      standAt apos.atName
      let (g, r) ← holding [v] (getMethod v m pl)
      callWith pos g r (backTo pos (starEach [] X.env)) (backToKw pos (keywordEach [] X.env))) := by rfl) : PE X (.Call (.Attribute o m apos) [] [] pos) (tMeth C m sp [] E ta tNil) := by
  obtain ⟨f, fd, hm, F, b⟩ := M.ex
  exact pe_meth0 (pl := pl) he c hm F hr b .nil hx ht
theorem pe_makeH {CX : CXT} {k : Nat} {x : Str} {C : Addr} {ps : List Str} {sp : Sp} {E : XK} {e : Expr} {es : List Expr} {t : TA} {p pos : Pos} (M : HasC X.prog X.w X.K X.mg X.base CX k x C ps sp) (hr : Room (k + 1) X.A) (hg : Gl X x) (hx : Passes CX X E) (ha : PA X (e :: es) t)
    (hd : (x == ("__debug__" : Str)) = false := by decide) (he : starEach (e :: es) X.env = (false, eval e X.env) :: starEach es X.env := by rfl) (hpl : (backTo pos (starEach es X.env)).any (·.1) = false := by rfl) :
    PE X (.Call (.Name x p) (e :: es) [] pos) (tMake C sp [] E t) := by
  obtain ⟨f, fd, mk, F, m, b⟩ := M.ex
  exact pe_make mk F hr hg m b .nil hx ha hd he hpl
theorem pe_propH {CX : CXT} {k : Nat} {C p : Addr} {f : Str} {ps : List Str} {sp : Sp} {E : XK} {e : Expr} {ta : TE} {pos : Pos} (he : PE X e ta) (c : Cls X.K C) (M : ∃ (g : Addr) (fd : FuncData), PropOf X.K C f p g ∧ FnOk X.prog X.w X.K X.mg X.base CX k g fd ps sp ∧ Binds X.K fd ps []) (hr : Room (k + 1) X.A) (hx : Passes CX X.nox E)
    (hab : attributeBase e f X.env (eval e X.env) = eval e X.env := by rfl) : PE X (.Attribute e f pos) (tProp C sp [] E ta) := by
  obtain ⟨g, fd, hp, F, b⟩ := M
  exact pe_prop he c hp F hr b .nil hx hab
end
/-- all but p and c stands -/
def But (p c : Addr) (H H' : Hp) : Prop := ∀ b o, H b = some o → b ≠ p → b ≠ c → H' b = some o
theorem But.refl {p c : Addr} {H : Hp} : But p c H H := fun _ _ e _ _ => e
theorem But.trans {p c : Addr} {H H1 H2 : Hp} (a : But p c H H1) (b : But p c H1 H2) : But p c H H2 := fun x o e h1 h2 => b x o (a x o e h1 h2) h1 h2
theorem iteE {c : Bool} {A B : Prop} (hc : c = false) (k : B) : if c = true then A else B := by
  rw [hc]
  exact iteF k
theorem iteS {c : Bool} {A B : Prop} (hc : c = true) (k : A) : if c = true then A else B := by
  rw [hc]
  exact iteT k

def dOf : V → PyData
  | .non => .none | .bl b => .bool b | .int i => .int i | .str z => .str z | _ => .none
theorem dp_flat {K : PySem.W.Frag} {H : Hp} {v : V} (h : flatV v = true) : Dp K H v (dOf v) := by
  cases v with
  | non => exact .non
  | bl b => exact .bl b
  | int i => exact .int i
  | str z => exact .str z
  | _ => cases h
theorem dpAll_flat {K : PySem.W.Frag} {H : Hp} : ∀ {xs : List V}, xs.all flatV = true → DpAll K H xs (xs.map dOf)
  | [], _ => .nil
  | x :: xs, h => by
    rw [List.all_cons, Bool.and_eq_true] at h
    exact .cons (dp_flat h.1) (dpAll_flat h.2)
/-! shapes -/
def okV : V → Bool
  | .str z => PyData.strOk z
  | _ => true
theorem lay_dOf {v : V} (h : okV v = true) : (dOf v).canLay0 = true := by
  cases v with
  | str z => simpa [dOf, PyData.canLay0, okV] using h
  | _ => simp [dOf, PyData.canLay0]
theorem layAll_dOf : ∀ {xs : List V}, xs.all okV = true → PyData.canLayAll0 (xs.map dOf) = true
  | [], _ => by simp [PyData.canLayAll0]
  | x :: xs, h => by
    rw [List.all_cons, Bool.and_eq_true] at h
    simp only [List.map_cons, PyData.canLayAll0, Bool.and_eq_true]
    exact ⟨lay_dOf h.1, layAll_dOf h.2⟩
theorem depth_dOf (v : V) : (dOf v).depth = 0 := by cases v <;> simp [dOf, PyData.depth]
theorem depthAll_dOf : ∀ xs : List V, PyData.depthAll (xs.map dOf) = 0
  | [] => by simp [PyData.depthAll]
  | x :: xs => by simp only [List.map_cons, PyData.depthAll, depth_dOf, depthAll_dOf xs]; rfl
theorem shaped_tup {xs : List V} (h : xs.all okV = true) : SeqAt.shaped (.tuple (xs.map dOf)) = true := by
  unfold SeqAt.shaped
  simp only [PyData.canLay0, PyData.depth, layAll_dOf h, depthAll_dOf, Bool.true_and]
  decide

/-! ### {**d, k: v}: the rule -/
section
variable {prog : Program} {w : World} {A : Around} {E : Value → Shared → Prop} {s : Shared}
theorem dput_ok {d : Addr} {kvs : List (Key × Value)} {k : Key} {key v : Value} {Q : Unit → Shared → Prop} (hkey : (mixKind prog w).is k key = true) (hm : s.heap.DictOf (mixKind prog w) d kvs) (hz : kvs.length ≤ sizeLine)
    (hQ : ∀ h', h'.DictOf (mixKind prog w) d (stored kvs k v) → Heap.SameBut d s.heap h' → Q () { s with heap := h' }) :
    wpAny (model prog w) A (dictPut d ((mixKind prog w).hash k) key v) Q E s := by
  obtain ⟨ob, es, ep, e1, e2, e3, e4, e5, e6⟩ := hm
  have z1 : es.size ≤ sizeLine := by
    have q1 := e5.length
    rw [Array.length_toList] at q1
    omega
  have fe : (es.findIdx? fun e => (mixKind prog w).is k e.key) = kvs.findIdx? fun kv => decide (kv.1 = k) := by
    rw [← e5.findIdx k]
    cases es with
    | mk l => simp
  unfold dictPut
  refine wpAny_bind (wpAny_dictFind_of hkey e1 e3 e4 ?_)
  cases fi : es.findIdx? fun e => (mixKind prog w).is k e.key with
  | some i =>
    have an : (kvs.any fun kv => decide (kv.1 = k)) = true := any_of_findIdx_some (fe ▸ fi)
    refine wpAny_updateDict e1 e3 (hQ _ ⟨_, _, ep, Heap.get?_update_self _ e1 (Obj.isFreed_of_dict (Obj.data_mapDict e3 _)), e2.mapDict _, Obj.data_mapDict e3 _, e4.modify _ _, ?_, ?_⟩ (Heap.SameBut.update ..))
    · unfold stored
      rw [if_pos an]
      have fl : (es.toList.findIdx? fun e => (mixKind prog w).is k e.key) = some i := by
        rw [← fi]
        cases es with
        | mk l => simp
      have r := e5.modify e6 fl v
      cases es with
      | mk l => simpa using r
    · unfold stored
      rw [if_pos an, keys_map_store]
      exact e6
  | none =>
    have nm : k ∉ kvs.map (·.1) := not_mem_of_findIdx_none (fe ▸ fi)
    have an : ¬ (kvs.any fun kv => decide (kv.1 = k)) = true := fun z => by
      obtain ⟨kv, m, q⟩ := List.any_eq_true.mp z
      exact nm (List.mem_map.mpr ⟨kv, m, of_decide_eq_true q⟩)
    refine wpAny_updateDictKeys (hz := z1) e1 e3 (hQ _ ⟨_, _, ep + 1, Heap.get?_update_self _ e1 (Obj.isFreed_of_dict (Obj.data_mapDictKeys e3 _)), e2.mapDictKeys _, Obj.data_mapDictKeys e3 _, e4.push hkey _, ?_, ?_⟩ (Heap.SameBut.update ..))
    · unfold stored
      rw [if_neg an]
      have r := e5.append hkey ((mixKind prog w).hash k) v
      cases es with
      | mk l => simpa using r
    · unfold stored
      rw [if_neg an, List.map_append, List.nodup_append]
      exact ⟨e6, by simp, fun a ha b hb z => nm (by
        have : b = k := by simpa using hb
        rw [← this, ← z]
        exact ha)⟩
theorem noref_loop {es : Array DictEntry} (hk : KeysOf (mixKind prog w) es) {f : DictEntry → PUnit → Sem (ForInStep PUnit)} (hf : ∀ e u, (∀ a, e.key ≠ .ref a) → f e u = pure (.yield PUnit.unit)) {Q : PUnit → Shared → Prop} (h : Q PUnit.unit s) :
    wpAny (model prog w) A (forIn es PUnit.unit f) Q E s := by
  rw [← Array.forIn_toList]
  have all : ∀ e ∈ es.toList, ∀ a, e.key ≠ Value.ref a := fun e he a z => by
    obtain ⟨k, q, _⟩ := hk e (by simpa using he)
    rcases keyIs_shape (k := k) (v := e.key) q with ⟨_, _, _, q⟩ | ⟨_, _, _, q⟩ <;> (rw [z] at q; cases q)
  refine wpAny_forIn_list f (fun rest _ s' => (∀ e ∈ rest, ∀ a, e.key ≠ Value.ref a) ∧ s' = s) Q ?_ ?_ es.toList PUnit.unit ⟨all, rfl⟩
  · rintro e rest b s' ⟨ha, rfl⟩
    rw [hf e b (ha e (List.mem_cons_self ..))]
    exact wpAny_pure ⟨fun x hx => ha x (List.mem_cons_of_mem _ hx), rfl⟩
  · rintro b s' ⟨_, rfl⟩
    exact h
theorem mergeMap_ok {d o : Addr} {kvs more : List (Key × Value)} {Q : Unit → Shared → Prop} (hdo : d ≠ o) (hoS : (o == sysModules) = false) (hd : s.heap.DictOf (mixKind prog w) d kvs) (ho : s.heap.DictOf (mixKind prog w) o more)
    (hz : kvs.length + more.length ≤ sizeLine) (hQ : ∀ h', h'.DictOf (mixKind prog w) d (merged kvs more) → Heap.SameBut d s.heap h' → Q () { s with heap := h' }) :
    wpAny (model prog w) A (mergeMapping d (.ref o) false) Q E s := by
  have ty := ho.typeIs
  obtain ⟨od, esd, epd, d1, d2, d3, d4, d5, d6⟩ := id hd
  obtain ⟨oo, es, ep, o1, o2, o3, o4, o5, o6⟩ := id ho
  have hlen : more.length = es.size := by rw [← o5.length]; simp
  unfold mergeMapping
  refine wpAny_bind (wpAny_isInstance ty isSubtype_dict_dict ?_)
  simp only [if_true]
  refine wpAny_bind (wpAny_specialOf ty F.slot_dict_iter.lookup ?_)
  simp only [beq_self_eq_true, Bool.false_eq_true, if_false]
  refine wpAny_bind (wpAny_pure ?_)
  dsimp only
  rw [if_neg (by rw [hoS]; exact Bool.false_ne_true)]
  refine wpAny_bind (wpAny_dictEntries d1 d3 ?_)
  have loop : wpAny (model prog w) A (do
      let l ← dictEntries o
      let epoch ← dictEpoch o
      forIn (List.range l.size) PUnit.unit fun i _ => (do
          let l' ← dictEntries o
          match l'[i]? with
            | some e => do
              holding [e.key, e.val] (dictPut d e.hash e.key e.val)
              let ep' ← dictEpoch o
              if (ep' != epoch) = true then do
                  (unsupported "dict.changed-during-merge" : Sem PUnit)
                  pure (ForInStep.yield PUnit.unit)
                else pure (ForInStep.yield PUnit.unit)
            | _ => do
              (unsupported "dict.changed-during-merge" : Sem PUnit)
              pure (ForInStep.yield PUnit.unit) : Sem (ForInStep PUnit))
      pure ()) Q E s := by
    refine wpAny_bind (wpAny_dictEntries o1 o3 (wpAny_bind (wpAny_dictEpoch o1 o3 (wpAny_bind ?_))))
    refine wpAny_forIn_list _ (fun rest _ s' => ∃ (h' : Heap) (i : Nat), s' = { s with heap := h' } ∧ rest = (List.range es.size).drop i ∧ i ≤ es.size ∧ h'.DictOf (mixKind prog w) d (merged kvs (more.take i)) ∧ h'.get? o = some oo ∧ Heap.SameBut d s.heap h') _ ?_ ?_ _ _
      ⟨s.heap, 0, rfl, rfl, Nat.zero_le _, by simpa [merged] using hd, o1, Heap.SameBut.refl _ _⟩
    · rintro x rest b s' ⟨h', i, rfl, hr, hi, hd', ho', hs'⟩
      have hlt : i < es.size := by
        rcases Nat.lt_or_ge i es.size with q | q
        · exact q
        · rw [List.drop_of_length_le (by simpa using q)] at hr
          cases hr
      rw [List.drop_eq_getElem_cons (by simpa using hlt), List.getElem_range] at hr
      injection hr with hx hr
      subst hx
      refine wpAny_bind (wpAny_dictEntries ho' o3 ?_)
      rw [Array.getElem?_eq_getElem hlt]
      obtain ⟨⟨k, v⟩, hkv⟩ : ∃ kv, more[x]? = some kv := ⟨more[x]'(by omega), by simp [hlen, hlt]⟩
      obtain ⟨hkey, hval⟩ := o5.get? (e := es[x]) (by simp [hlt]) hkv
      obtain ⟨k', hkey', hhash⟩ := o4 es[x] (Array.getElem_mem hlt)
      obtain rfl : k' = k := (mixKind prog w).inj _ _ _ hkey' hkey
      show wpAny _ _ (holding [es[x].key, es[x].val] (dictPut d es[x].hash es[x].key es[x].val) >>= _) _ _ _
      rw [hhash, hval]
      have q1 := merged_length_le kvs (more.take x)
      have q2 : (more.take x).length ≤ more.length := by rw [List.length_take]; omega
      refine wpAny_bind (wpAny_holding (dput_ok hkey hd' (by omega) fun h2 hd2 hs2 => ?_))
      have ho2 : h2.get? o = some oo := (hs2.2 o (Ne.symm hdo)).trans ho'
      refine wpAny_bind (wpAny_dictEpoch ho2 o3 ?_)
      rw [if_neg (by simp)]
      exact wpAny_pure ⟨h2, x + 1, rfl, hr, hlt, by rw [merged_take_succ kvs more x (k', v) hkv]; exact hd2, ho2, hs'.trans hs2⟩
    · rintro b s' ⟨h', i, rfl, hr, hi, hd', ho', hs'⟩
      have e : i = es.size := by
        rcases Nat.lt_or_ge i es.size with q | q
        · rw [List.drop_eq_getElem_cons (by simpa using q)] at hr
          cases hr
        · omega
      rw [e, ← hlen, List.take_length] at hd'
      exact wpAny_pure (hQ h' hd' hs')
  split
  · refine wpAny_bind (wpAny_dictEntries o1 o3 (wpAny_bind (noref_loop o4 (fun e u hne => ?_) loop)))
    split
    · rename_i a q
      exact absurd q (hne a)
    · rfl
  · exact loop
end
/-- what is asked of the mapping and the pair; the new dict stands at p -/
def tDstar (td tk tv : TE) : TE := fun σ H Q => ∀ p, H p = none → td σ (upd H p (.dK [])) fun x H1 => ∃ (a : Addr) (kvs : List (Key × V)), x = .ref a ∧ a ≠ p ∧ Rd H1 a (.dK kvs) ∧ H1 p = some (.dK []) ∧ kvs.length ≤ 1000 ∧
  ∀ q, H1 q = none → tk σ (upd (upd H1 p (.dK kvs)) q (.dK [])) fun y H2 => tv σ H2 fun z H3 => ∃ k : Key, y = kV k ∧ H3 p = some (.dK kvs) ∧ H3 q = some (.dK []) ∧ Q (.ref p) (upd (upd H3 q (.dK [(k, z)])) p (.dK (putK kvs k z)))
section
variable {X : Cx}
theorem dictDisplay_star (m k v : Sem Value) : dictDisplay [(none, m), (some k, v)] = (do
    let d ← alloc { cls := .type "dict", data := .dict #[] }
    let x ← holding [.ref d] m
    (((holding [.ref d, x] (mergeMapping d x false)).onRaise fun y => do let _ ← holding [.ref d, x, y] (runValue (.builtin "proto.let_go" {}))).tryCatch fun e => do
        if ← isInstance e (.type "AttributeError") then
          rule "dict.display.not-a-mapping"; raiseError "TypeError" s!"'{← typeNameOf x}' object is not a mapping"
        throw e).onRaise fun y => do let _ ← holding [.ref d, y] (runValue (.builtin "proto.let_go" {}))
    let sub ← holding [.ref d] (subDict [(k, v)])
    (holding [.ref d, .ref sub] (mergeMapping d (.ref sub) false)).onRaise fun y => do let _ ← holding [.ref d, y] (runValue (.builtin "proto.let_go" {}))
    pure (.ref d)) := by
  unfold dictDisplay
  simp [List.forIn_cons, List.forIn_nil]
theorem stored_nodup {kvs : List (Key × Value)} : (kvs.map (·.1)).Nodup → merged ([] : List (Key × Value)) kvs = kvs := merged_nil_of_nodup kvs
theorem kv_put {kvs : List (Key × V)} {vs : List (Key × Value)} (r : KV kvs vs) (k : Key) {z : V} {u : Value} (rz : RelV z u) : KV (putK kvs k z) (stored vs k u) := r.put k rz
theorem pe_dstar {d k v : Expr} {td tk tv : TE} {pos : Pos} (hd : PE X d td) (hk : PE X k tk) (hv : PE X v tv) : PE X (.Dict [none, some k] [d, v] pos) (tDstar td tk tv) := by
  refine ⟨fun pins s σ H Q I h => ?_⟩
  rw [arm_eval_Dict]
  refine wpAny_bind (wpAny_standAt ?_)
  show wpAny _ _ (dictDisplay [(none, do let x ← eval d X.env; standAt pos; pure x), (some (eval k X.env), do let x ← eval v X.env; standAt pos; pure x)]) _ _ _
  rw [dictDisplay_star]
  refine wpAny_bind (wpAny_alloc ?_)
  have hn := I.hok.fresh (Nat.le_refl s.heap.objs.size)
  have I1 := I.laid (a := s.heap.objs.size) (o := .dK []) (h' := s.heap.push { cls := .type "dict", data := .dict #[] }) (t' := s.toks) (fun _ _ q => Heap.get?_push_of_some _ q) (Nat.le_refl _) (dk_empty s.heap I.big)
  refine wpAny_bind (wpAny_holding (wpAny_bind (thn (hd.run pins _ σ _ _ I1 (h _ hn)) fun xv s1 hh => ?_)))
  obtain ⟨x, H1, J1, rx, a, kvs, ex, nap, ea, ep, hl, hq⟩ := hh
  subst ex
  obtain rfl : xv = Value.ref a := rx
  refine wpAny_bind (wpAny_standAt (wpAny_pure ?_))
  obtain ⟨_, ma, va, ra, da⟩ := dk_rd J1.hok ea
  obtain ⟨_, mp, vp, rp, dp⟩ := dk_of J1.hok ep
  cases rp
  have lva : va.length ≤ 1000 := by rw [← ra.length]; exact hl
  have ndv : (va.map (·.1)).Nodup := by
    obtain ⟨_, _, _, _, _, _, _, _, nd⟩ := da
    exact nd
  refine wpAny_bind (wpAny_onRaise (wpAny_tryCatch (wpAny_onRaise (wpAny_holding (mergeMap_ok (Ne.symm nap) ma dp da (by rw [sizeLine_eq, List.length_nil]; omega) fun h2 d2 s2 => ?_)))))
  rw [stored_nodup ndv] at d2
  have kz : kvs.length ≤ sizeLine := by rw [sizeLine_eq]; omega
  have J2 : Inv X pins σ (upd H1 s.heap.objs.size (.dK kvs)) { s1 with heap := h2, toks := s1.toks } :=
    d_write J1 (by rw [ep]; exact True.intro) s2 (let ⟨q, _, _, hq, _⟩ := d2; ⟨q, hq⟩) (dk_new kz mp ra d2)
  have hq2 : H1 h2.objs.size = none := by
    have f2 := J2.hok.fresh (Nat.le_refl h2.objs.size)
    have ne : h2.objs.size ≠ s.heap.objs.size := fun z => by
      rw [z, upd_same] at f2
      cases f2
    rw [upd_ne ne] at f2
    exact f2
  have J3 := J2.laid (a := h2.objs.size) (o := .dK []) (h' := h2.push { cls := .type "dict", data := .dict #[] }) (t' := s1.toks) (fun _ _ q => Heap.get?_push_of_some _ q) (Nat.le_refl _) (dk_empty h2 J2.big)
  refine wpAny_bind (wpAny_holding (wpAny_subDict (knd := mixKind X.prog X.w) (show 1 ≤ 15 by decide) ?_))
  unfold evalPairs
  refine wpAny_bind (thn (hk.run pins _ σ _ _ J3 (hq _ hq2)) fun kv s4 hh => ?_)
  obtain ⟨y, H4, J4, ry, hv4⟩ := hh
  refine wpAny_bind (wpAny_holding (wpAny_bind (thn (hv.run pins s4 σ H4 _ J4 hv4) fun vv s5 hh => ?_)))
  obtain ⟨z, H5, J5, rz, ky, ey, e5p, e5q, fin⟩ := hh
  subst ey
  refine wpAny_bind (wpAny_standAt (wpAny_pure (wpAny_bind ?_)))
  unfold evalPairs
  refine wpAny_holding (wpAny_pure (wpAny_pure ?_))
  obtain ⟨_, mq, vq, rq, dq⟩ := dk_of J5.hok e5q
  cases rq
  refine ⟨[(ky, vv)], ⟨kV_is ry, rfl, trivial⟩, dq, fun h6 d6 s6 => ?_⟩
  have d6' : h6.DictOf (mixKind X.prog X.w) h2.objs.size [(ky, vv)] := d6
  have J6 : Inv X pins σ (upd H5 h2.objs.size (.dK [(ky, z)])) { s5 with heap := h6, toks := s5.toks + 1 } :=
    d_write J5 (by rw [e5q]; exact True.intro) s6 (let ⟨q, _, _, hq, _⟩ := d6; ⟨q, hq⟩) (dk_new (by show 1 ≤ sizeLine; decide) mq (Paired.cons ⟨rfl, rz⟩ Paired.nil) d6')
  have npq : s.heap.objs.size ≠ h2.objs.size := fun z => by
    rw [z] at e5p
    have q := e5p.symm.trans e5q
    have f2 := J2.hok.fresh (Nat.le_refl h2.objs.size)
    rw [z, upd_same] at f2
    cases f2
  have e6p : upd H5 h2.objs.size (.dK [(ky, z)]) s.heap.objs.size = some (.dK kvs) := by rw [upd_ne npq]; exact e5p
  obtain ⟨_, mp6, v6, r6, d6p⟩ := dk_of J6.hok e6p
  refine wpAny_bind (wpAny_onRaise (wpAny_holding (mergeMap_ok npq mq d6p d6' (by rw [← r6.length, sizeLine_eq]; show kvs.length + 1 ≤ _; omega) fun h7 d7 s7 => ?_)))
  have pl : (putK kvs ky z).length ≤ sizeLine := by
    have := length_putK kvs ky z
    rw [sizeLine_eq]
    omega
  have J7 : Inv X pins σ (upd (upd H5 h2.objs.size (.dK [(ky, z)])) s.heap.objs.size (.dK (putK kvs ky z))) { s5 with heap := h7, toks := s5.toks + 1 } :=
    d_write (s := { s5 with heap := h6, toks := s5.toks + 1 }) (t' := s5.toks + 1) J6 (by rw [e6p]; exact True.intro) s7 (let ⟨q, _, _, hq, _⟩ := d7; ⟨q, hq⟩) (dk_new pl mp6 (kv_put r6 ky rz) d7)
  exact wpAny_pure ⟨.ref s.heap.objs.size, _, J7, rfl, fin⟩
theorem call_dictOf : CallR X (.type "dict") (fun xs H Q => ∃ (a : Addr) (kvs : List (Key × V)), xs = [.ref a] ∧ Rd H a (.dK kvs) ∧ ∀ p, H p = none → Q (.ref p) (upd H p (.dK kvs))) := by
  intro pins s σ H xs us Q I r h
  obtain ⟨a, kvs, rfl, ea, q⟩ := h
  obtain ⟨u, rfl, ru⟩ := vals1 r
  obtain rfl : u = Value.ref a := ru
  exact d_copyOf I ea fun p s' hp I' => ⟨.ref p, _, I', rfl, q p hp⟩
end

/-! ### match: texts, None, names, sequences (of tuples) -/
abbrev BS := List (Nat × V)
abbrev TPat := V → Hp → (Option BS → Hp → Prop) → Prop
abbrev TPats := List V → Hp → (Option BS → Hp → Prop) → Prop
section
variable {X : Cx}
/-- the slots and what they are to hold -/
def BindR (X : Cx) : BS → List (Str × Value) → Prop := Paired fun (a : Nat × V) (b : Str × Value) => X.N[a.1]? = some b.1 ∧ Loc X.env.scope b.1 ∧ (X.fn b.1 = true ∨ X.env.scope.names.lookup b.1 = some .local) ∧ RelV a.2 b.2
def OptR (X : Cx) : Option BS → Option (List (Str × Value)) → Prop
  | none, none => True
  | some a, some b => BindR X a b
  | _, _ => False
def MP (X : Cx) (pins : List (Addr × Obj)) (σ : L2.St) (Q : Option BS → Hp → Prop) (r : Option (List (Str × Value))) (s' : Shared) : Prop := ∃ r' H', Inv X pins σ H' s' ∧ OptR X r' r ∧ Q r' H'
structure PPat (X : Cx) (p : Pattern) (t : TPat) : Prop where
  run : ∀ (pins : List (Addr × Obj)) (s : Shared) (σ : L2.St) (H : Hp) (x : V) (u : Value) (Q : Option BS → Hp → Prop), Inv X pins σ H s → RelV x u → t x H Q → wpAny (model X.prog X.w) X.A (matchPattern p X.env u) (MP X pins σ Q) X.xe s
structure PPats (X : Cx) (ps : List Pattern) (t : TPats) : Prop where
  run : ∀ (pins : List (Addr × Obj)) (s : Shared) (σ : L2.St) (H : Hp) (xs : List V) (us : List Value) (Q : Option BS → Hp → Prop), Inv X pins σ H s → Vals xs us → t xs H Q → wpAny (model X.prog X.w) X.A (matchEach ps X.env us) (MP X pins σ Q) X.xe s
/-- a written text -/
def mStr (z : Str) : TPat := fun x H Q => scal x (.str z) = true ∧ Q (if x = .str z then some [] else none) H
theorem pm_str {z : Str} {j : Nat} {p pos : Pos} : PPat X (.MatchValue (.Constant (.str z) j p) pos) (mStr z) := by
  refine ⟨fun pins s σ H x u Q I rx h => ?_⟩
  obtain ⟨hs, q⟩ := h
  refine wpAny_matchPattern_Value (Calls.Constant_str ?_)
  refine wpAny_mono (op_eq pins _ σ H x (.str z) u _ (fun v H' => v = .bl (decide (x = .str z)) ∧ H' = H) (I.tok _) rx ⟨_, rfl⟩ ⟨hs, rfl, rfl⟩) (fun c s2 hc => ?_) fun _ _ z => z
  obtain ⟨v, H', I2, r2, rfl, rfl⟩ := hc
  cases r2
  refine wpAny_truthy_bool ?_
  by_cases e : x = .str z
  · rw [if_pos e] at q
    rw [decide_eq_true e, if_pos rfl]
    exact ⟨some [], H', I2, .nil, q⟩
  · rw [if_neg e] at q
    rw [decide_eq_false e, if_neg (by decide)]
    exact ⟨none, H', I2, trivial, q⟩
def mNon : TPat := fun x H Q => Q (if x = .non then some [] else none) H
theorem pm_non {pos : Pos} : PPat X (.MatchSingleton .none pos) mNon := by
  refine ⟨fun pins s σ H x u Q I rx h => ?_⟩
  show wpAny _ _ (pure (match Const.none, u with | .none, .none => some [] | .bool a, .bool b => if a == b then some [] else none | _, _ => none)) _ _ _
  refine wpAny_pure ?_
  have h : Q (if x = .non then some [] else none) H := h
  cases x with
  | non =>
    cases rx
    rw [if_pos rfl] at h
    exact ⟨some [], H, I, .nil, h⟩
  | _ =>
    rw [if_neg (by intro z; cases z)] at h
    refine ⟨none, H, I, ?_, h⟩
    first
      | (cases rx; trivial)
      | (obtain ⟨_, rfl⟩ := rx; trivial)
/-- a name, in slot i -/
def mAs (i : Nat) : TPat := fun x H Q => Q (some [(i, x)]) H
theorem pm_as {i : Nat} {n : Str} {pos : Pos} (hi : X.N[i]? = some n) (hl : Loc X.env.scope n) (hf : X.fn n = true ∨ X.env.scope.names.lookup n = some .local := by first | exact .inl rfl | exact .inr rfl) : PPat X (.MatchAs none (some n) pos) (mAs i) := by
  refine ⟨fun pins s σ H x u Q I rx h => wpAny_matchPattern_Capture ?_⟩
  exact ⟨some [(i, x)], H, I, .cons ⟨hi, hl, hf, rx⟩ .nil, h⟩
def mWild : TPat := fun _ H Q => Q (some []) H
theorem pm_wild {pos : Pos} : PPat X (.MatchAs none none pos) mWild := ⟨fun pins s σ H x u Q I rx h => wpAny_matchPattern_Capture ⟨some [], H, I, .nil, h⟩⟩
def mNil : TPats := fun _ H Q => Q (some []) H
def mCons (t : TPat) (ts : TPats) : TPats := fun xs H Q => ∃ x r, xs = x :: r ∧ t x H fun b H1 => match b with
  | none => Q none H1
  | some bs => ts r H1 fun b2 H2 => match b2 with
    | none => Q none H2
    | some more => Q (some (bs ++ more)) H2
theorem pms_nil : PPats X [] mNil := ⟨fun pins s σ H xs us Q I r h => wpAny_matchEach_nil ⟨some [], H, I, .nil, h⟩⟩
theorem bindR_app {a b : BS} {c d : List (Str × Value)} (h : BindR X a c) (k : BindR X b d) : BindR X (a ++ b) (c ++ d) := by
  induction h with
  | nil => exact k
  | cons r _ ih => exact .cons r ih
theorem pms_cons {p : Pattern} {ps : List Pattern} {t : TPat} {ts : TPats} (h1 : PPat X p t) (h2 : PPats X ps ts) (hs : p.isStar = false := by rfl) : PPats X (p :: ps) (mCons t ts) := by
  refine ⟨fun pins s σ H xs us Q I r h => ?_⟩
  obtain ⟨x, xr, rfl, h⟩ := h
  cases r with
  | cons rx rr =>
    refine wpAny_matchEach_cons (wpAny_mono (h1.run pins s σ H x _ _ I rx h) (fun b s1 q => ?_) fun _ _ z => z) hs
    obtain ⟨b', H1, I1, rb, q⟩ := q
    cases b' with
    | none =>
      cases b with
      | none => exact ⟨none, H1, I1, trivial, q⟩
      | some _ => exact False.elim rb
    | some bs =>
      cases b with
      | none => exact False.elim rb
      | some bv =>
        refine wpAny_mono (h2.run pins s1 σ H1 xr _ _ I1 rr q) (fun b2 s2 q2 => ?_) fun _ _ z => z
        obtain ⟨c', H2, I2, rc, q2⟩ := q2
        cases c' with
        | none =>
          cases b2 with
          | none => exact ⟨none, H2, I2, trivial, q2⟩
          | some _ => exact False.elim rc
        | some cs =>
          cases b2 with
          | none => exact False.elim rc
          | some cv => exact ⟨some (bs ++ cs), H2, I2, bindR_app rb rc, q2⟩
/-- a sequence of n patterns, of a tuple -/
def mSeq (K : PySem.W.Frag) (n : Nat) (ts : TPats) : TPat := fun x H Q => ∃ a xs, x = .ref a ∧ SqT K H a xs ∧ if xs.length = n then ts xs H Q else Q none H
theorem pm_seq {ps : List Pattern} {ts : TPats} {n : Nat} {pos : Pos} (hc : X.calm = true) (h : PPats X ps ts) (hn : ps.length = n := by rfl) (hstar : ps.findIdx? (·.isStar) = none := by rfl) (hwild : (ps.all fun p => p.isWildcard || (p.isStar && p.names.isEmpty)) = false := by rfl) : PPat X (.MatchSequence ps pos) (mSeq X.K n ts) := by
  refine ⟨fun pins s σ H x u Q I rx h' => ?_⟩
  obtain ⟨a, xs, rfl, hq, h'⟩ := h'
  obtain rfl : u = Value.ref a := rx
  obtain ⟨its, rv, ht, hz⟩ := I.tuple hq
  have lx : its.toArray.size = xs.length := by simpa using rv.length.symm
  have fit : ((its.toArray.size : Nat) : Int) < 2 ^ 63 := by
    have e : (2 : Int) ^ 63 = 9223372036854775808 := by decide
    have : sizeLine < 1000000000 := by decide
    rw [e]
    omega
  by_cases hl : xs.length = n
  · rw [if_pos hl] at h'
    refine PyProof.Rows.matchSeq_tuple_hit ht fit (by omega) ?_ hstar hwild
    have e : ps.length = its.toArray.size := by omega
    rw [e]
    refine PyProof.Rows.unpackItems_tuple (s := { s with toks := s.toks + 1 + 1 }) (I.ok.hd hc) ht fun h2 he => ?_
    have I2 : Inv X pins σ H { s with heap := h2, toks := s.toks + 1 + 1 } := I.kept (t' := s.toks + 1 + 1) fun b o q => he b o (Nat.ne_of_lt (Heap.lt_size q)) q
    exact h.run pins _ σ H xs _ Q I2 (by simpa using rv) h'
  · rw [if_neg hl] at h'
    exact PyProof.Rows.matchSeq_tuple_miss ht fit (by omega) ⟨none, H, I.tok _, trivial, h'⟩ hstar hwild
/-! the cases -/
def setAll (σ : L2.St) : BS → L2.St
  | [] => σ
  | (i, v) :: r => setAll (σ.set i (some v)) r
abbrev TCs := V → TS
structure PCs (X : Cx) (cs : List MatchCase) (t : TCs) : Prop where
  run : ∀ (pins : List (Addr × Obj)) (s : Shared) (σ : L2.St) (H : Hp) (x : V) (u : Value) (b : Bool) (D : Ends), Inv X pins σ H s → RelV x u → t x D σ H → wpAny (model X.prog X.w) X.A (matchCases cs X.env u b) (SP X pins D) X.xe s
theorem bind_all (hN : X.N.Nodup) {pins : List (Addr × Obj)} {H : Hp} {bs : BS} {vs : List (Str × Value)} (r : BindR X bs vs) : ∀ {σ : L2.St} {s : Shared} {Q : Unit → Shared → Prop}, Inv X pins σ H s → (∀ s', Inv X pins (setAll σ bs) H s' → Q () s') → wpAny (model X.prog X.w) X.A (assignInOrder (vs.map fun (n, _) => bindName X.env n) (vs.map (·.2))) Q X.xe s := by
  unfold BindR at r
  induction r with
  | nil => intro σ s Q I h; exact wpAny_assignInOrder_none (h s I)
  | cons r rr ih =>
    rename_i a b bs vs
    intro σ s Q I h
    obtain ⟨i, v⟩ := a
    obtain ⟨n, u⟩ := b
    obtain ⟨r1, r2, r3, r4⟩ := r
    exact wpAny_assignInOrder_more (wpAny_bindName (store_ok I hN r1 r2 r4 (fun s' I' => ih I' h) r3))
def tCs0 : TCs := fun _ D σ H => D.nx σ H
theorem pcs_nil : PCs X [] tCs0 := ⟨fun pins s σ H x u b D I r h => wpAny_matchCases_nil ⟨σ, H, I, h⟩⟩
def tCsC (tp : TPat) (tb : TS) (tr : TCs) : TCs := fun x D σ H => tp x H fun r H1 => match r with
  | none => tr x D σ H1
  | some bs => tb D (setAll σ bs) H1
theorem pcs_cons {p : Pattern} {body : List Stmt} {rest : List MatchCase} {tp : TPat} {tb : TS} {tr : TCs} (hN : X.N.Nodup) (hp : PPat X p tp) (hb : PSs X body tb) (hr : PCs X rest tr) : PCs X (⟨p, none, body⟩ :: rest) (tCsC tp tb tr) := by
  refine ⟨fun pins s σ H x u b D I r h => ?_⟩
  refine wpAny_matchCases_cons (wpAny_mono (hp.run pins s σ H x u _ I r h) (fun c s1 q => ?_) fun _ _ z => z)
  obtain ⟨c', H1, I1, rc, q⟩ := q
  cases c' with
  | none =>
    cases c with
    | none => exact hr.run pins s1 σ H1 x u false D I1 r q
    | some _ => exact False.elim rc
  | some bs =>
    cases c with
    | none => exact False.elim rc
    | some vs => exact bind_all hN rc I1 fun s2 I2 => hb.run pins s2 _ H1 D I2 q
def tMatch (te : TE) (tc : TCs) : TS := fun D σ H => te σ H fun x H1 => tc x D σ H1
theorem ps_match {e : Expr} {cs : List MatchCase} {te : TE} {tc : TCs} {pos : Pos} (he : PE X e te) (hc : PCs X cs tc) : PS X (.Match e cs pos) (tMatch te tc) := by
  refine ⟨fun pins s σ H D I h => ?_⟩
  exact wpAny_Match (thn (he.run pins s σ H _ I h) fun u s1 ⟨x, H1, I1, rx, q⟩ => hc.run pins s1 σ H1 x u true D I1 rx q)
end

/-! ### the pool: _law_pool, _law_mixed, _law_draw -/
abbrev sMixed : Stmt := topS 65
abbrev NMixed : List Str := ["_law_number", "_law_count", "_law_many"]
abbrev PMixed : List Str := ["_law_number", "_law_count", "_law_many"]
theorem scMixed : FnScope NMixed PMixed (defScope sMixed) := ⟨rfl, rfl, rfl, by decide +kernel, rfl, by decide +kernel, by decide +kernel⟩
abbrev sDraw : Stmt := topS 66
abbrev NDraw : List Str := ["_law_pool_here", "_law_many", "_law_at", "_law_cells", "_law_cell"]
abbrev PDraw : List Str := ["_law_pool_here", "_law_many"]
theorem scDraw : FnScope NDraw PDraw (defScope sDraw) := ⟨rfl, rfl, rfl, by decide +kernel, rfl, by decide +kernel, by decide +kernel⟩
abbrev sPool : Stmt := topS 64
abbrev NPool : List Str := ["_law_script", "_law_cells", "_law_cell", "_law_seed"]
abbrev PPool : List Str := ["_law_script"]
theorem scPool : FnScope NPool PPool (defScope sPool) := ⟨rfl, rfl, rfl, by decide +kernel, rfl, by decide +kernel, by decide +kernel⟩
/-- the pool at p, its cells at c; lim is its last item; at most n draws so far -/
def PoolAt (H : Hp) (p c : Addr) (lim : V) (n : Nat) : Prop :=
  ∃ (i : Nat) (cells : List Int) (cnt seed mode : Int), H p = some (.lst [.ref c, .int (i : Int), .int cnt, .int seed, .int mode, lim]) ∧ H c = some (.lst (cells.map V.int)) ∧
    i ≤ cells.length ∧ 0 ≤ cnt ∧ cnt ≤ (n : Int) ∧ 0 ≤ seed ∧ seed < 2147483647
def spMixed : Sp := fun vs H Q _ => ∃ (n c m : Int), vs = [.int n, .int c, .int m] ∧ 0 ≤ n ∧ n < 2147483647 ∧ 0 ≤ c ∧ c ≤ 1000000000000 ∧ 0 < m ∧ ∀ r : Int, 0 ≤ r → r < m → Q (.int r) H
def spDraw : Sp := fun vs H Q _ => ∃ (p c : Addr) (lim : V) (n : Nat) (m : Int), vs = [.ref p, .int m] ∧ PoolAt H p c lim n ∧ n < 1000000000000 ∧ 0 < m ∧ m ≤ 1000000000000000000 ∧
  ∀ (r : Int) (H' : Hp), 0 ≤ r → r < m → PoolAt H' p c lim (n + 1) → But p c H H' → Q (.int r) H'
def spPool (K : PySem.W.Frag) : Sp := fun vs H Q _ => ∃ (a : Addr) (ns : List Int), vs = [.ref a] ∧ SqL K H a (ns.map V.int) ∧ ns.length ≤ 63 ∧
  ∀ (p c : Addr) (H' : Hp), Same H H' → H p = none → H c = none → PoolAt H' p c (.int 30) 0 → Q (.ref p) H'
structure TxPool (mg : Str → Option Value) : Prop where
  n_int : mg "int" = none
  n_len : mg "len" = none
theorem pool_ne {H : Hp} {p c : Addr} {xs : List V} {cells : List Int} (hp : H p = some (.lst (.ref c :: xs))) (hc : H c = some (.lst (cells.map V.int))) : p ≠ c := ne_of hp hc (by
  intro z
  injection z with z
  cases cells with
  | nil => cases z
  | cons a r => injection z with z _; cases z)
theorem pow_lt {n c : Int} (h1 : 0 ≤ n) (h2 : n < 2147483647) (h3 : 0 ≤ c) (h4 : c ≤ 1000000000000) : (n + 7919 * c).natAbs < 2 ^ 64 := by
  have : (2 : Nat) ^ 64 = 18446744073709551616 := by decide
  omega
theorem m63 {m : Int} (h0 : 0 < m) (h1 : m ≤ 1000000000000000000) : m.natAbs < 2 ^ 63 := by
  have : (2 : Nat) ^ 63 = 9223372036854775808 := by decide
  omega
theorem set_ints (cells : List Int) (j : Nat) (z : Int) : (cells.map V.int).set j (V.int z) = (cells.set j z).map V.int := by
  rw [List.map_set]
theorem same_new {H : Hp} {p : Addr} {o : HO} (h : H p = none) : Same H (upd H p o) := fun b x e => by
  rw [upd_ne (ne_of_none e h)]
  exact e
theorem atI_in {α : Type} {xs : List α} {i : Int} (h0 : 0 ≤ i) (h1 : i < xs.length) : ∃ v, atI xs i = some v ∧ v ∈ xs := by
  have h : i.toNat < xs.length := by omega
  refine ⟨xs[i.toNat], ?_, List.getElem_mem h⟩
  have e : i = ((i.toNat : Nat) : Int) := by omega
  have q := atI_nat (xs := xs) (j := i.toNat) (v := xs[i.toNat]) (by simp [h])
  rw [← e] at q
  exact q
theorem PoolAt.same {H H' : Hp} {p c : Addr} {lim : V} {n : Nat} (h : PoolAt H p c lim n) (s : Same H H') : PoolAt H' p c lim n := by
  obtain ⟨i, cs, cn, sd, md, e1, e2, e⟩ := h
  exact ⟨i, cs, cn, sd, md, s _ _ e1, s _ _ e2, e⟩
theorem PoolAt.ne1 {H : Hp} {p c q : Addr} {lim : V} {n : Nat} (h : PoolAt H p c lim n) (hq : H q = none) : q ≠ p := fun z => by
  obtain ⟨_, _, _, _, _, e, _⟩ := h
  rw [z, e] at hq
  cases hq
theorem PoolAt.ne2 {H : Hp} {p c q : Addr} {lim : V} {n : Nat} (h : PoolAt H p c lim n) (hq : H q = none) : q ≠ c := fun z => by
  obtain ⟨_, _, _, _, _, _, e, _⟩ := h
  rw [z, e] at hq
  cases hq
theorem str_app_len (a b : Str) : (a ++ b : Str).length = a.length + b.length := by
  show (a.cps ++ b.cps).size = a.cps.size + b.cps.size
  exact Array.size_append
theorem PoolAt.mono {H : Hp} {p c : Addr} {lim : V} {n m : Nat} (h : PoolAt H p c lim n) (hm : n ≤ m) : PoolAt H p c lim m := by
  obtain ⟨i, cs, cn, sd, md, e1, e2, e3, e4, e5, e⟩ := h
  exact ⟨i, cs, cn, sd, md, e1, e2, e3, e4, by omega, e⟩
theorem PoolAt.upd {H : Hp} {p c q : Addr} {lim : V} {n : Nat} {o : HO} (h : PoolAt H p c lim n) (h1 : q ≠ p) (h2 : q ≠ c) : PoolAt (upd H q o) p c lim n := by
  obtain ⟨i, cs, cn, sd, md, e1, e2, e⟩ := h
  exact ⟨i, cs, cn, sd, md, by rw [upd_ne h1.symm]; exact e1, by rw [upd_ne h2.symm]; exact e2, e⟩
section
variable {P : Program} {w : World} {K : PySem.W.Frag} {mg : Str → Option Value} {base : Heap}
theorem ok_Mixed {f : Addr} {fd : FuncData} (F : Fun K "_law_mixed" "_law_mixed" sMixed f fd) (T : TxPool mg) : FnOk P w K mg base CX0 1 f fd PMixed spMixed := by
  refine F.ok scMixed (fun vs H Q E h => ?_) (fun cdv A outer s H vs Q E hr h => ?_)
  · obtain ⟨n, c, m, rfl, _⟩ := h
    rfl
  · obtain ⟨n, c, m, rfl, n0, n1, c0, c1, m0, k⟩ := h
    refine ⟨_, (pss_one (ps_ret (pe_op op_mod (pe_op op_fdiv (pe_callTy call_int1 (by rfl) T.n_int bb_int (pa_cons (pe_op op_mod (pe_op op_pow (pe_callTy call_int1 (by rfl) T.n_int bb_int (pa_cons (pe_op op_add (pv 0) (pe_op op_mul pe_int (pv 1))) pa_nil)) pe_int) pe_int) pa_nil)) pe_int) (pv 2)))), ?_⟩
    refine ⟨_, rfl, _, rfl, _, _, rfl, rfl, .inl ⟨by decide, by decide⟩, _, _, rfl, rfl, .inl ⟨_, rfl, ?_⟩⟩
    refine ⟨_, _, rfl, rfl, ⟨by decide, by decide, pow_lt n0 n1 c0 c1⟩, _, _, rfl, rfl, (show (0 : Int) < 2147483647 by decide), .inl ⟨_, rfl, ?_⟩⟩
    refine ⟨_, _, rfl, rfl, ⟨by decide, by decide⟩, _, rfl, _, _, rfl, rfl, m0, ?_⟩
    exact k _ (Int.emod_nonneg _ (by omega)) (Int.emod_lt_of_pos _ m0)
theorem ok_Draw {f : Addr} {fd : FuncData} (F : Fun K "_law_draw" "_law_draw" sDraw f fd) (T : TxPool mg) (GM : Has P w K mg base CX0 1 "_law_mixed" PMixed spMixed) :
    FnOk P w K mg base CX0 2 f fd PDraw spDraw := by
  refine F.ok scDraw (fun vs H Q E h => ?_) (fun cdv A outer s H vs Q E hr h => ?_)
  · obtain ⟨p, c, lim, n, m, rfl, _⟩ := h
    rfl
  · obtain ⟨p, c, lim, n, m, rfl, ⟨i, cells, cnt, seed, mode, hp, hc, hi, c0, c1, s0, s1⟩, hn, m0, m1, k⟩ := h
    have npc : p ≠ c := pool_ne hp hc
    refine ⟨_, (pss_cons (ps_asg (pe_op op_add (pe_ix (r := rIxL K) ix_list (pv 0) pe_int (fun _ _ => rfl)) pe_int) (pg_sub (pv 0) pe_int set_list))
  (pss_cons (ps_if (pt_cmpR op_ge (pe_ix (r := rIxL K) ix_list (pv 0) pe_int (fun _ _ => rfl)) (pe_callB call_len_seq (by rfl) T.n_len bb_len (pa_cons (pe_ix (r := rIxL K) ix_list (pv 0) pe_int (fun _ _ => rfl)) pa_nil)) (nomark _))
  (pss_one (ps_ret (pe_callH GM hr rfl pass0 (pa_cons (pe_ix (r := rIxL K) ix_list (pv 0) pe_int (fun _ _ => rfl)) (pa_cons (pe_ix (r := rIxL K) ix_list (pv 0) pe_int (fun _ _ => rfl)) (pa_cons (pv 1) pa_nil))))))
  pss_nil)
  (pss_cons (ps_set (i := 2) scDraw.nd rfl (Or.inl rfl) (pe_ix (r := rIxL K) ix_list (pv 0) pe_int (fun _ _ => rfl)))
  (pss_cons (ps_set (i := 3) scDraw.nd rfl (Or.inl rfl) (pe_ix (r := rIxL K) ix_list (pv 0) pe_int (fun _ _ => rfl)))
  (pss_cons (ps_set (i := 4) scDraw.nd rfl (Or.inl rfl) (pe_ix (r := rIxL K) ix_list (pv 3) (pv 2) (fun _ _ => rfl)))
  (pss_cons (ps_if (PW.pt (pw_and (pt_cmpR op_ne (pe_ix (r := rIxL K) ix_list (pv 0) pe_int (fun _ _ => rfl)) pe_int (nomark _)) (pw_and1 (pt_cmpR op_lt (pv 4) (pe_op op_pow pe_int pe_int) (nomark _)))))
  (pss_cons (ps_asg (pe_op op_add (pe_ix (r := rIxL K) ix_list (pv 0) pe_int (fun _ _ => rfl)) pe_int) (pg_sub (pv 0) pe_int set_list))
  (pss_cons (ps_if (pt_cmpR op_eq (pe_ix (r := rIxL K) ix_list (pv 0) pe_int (fun _ _ => rfl)) pe_int (nomark _))
  (pss_cons (ps_asg (pe_op op_add (pv 2) pe_int) (pg_sub (pv 0) pe_int set_list))
  (pss_one (ps_asg pe_int (pg_sub (pv 0) pe_int set_list))))
  pss_nil)
  (pss_one (ps_ret (pe_callH GM hr rfl pass0 (pa_cons (pe_op op_mod (pe_callTy call_int1 (by rfl) T.n_int bb_int (pa_cons (pv 4) pa_nil)) pe_int) (pa_cons (pe_ix (r := rIxL K) ix_list (pv 0) pe_int (fun _ _ => rfl)) (pa_cons (pv 1) pa_nil))))))))
  pss_nil)
  (pss_cons (ps_asg pe_int (pg_sub (pv 0) pe_int set_list))
  (pss_cons (ps_asg (pe_op op_fdivW (pe_callTy call_int1 (by rfl) T.n_int bb_int (pa_cons (pv 4) pa_nil)) (pv 1)) (pg_sub (pv 3) (pv 2) set_list))
  (pss_cons (ps_if (pt_cmpR op_eq (pe_ix (r := rIxL K) ix_list (pv 3) (pv 2) (fun _ _ => rfl)) pe_int (nomark _))
  (pss_cons (ps_asg (pe_op op_add (pv 2) pe_int) (pg_sub (pv 0) pe_int set_list))
  (pss_one (ps_asg pe_int (pg_sub (pv 0) pe_int set_list))))
  pss_nil)
  (pss_one (ps_ret (pe_op op_mod (pe_callTy call_int1 (by rfl) T.n_int bb_int (pa_cons (pv 4) pa_nil)) (pv 1))))))))))))), ?_⟩
    -- pool[2] = pool[2] + 1
    refine ⟨_, rfl, p, _, _, _, rfl, rfl, SqL.of hp, rfl, _, _, rfl, rfl, _, rfl, p, _, _, _, rfl, rfl, hp, rfl, ?_⟩
    have st : ∀ (i' : Nat) (md : Int) (cs : List Int), i' ≤ cs.length → ∀ H' : Hp, H' p = some (.lst [.ref c, .int (i' : Int), .int (cnt + 1), .int seed, .int md, lim]) → H' c = some (.lst (cs.map V.int)) → PoolAt H' p c lim (n + 1) :=
      fun i' md cs hl H' a b => ⟨i', cs, cnt + 1, seed, md, a, b, hl, by omega, by omega, s0, s1⟩
    have ac : ∀ {H' : Hp} {o : HO} {x : HO}, H' c = some x → upd H' p o c = some x := fun e => by rw [upd_ne npc.symm]; exact e
    have ap : ∀ {H' : Hp} {o : HO} {x : HO}, H' p = some x → upd H' c o p = some x := fun e => by rw [upd_ne npc]; exact e
    have kq : ∀ {H' : Hp} {o : HO}, But p c H H' → But p c H (upd H' p o) := fun b x o e hb hx => by rw [upd_ne hb]; exact b x o e hb hx
    have kc : ∀ {H' : Hp} {o : HO}, But p c H H' → But p c H (upd H' c o) := fun b x o e hb hx => by rw [upd_ne hx]; exact b x o e hb hx
    -- if pool[1] >= len(pool[0])
    refine ⟨_, rfl, p, _, _, _, rfl, rfl, SqL.of upd_same, rfl, _, rfl, p, _, _, _, rfl, rfl, SqL.of upd_same, rfl, c, _, rfl, .inl (SqL.of (ac hc)), _, _, rfl, rfl, _, rfl, ?_⟩
    refine ite2 (fun hge => ?_) (fun hlt => ?_)
    · refine ⟨_, rfl, p, _, _, _, rfl, rfl, SqL.of upd_same, rfl, _, rfl, p, _, _, _, rfl, rfl, SqL.of upd_same, rfl, _, rfl, seed, cnt + 1, m, rfl, s0, s1, by omega, by omega, m0, fun r r0 r1 => ?_⟩
      exact k r _ r0 r1 (st i mode cells hi _ upd_same (ac hc)) (kq But.refl)
    · have hil : i < cells.length := by
        have z : ¬ ((cells.map V.int).length : Int) ≤ (i : Int) := fun z => hlt (decide_eq_true z)
        rw [List.length_map] at z
        omega
      obtain ⟨cell, hcell⟩ : ∃ z, cells[i]? = some z := ⟨cells[i], by simp [hil]⟩
      have hcV : (cells.map V.int)[i]? = some (V.int cell) := by rw [List.getElem?_map, hcell]; rfl
      -- at, cells, cell
      refine ⟨_, rfl, p, _, _, _, rfl, rfl, SqL.of upd_same, rfl, ?_⟩
      refine ⟨_, rfl, p, _, _, _, rfl, rfl, SqL.of upd_same, rfl, ?_⟩
      refine ⟨_, rfl, _, rfl, c, _, _, _, rfl, rfl, SqL.of (ac hc), atI_nat hcV, ?_⟩
      -- if pool[4] != 2 and cell < 10 ** 18
      refine ⟨_, rfl, p, _, _, _, rfl, rfl, SqL.of upd_same, rfl, rfl, _, rfl, ?_⟩
      refine ite2 (fun h2 => ?gA) (fun h2 => iteF ?gB)
      case' gA => refine ⟨_, rfl, _, _, rfl, rfl, ⟨by decide, by decide, by decide⟩, _, _, rfl, rfl, _, rfl, ite2 (fun h3 => ?gD) (fun h3 => ?gC)⟩
      case gD =>
        refine ⟨_, rfl, p, _, _, _, rfl, rfl, SqL.of upd_same, rfl, _, _, rfl, rfl, _, rfl, p, _, _, _, rfl, rfl, upd_same, rfl, ?_⟩
        refine ⟨_, rfl, p, _, _, _, rfl, rfl, SqL.of upd_same, rfl, rfl, _, rfl, ite2 (fun h4 => ?_) (fun h4 => ?_)⟩
        · refine ⟨_, rfl, _, _, rfl, rfl, _, rfl, p, _, _, _, rfl, rfl, upd_same, rfl, ?_⟩
          refine ⟨_, rfl, p, _, _, _, rfl, rfl, upd_same, rfl, ?_⟩
          refine ⟨_, rfl, .inl ⟨_, rfl, _, _, rfl, rfl, (show (0 : Int) < 2147483647 by decide), _, rfl, p, _, _, _, rfl, rfl, SqL.of upd_same, rfl, _, rfl, _, cnt + 1, m, rfl, Int.emod_nonneg _ (by decide), Int.emod_lt_of_pos _ (by decide), by omega, by omega, m0, fun r r0 r1 => ?_⟩⟩
          exact k r _ r0 r1 (st (i + 1) 0 cells (by omega) _ upd_same (ac (ac (ac (ac hc))))) (kq (kq (kq (kq But.refl))))
        · refine ⟨_, rfl, .inl ⟨_, rfl, _, _, rfl, rfl, (show (0 : Int) < 2147483647 by decide), _, rfl, p, _, _, _, rfl, rfl, SqL.of upd_same, rfl, _, rfl, _, cnt + 1, m, rfl, Int.emod_nonneg _ (by decide), Int.emod_lt_of_pos _ (by decide), by omega, by omega, m0, fun r r0 r1 => ?_⟩⟩
          exact k r _ r0 r1 (st i (mode + 1) cells (by omega) _ upd_same (ac (ac hc))) (kq (kq But.refl))
      all_goals
        -- pool[4] = 2; cells[at] = int(cell) // many
        refine ⟨_, rfl, p, _, _, _, rfl, rfl, upd_same, rfl, ?_⟩
        have hix : ixN (cells.map V.int).length (i : Int) = some i := by
          unfold ixN
          rw [List.length_map, if_pos (by omega), if_pos (by omega), Int.toNat_natCast]
        refine ⟨_, rfl, .inl ⟨_, rfl, _, rfl, _, _, rfl, rfl, wide_div m0 (m63 m0 m1) (by decide) (by decide), _, rfl, _, rfl, c, _, _, i, rfl, rfl, ac (ac hc), hix, ?_⟩⟩
        rw [set_ints]
        have hcW : ((cells.set i (cell / m)).map V.int)[i]? = some (V.int (cell / m)) := by
          rw [List.getElem?_map, List.getElem?_set_self hil]; rfl
        have hlen : (cells.set i (cell / m)).length = cells.length := List.length_set
        refine ⟨_, rfl, _, rfl, c, _, _, _, rfl, rfl, SqL.of upd_same, atI_nat hcW, rfl, _, rfl, ite2 (fun h4 => ?_) (fun h4 => ?_)⟩
        · refine ⟨_, rfl, _, _, rfl, rfl, _, rfl, p, _, _, _, rfl, rfl, ap upd_same, rfl, ?_⟩
          refine ⟨_, rfl, p, _, _, _, rfl, rfl, upd_same, rfl, ?_⟩
          refine ⟨_, rfl, .inl ⟨_, rfl, _, rfl, _, _, rfl, rfl, m0, ?_⟩⟩
          exact k _ _ (Int.emod_nonneg _ (by omega)) (Int.emod_lt_of_pos _ m0) (st (i + 1) 0 _ (by omega) _ upd_same (ac (ac upd_same))) (kq (kq (kc (kq (kq But.refl)))))
        · refine ⟨_, rfl, .inl ⟨_, rfl, _, rfl, _, _, rfl, rfl, m0, ?_⟩⟩
          exact k _ _ (Int.emod_nonneg _ (by omega)) (Int.emod_lt_of_pos _ m0) (st i 2 _ (by omega) _ (ap upd_same) upd_same) (kc (kq (kq But.refl)))
/-! _law_pool -/
theorem cut63 {ns : List Int} (h : ns.length ≤ 63) : cutV (ns.map V.int) none (some 63) = ns.map V.int := by
  unfold cutV
  rw [HT.sIx_none, show HT.sIx (ns.map V.int).length (ns.map V.int).length (some 63) = min 63 (ns.map V.int).length from HT.sIx_nat _ _ 63]
  rw [List.length_map, List.drop_zero, List.take_of_length_le]
  rw [List.length_map]
  omega
theorem int_at {ns : List Int} {i : Nat} {x : V} (h : (ns.map V.int)[i]? = some x) : ∃ z, ns[i]? = some z ∧ x = V.int z := by
  rw [List.getElem?_map] at h
  cases e : ns[i]? with
  | none => rw [e] at h; cases h
  | some z => rw [e] at h; exact ⟨z, rfl, (Option.some.inj h).symm⟩
theorem take_snoc {α : Type} {l : List α} {i : Nat} {z : α} (h : l[i]? = some z) : l.take (i + 1) = l.take i ++ [z] := by
  rw [List.take_succ, h]; rfl
theorem ok_Pool {f : Addr} {fd : FuncData} (F : Fun K "_law_pool" "_law_pool" sPool f fd) (T : TxPool mg) : FnOk P w K mg base CX0 1 f fd PPool (spPool K) := by
  refine F.ok scPool (fun vs H Q E h => ?_) (fun cdv A outer s H vs Q E hr h => ?_)
  · obtain ⟨a, ns, rfl, _⟩ := h
    rfl
  · obtain ⟨a, ns, rfl, hS, hlen, k⟩ := h
    refine ⟨_, (pss_cons (ps_setLc (i := 1) (own := [("_law_cell", 2)]) (g := gName 2) (tt := tYes) rfl scPool.nd rfl rfl (sw_true rfl rfl rfl (by decide +kernel)) (pi_list (pe_slice sl_list (pv 0) po_none (po_some pe_int))) (blkOk_by (own := [("_law_cell", 2)]) (N := NPool) (sc := (defScope sPool)) (by decide +kernel)) (fun _ _ _ _ _ => (pg_name (i := 2) scPool.nd rfl (Or.inl rfl))) (fun _ _ _ _ _ => pts_nil) (fun _ _ _ _ _ => (pe_callTy call_int1 (by rfl) T.n_int bb_int (pa_cons (pv 2) pa_nil))))
  (pss_cons (ps_set (i := 3) scPool.nd rfl (Or.inl rfl) pe_int)
  (pss_cons (ps_for PassesOwn.never rfl (pi_list (pv 1)) (pg_name (i := 2) scPool.nd rfl (Or.inl rfl))
  (pss_one (ps_set (i := 3) scPool.nd rfl (Or.inl rfl) (pe_op op_mod (pe_callTy call_int1 (by rfl) T.n_int bb_int (pa_cons (pe_op op_add (pe_op op_mul (pv 3) pe_int) (pv 2)) pa_nil)) pe_int))))
  (pss_one (ps_ret (pe_lst (pa_cons (pv 1) (pa_cons pe_int (pa_cons pe_int (pa_cons (pv 3) (pa_cons pe_int (pa_cons pe_int pa_nil)))))))))))), ?_⟩
    refine ⟨_, rfl, 63, rfl, a, _, rfl, hS, fun q hq => ⟨q, rfl, ⟨_, SqL.of upd_same⟩, fun D hD => ?_⟩⟩
    rw [cut63 hlen] at *
    have nqD : q ≠ D := fun z => by rw [z, upd_same] at hD; cases hD
    have hD0 : H D = none := by rw [← hD, upd_ne (Ne.symm nqD)]
    refine lc_list (K := K) (a := q) (xs := ns.map V.int) (fun i H' => Same H H' ∧ H' q = some (.lst (ns.map V.int)) ∧ H' D = some (.lst ((ns.take i).map V.int))) ?_ ?_ ?_ ?_
    · exact ⟨fun b o e => by rw [upd_ne (ne_of_none e hD0), upd_ne (ne_of_none e hq)]; exact e, by rw [upd_ne nqD, upd_same], upd_same⟩
    · exact fun i H' _ h' => SqL.of h'.2.1
    · rintro i x H' hx ⟨s1, q1, d1⟩
      obtain ⟨z, hz, rfl⟩ := int_at hx
      refine ⟨rfl, _, rfl, .inl ⟨_, rfl, _, d1, ?_, ?_⟩⟩
      · exact small1000 (by rw [List.length_map, List.length_take]; omega)
      · refine ⟨fun b o e => by rw [upd_ne (ne_of_none e hD0)]; exact s1 b o e, by rw [upd_ne nqD]; exact q1, ?_⟩
        rw [upd_same, take_snoc hz, List.map_append]
        rfl
    · rintro H1 ⟨s1, q1, d1⟩
      rw [List.length_map, List.take_length] at d1
      -- seed = 11; the loop
      refine ⟨_, rfl, D, rfl, ⟨_, SqL.of d1⟩, for_list (K := K) (a := D) (xs := ns.map V.int) (fun i σ H' => ∃ (x : Option V) (z : Int), σ = [some (.ref a), some (.ref D), x, some (.int z)] ∧ 0 ≤ z ∧ z < 2147483647 ∧ H' = H1)
        ⟨none, 11, rfl, by decide, by decide, rfl⟩ (fun i σ H' _ ⟨_, _, _, _, _, e⟩ => by rw [e]; exact SqL.of d1) ?_ ?_⟩
      · rintro i x σ H' hx ⟨y, z, rfl, z0, z1, rfl⟩
        obtain ⟨u, hu, rfl⟩ := int_at hx
        refine ⟨_, rfl, _, _, rfl, rfl, .inr ⟨by decide, by decide⟩, _, rfl, _, _, rfl, rfl, .inl ⟨_, rfl, _, _, rfl, rfl, (show (0 : Int) < 2147483647 by decide), ?_⟩⟩
        exact ⟨_, _, rfl, Int.emod_nonneg _ (by decide), Int.emod_lt_of_pos _ (by decide), rfl⟩
      · rintro σ H' ⟨y, z, rfl, z0, z1, rfl⟩
        refine ⟨_, rfl, _, rfl, (by show 6 ≤ sizeLine; decide), fun p hp => ?_⟩
        have npD : D ≠ p := ne_of_none d1 hp
        refine k p D _ (s1.trans (same_new hp)) (s1.free hp) hD0 ⟨0, ns, 0, z, 0, upd_same, by rw [upd_ne npD]; exact d1, Nat.zero_le _, by decide, by decide, z0, z1⟩
end

/-! ### is_name -/
abbrev sIsName : Stmt := topS 29
abbrev NIsName : List Str := ["value", "char"]
abbrev PIsName : List Str := ["value"]
theorem scIsName : FnScope NIsName PIsName (defScope sIsName) := ⟨rfl, rfl, rfl, by decide +kernel, rfl, by decide +kernel, by decide +kernel⟩
def LET : Str := "abcdefghijklmnopqrstuvwxyz"
def DIG : Str := "0123456789"
def KWS : List Str := ["globals", "kinds", "keep", "def", "if", "else", "while", "risk", "raise", "try", "except", "finally", "undo", "with", "swallow", "return"]
def al (c : Nat) : Bool := decide (c ∈ LET.cps.toList) || decide (c ∈ DIG.cps.toList)
def isName (z : Str) : Bool := match z.cps.toList with
  | [] => false
  | c :: r => decide (c ∈ LET.cps.toList) && (c :: r).all al && !inV (.str z) (KWS.map V.str)
theorem isName_nil {z : Str} (h : z.cps.toList = []) : isName z = false := by unfold isName; rw [h]
theorem isName_at {z : Str} {c : Nat} (h : z.cps.toList[0]? = some c) : isName z = (decide (c ∈ LET.cps.toList) && z.cps.toList.all al && !inV (.str z) (KWS.map V.str)) := by
  unfold isName
  cases e : z.cps.toList with
  | nil => rw [e] at h; simp at h
  | cons a r => rw [e] at h; simp at h; subst h; rfl
theorem str_empty_iff {z : Str} : (V.str z = V.str ("" : Str)) ↔ z.cps.toList = [] := by
  constructor
  · intro h
    injection h with h
    subst h
    decide +kernel
  · intro h
    congr 1
    have e : z.cps = #[] := by simpa using h
    cases z with
    | mk c =>
      have e : c = #[] := e
      subst e
      decide +kernel
/-- what is asked of a value: a text not too long, or something that is no text -/
def NoStr (K : PySem.W.Frag) (H : Hp) (v : V) : Prop := ∃ t, TyX K H v t ∧ PySem.W.kitOne K t (.type "str") = some false
def spName (K : PySem.W.Frag) : Sp := fun vs H Q _ => ∃ v, vs = [v] ∧ ((∃ z : Str, v = .str z ∧ z.length ≤ 1000 ∧ Q (.bl (isName z)) H) ∨ (NoStr K H v ∧ Q (.bl false) H))
structure TxName (K : PySem.W.Frag) (mg : Str → Option Value) (kw : Addr) : Prop where
  n_isinstance : mg "isinstance" = none
  n_str : mg "str" = none
  c_LETTERS : ∃ u, mg "LETTERS" = some u ∧ RelV (.str LET) u
  c_DIGITS : ∃ u, mg "DIGITS" = some u ∧ RelV (.str DIG) u
  c_KEYWORDS : ∃ u, mg "KEYWORDS" = some u ∧ RelV (.ref kw) u
  kws : ∀ H, SqT K H kw (KWS.map V.str)
section
variable {P : Program} {w : World} {K : PySem.W.Frag} {mg : Str → Option Value} {base : Heap} {kw : Addr}
theorem ok_IsName {f : Addr} {fd : FuncData} (F : Fun K "is_name" "is_name" sIsName f fd) (T : TxName K mg kw) : FnOk P w K mg base CX0 1 f fd PIsName (spName K) := by
  refine F.ok scIsName (fun vs H Q E h => ?_) (fun cdv A outer s H vs Q E hr h => ?_)
  · obtain ⟨v, rfl, _⟩ := h
    rfl
  · obtain ⟨v, rfl, h⟩ := h
    refine ⟨_, (pss_cons (ps_if (PW.pt (pw_or (pt_not (pt_val (pe_callB call_isi (by rfl) T.n_isinstance bb_isinstance (pa_cons (pv 0) (pa_cons (pe_bltn (v := .ty "str") (by rfl) T.n_str bb_str rfl) pa_nil))))) (pw_or (pt_cmpR op_eq (pv 0) pe_str (nomark _)) (pw_or1 (pt_cmpR op_notIn_sign (pe_ix ix_str (pv 0) pe_int (fun _ _ => rfl)) (pe_globE rfl T.c_LETTERS) (by rfl))))))
  (pss_one (ps_ret pe_bl))
  pss_nil)
  (pss_cons (ps_for PassesOwn.never rfl (pi_str (pv 0)) (pg_name (i := 1) scIsName.nd rfl (Or.inl rfl))
  (pss_one (ps_if (PW.pt (pw_and (pt_cmpR op_notIn_sign (pv 1) (pe_globE rfl T.c_LETTERS) (by rfl)) (pw_and1 (pt_cmpR op_notIn_sign (pv 1) (pe_globE rfl T.c_DIGITS) (by rfl)))))
  (pss_one (ps_ret pe_bl))
  pss_nil)))
  (pss_one (ps_ret (pe_cmpR op_notIn_seq (pv 0) (pe_globE rfl T.c_KEYWORDS) (by rfl)))))), ?_⟩
    rcases h with ⟨z, rfl, hz, k⟩ | ⟨⟨t, ty, kt⟩, k⟩
    · refine ⟨_, rfl, _, _, _, _, _, rfl, .ty _, .base (.str z), kit_ty (r := true) (by decide +kernel), _, rfl, ?_⟩
      refine ⟨_, rfl, rfl, _, rfl, ite2 (fun he => ?_) (fun he => ?_)⟩
      · have e := str_empty_iff.mp (of_decide_eq_true he)
        rw [isName_nil e] at k
        exact k
      · have hne : z.cps.toList ≠ [] := fun e => he (decide_eq_true (str_empty_iff.mpr e))
        obtain ⟨c, hc⟩ : ∃ c, z.cps.toList[0]? = some c := by
          cases e : z.cps.toList with
          | nil => exact absurd e hne
          | cons a r => exact ⟨a, rfl⟩
        rw [isName_at hc] at k
        refine ⟨_, rfl, z, 0, c, rfl, rfl, Nat.le_trans hz (by decide), atI_nat (j := 0) hc, c, _, rfl, rfl, _, rfl, ite2 (fun hl => ?_) (fun hl => ?_)⟩
        · have hl : decide (c ∈ LET.cps.toList) = false := by simpa using hl
          rw [hl] at k
          exact k
        · have hl : decide (c ∈ LET.cps.toList) = true := by simpa using hl
          rw [hl, Bool.true_and] at k
          refine ⟨_, rfl, z, rfl, for_it (walk_str (z := z)) (fun i σ H' => H' = H ∧ (z.cps.toList.take i).all al = true ∧ ∃ x, σ = [some (.str z), x]) ⟨rfl, rfl, none, rfl⟩ (fun _ _ _ _ _ => trivial) ?_ ?_⟩
          · rintro i x σ H1 H2 hi ⟨rfl, ha, y, rfl⟩ ⟨rfl, d, hd, rfl⟩
            have hd' : z.cps.toList[i]? = some d := by rw [Array.getElem?_toList]; exact hd
            have step : decide (d ∈ LET.cps.toList) || decide (d ∈ DIG.cps.toList) → (z.cps.toList.take (i + 1)).all al = true := fun h => by
              rw [take_snoc hd', List.all_append, ha, Bool.true_and, List.all_cons, List.all_nil, Bool.and_true]
              exact h
            have bad : (decide (d ∈ LET.cps.toList) || decide (d ∈ DIG.cps.toList)) = false → z.cps.toList.all al = false := fun h => by
              rw [List.all_eq_false]
              exact ⟨d, List.mem_of_getElem? hd', by unfold al; rw [h]; decide⟩
            refine ⟨_, rfl, d, _, rfl, rfl, _, rfl, ite2 (fun h1 => ?_) (fun h1 => ?_)⟩
            · have h1 : decide (d ∈ LET.cps.toList) = false := by simpa using h1
              refine ⟨_, rfl, d, _, rfl, rfl, _, rfl, ite2 (fun h2 => ?_) (fun h2 => ?_)⟩
              · have h2 : decide (d ∈ DIG.cps.toList) = false := by simpa using h2
                rw [bad (by rw [h1, h2]; rfl)] at k
                exact k
              · have h2 : decide (d ∈ DIG.cps.toList) = true := by simpa using h2
                exact ⟨rfl, step (by rw [h2]; simp), _, rfl⟩
            · have h1 : decide (d ∈ LET.cps.toList) = true := by simpa using h1
              exact ⟨rfl, step (by rw [h1]; simp), _, rfl⟩
          · rintro σ H1 ⟨rfl, ha, y, rfl⟩
            rw [show z.cps.size = z.cps.toList.length from Array.length_toList.symm, List.take_length] at ha
            rw [ha, Bool.true_and] at k
            exact ⟨_, rfl, kw, _, rfl, .inr (T.kws _), rfl, by decide +kernel, k⟩
    · refine ⟨_, rfl, _, _, _, _, _, rfl, .ty _, ty, kt, _, rfl, ?_⟩
      exact k
end
theorem sq_kws {K : PySem.W.Frag} {a : Addr} {od : Option Addr} {n : Nat} {sl : Array (Option Value)} {its : List Value} (h : K.lookup a = some ⟨.type "tuple", od, .seq its.toArray n, sl⟩) (hv : Vals (KWS.map V.str) its) (H : Hp) : SqT K H a (KWS.map V.str) :=
  .inr ⟨_, _, n, h, rfl, rfl, by
    have e := hv.length
    rw [List.length_map] at e
    have e2 : KWS.length = 16 := rfl
    show its.toArray.size ≤ sizeLine
    rw [List.size_toArray, ← e, e2]
    decide, by simpa using hv⟩

/-! ### the head by kernel runs: the top is run once for each look at what it leaves; no state is written out -/
section
open PySem.W
theorem split3 {S A B : Type} {o : Option S} {f : S → Bool} {g : S → A} {h : S → B} {a : A} {b : B} (h1 : o.map f = some true) (h2 : o.map g = some a) (h3 : o.map h = some b) : o.map (fun s => (f s, g s, h s)) = some (true, a, b) := by
  cases o with
  | none => cases h1
  | some s =>
    have e1 : f s = true := Option.some.inj h1
    have e2 : g s = a := Option.some.inj h2
    have e3 : h s = b := Option.some.inj h3
    show some (f s, g s, h s) = _
    rw [e1, e2, e3]
theorem split2 {S A B : Type} {o : Option S} {g : S → A} {h : S → B} {a : A} {b : B} (h2 : o.map g = some a) (h3 : o.map h = some b) : o.map (fun s => (g s, h s)) = some (a, b) := by
  cases o with
  | none => cases h2
  | some s =>
    have e2 : g s = a := Option.some.inj h2
    have e3 : h s = b := Option.some.inj h3
    show some (g s, h s) = _
    rw [e2, e3]
/-- the addresses that the module's names reach: functions, classes, their codes and methods -/
def refA : Value → List Addr
  | .ref a => [a]
  | _ => []
def refsA : Option Obj → List Addr
  | some ⟨_, _, .dict es _, _⟩ => es.toList.flatMap fun e => refA e.val
  | some ⟨_, _, .func fd, _⟩ => refA fd.code ++ refA fd.defaults
  | some ⟨_, _, .cls cd, _⟩ => [cd.ns]
  | _ => []
def nextA (g : Addr → Option Obj) (as : List Addr) : List Addr := as.flatMap fun a => refsA (g a)
def forceA {α : Type} : List Addr → (List Addr → α) → α
  | [], k => k []
  | a :: r, k => HandSHeadRun.frNat a fun a => forceA r fun r => k (a :: r)
theorem forceA_eq {α : Type} : ∀ (l : List Addr) (k : List Addr → α), forceA l k = k l
  | [], k => rfl
  | a :: r, k => by
    show HandSHeadRun.frNat a (fun a => forceA r fun r => k (a :: r)) = _
    rw [HandSHeadRun.frNat_eq, forceA_eq r]
def withA {α : Type} (g : Addr → Option Obj) (k : Frag → α) : α :=
  forceA (nextA g [mainGlobals]) fun f1 => forceA (nextA g f1) fun f2 => forceA (nextA g f2) fun f3 => forceA (nextA g f3) fun f4 => k (He.frG g (mainGlobals :: (f1 ++ (f2 ++ (f3 ++ f4)))))
theorem withA_eq {α : Type} (g : Addr → Option Obj) (k : Frag → α) : ∃ as, withA g k = k (He.frG g as) := by
  unfold withA
  simp only [forceA_eq]
  exact ⟨_, rfl⟩
abbrev AlA : Type := Bool × He.Al × List He.FnW
def obsA (fx : List (Frag → Bool)) (fa : List He.Fa) (fn : List He.FnD) (fw : List He.DefD) (K : Frag) : AlA := ((fx.all fun f => f K) && fw.all fun d => d.ok K, He.obsE fa fn K, fw.map fun d => He.fnW K d.at_)
def valA (fn : List He.FnD) (fw : List He.DefD) : AlA := (true, He.valE fn, fw.map He.DefD.val)
def SaysA (fx : List (Frag → Bool)) (fa : List He.Fa) (fn : List He.FnD) (fw : List He.DefD) (K : Frag) : Prop := obsA fx fa fn fw K = valA fn fw
def obsAG (fx : List (Frag → Bool)) (fa : List He.Fa) (fn : List He.FnD) (fw : List He.DefD) (g : Addr → Option Obj) : AlA := withA g (obsA fx fa fn fw)
def hookA (fx : List (Frag → Bool)) (fa : List He.Fa) (fn : List He.FnD) (fw : List He.DefD) : Hook where
  α := AlA
  obs := fun s => obsAG fx fa fn fw s.heap.get?
  val := fun _ => valA fn fw
  says := fun _ h => ∃ K : Frag, K.In h ∧ SaysA fx fa fn fw K
  of := fun _ s e => by
    obtain ⟨as, q⟩ := withA_eq s.heap.get? (obsA fx fa fn fw)
    exact ⟨_, He.frG_in, q.symm.trans e⟩
  keeps := fun _ _ _ ⟨K, hK, c⟩ k => ⟨K, Frag.In.keeps hK k, c⟩
theorem obsAG_eq {fx : List (Frag → Bool)} {fa : List He.Fa} {fn : List He.FnD} {fw : List He.DefD} {g : Addr → Option Obj} {s : Shared} (h : ∀ a, g a = s.heap.get? a) : obsAG fx fa fn fw g = (hookA fx fa fn fw).obs s := by
  have e : g = s.heap.get? := funext h
  rw [e] <;> rfl
/-- a def as a datum -/
def khDef (at_ : Str × Option Str) (name qual : Str) (st : Stmt) : He.FnD := ⟨at_, name, qual, defArgs st, defBody st, defScope st⟩
section
variable {fx : List (Frag → Bool)} {fa : List He.Fa} {fn : List He.FnD} {fw : List He.DefD} {K : Frag}
theorem SaysA.x (c : SaysA fx fa fn fw K) (i : Nat) {f : Frag → Bool} (h : fx[i]? = some f) : f K = true :=
  List.all_eq_true.mp (He.ba (show ((fx.all fun f => f K) && fw.all fun d => d.ok K) = true from congrArg (fun z : AlA => z.1) c)).1 f (List.mem_of_getElem? h)
theorem SaysA.says (c : SaysA fx fa fn fw K) : He.SaysE fa fn K := congrArg (fun z : AlA => z.2.1) c
theorem SaysA.dfl_ (c : SaysA fx fa fn fw K) (i : Nat) {d : He.DefD} (h : fw[i]? = some d) : ∃ fd, FunD K d.name d.qual d.params d.body d.scope (d.dvs K) (d.kws K) (He.fAd K d.at_) fd := by
  have c2 := (He.ba (show ((fx.all fun f => f K) && fw.all fun d => d.ok K) = true from congrArg (fun z : AlA => z.1) c)).2
  have e : fw.map (fun d => He.fnW K d.at_) = fw.map He.DefD.val := congrArg (fun z : AlA => z.2.2) c
  have e2 : (fw.map fun d => He.fnW K d.at_)[i]? = (fw.map He.DefD.val)[i]? := by rw [e]
  rw [List.getElem?_map, List.getElem?_map, h] at e2
  exact He.DefD.funD (Option.some.inj e2) (List.all_eq_true.mp c2 d (List.mem_of_getElem? h))
theorem SaysA.fact (c : SaysA fx fa fn fw K) (i : Nat) {f : He.Fa} (h : fa[i]? = some f) : f.ok K = true := c.says.fact i h
theorem SaysA.def_ (c : SaysA fx fa fn fw K) (i : Nat) {a : Str × Option Str} {x q : Str} {st : Stmt} (h : fn[i]? = some (khDef a x q st)) : ∃ fd, Fun K x q st (He.fAd K a) fd := by
  obtain ⟨oc, od, osl, kV, doc, pm, an, cdv, ct, l, cd⟩ := c.says.def_ i h
  exact ⟨_, fun_mk (st := st) l cd (by
    show (match K.lookup (He.fAd K a) with
      | some ⟨_, _, .func _, _⟩ => true
      | some ⟨_, _, .cls _, _⟩ => PySem.W.specialIn K (.ref (He.fAd K a)) "__call__" == some (some (.builtin "type.__call__"))
      | _ => false) = true
    rw [show K.lookup (He.fAd K a) = _ from l])⟩
end
end

/-- an own error's class, looked at -/
def xcB (K : PySem.W.Frag) (x : Str) (bm : List Value) (newId : String) (f : Str) : Bool := (match K.lookup (He.ga K x) with
    | some ⟨cl, _, .cls cd, sl⟩ => decide (cl = .type "type") && (decide (cd.mro = .ref (He.ga K x) :: bm) && (cd.hasDict && (!cd.hasDel && (match sl.toList with
      | [_, _, _, _, some n, _] => decide (n = .builtin newId)
      | _ => false))))
    | _ => false) && (He.eqO (PySem.W.findIn K (.ref (He.ga K x)) "__setattr__") (some (some (.builtin "object.__setattr__"))) && (PySem.W.keepIn K (.ref (He.ga K x)) && (He.eqO (PySem.W.findIn K (.ref (He.ga K x)) f) (some none) &&
    (He.eqO (PySem.W.findIn K (.ref (He.ga K x)) "__getattribute__") (some (some (.builtin "BaseException.__getattribute__"))) && (He.eqO (PySem.W.findIn K (.ref (He.ga K x)) "__getattr__") (some none) && He.eqO (PySem.W.findIn K (.ref (He.ga K x)) "__class__") (some (some (.builtin "object.__class__"))))))))

/-! ### the end -/
abbrev khR : PySem.W.OpenRow := PySem.W.OpenLaw.row PySem.Challenge.rw_allornothing_k10_errors_of_names
abbrev khQ : Program := PySem.W.view khR.prog [85]
def khN0 : List PySem.Str := ["_wall", "__name__", "ProgramError", "InvalidText", "InvalidSyntax", "InvalidTree", "DuplicateName", "UnknownName", "WrongArguments", "InvalidFinally", "TooLarge", "UnknownFunction", "parts_of", "size_of", "numbered", "numbered_parts", "all_numbered", "assigned_names", "is_integer", "LETTERS", "DIGITS", "SIGNS", "KEYWORDS", "LONGEST", "DEEPEST", "is_name", "kind_of", "end_of_run", "tokens_of", "expression_of"]
def khN1 : List PySem.Str := ["Reader", "parse", "LIMIT", "is_row_of_names", "is_pair", "is_expression", "is_arg", "is_call", "is_block", "is_handler", "is_simple", "is_statement", "is_param", "is_function", "is_tree", "own_names", "depth_of", "expressions_of", "has_great_number", "check_sizes", "check_unlike", "names_of_args", "named_in", "fits", "check_statement", "check_names", "Program", "_law_pool", "_law_mixed", "_law_draw"]
def khN2 : List PySem.Str := ["_law_names", "_law_expression", "_law_parts", "_law_size", "_law_numbered", "_law_own_names", "_law_callees", "_law_reached", "_law_pick", "_law_sum", "_law_call", "_law_piece", "_law_twice", "_law_words_of", "_law_of_calls", "_law_errors", "_law_due", "_law_told"]
def khN : List PySem.Str := khN0 ++ khN1 ++ khN2
def khX0 : List (PySem.W.Frag → Bool) := [fun K => xcB K "DuplicateName" (.ref (He.ga K "ProgramError") :: [.type "ValueError", .type "Exception", .type "BaseException", .type "object"]) "ValueError.__new__" "name",
    fun K => xcB K "UnknownName" (.ref (He.ga K "ProgramError") :: [.type "ValueError", .type "Exception", .type "BaseException", .type "object"]) "ValueError.__new__" "name",
    fun K => xcB K "WrongArguments" (.ref (He.ga K "ProgramError") :: [.type "ValueError", .type "Exception", .type "BaseException", .type "object"]) "ValueError.__new__" "place",
    fun K => xcB K "InvalidFinally" (.ref (He.ga K "ProgramError") :: [.type "ValueError", .type "Exception", .type "BaseException", .type "object"]) "ValueError.__new__" "place",
    fun K => He.tupB K "KEYWORDS" [.str "globals", .str "kinds", .str "keep", .str "def", .str "if", .str "else", .str "while", .str "risk", .str "raise", .str "try", .str "except", .str "finally", .str "undo", .str "with", .str "swallow", .str "return"],
    fun K => decide (PySem.W.exmOne K (.ref (He.ga K "DuplicateName")) (.ref (He.ga K "DuplicateName")) = some true),
    fun K => decide (PySem.W.exmOne K (.ref (He.ga K "UnknownName")) (.ref (He.ga K "DuplicateName")) = some false),
    fun K => decide (PySem.W.exmOne K (.ref (He.ga K "WrongArguments")) (.ref (He.ga K "DuplicateName")) = some false),
    fun K => decide (PySem.W.exmOne K (.ref (He.ga K "InvalidFinally")) (.ref (He.ga K "DuplicateName")) = some false),
    fun K => decide (PySem.W.exmOne K (.ref (He.ga K "UnknownName")) (.ref (He.ga K "UnknownName")) = some true),
    fun K => decide (PySem.W.exmOne K (.ref (He.ga K "WrongArguments")) (.ref (He.ga K "UnknownName")) = some false),
    fun K => decide (PySem.W.exmOne K (.ref (He.ga K "InvalidFinally")) (.ref (He.ga K "UnknownName")) = some false),
    fun K => decide (PySem.W.exmOne K (.ref (He.ga K "WrongArguments")) (.ref (He.ga K "WrongArguments")) = some true),
    fun K => decide (PySem.W.exmOne K (.ref (He.ga K "InvalidFinally")) (.ref (He.ga K "WrongArguments")) = some false),
    fun K => decide (PySem.W.exmOne K (.ref (He.ga K "InvalidFinally")) (.ref (He.ga K "InvalidFinally")) = some true)]
def khX : List (PySem.W.Frag → Bool) := khX0
def khF0 : List He.Fa := [.glo "_law_mixed",
    .glo "_law_draw",
    .glo "_law_pool",
    .glo "is_name",
    .glo "parts_of",
    .glo "size_of",
    .glo "numbered",
    .glo "numbered_parts",
    .glo "all_numbered",
    .glo "is_pair",
    .glo "is_row_of_names",
    .glo "is_integer",
    .glo "is_expression",
    .glo "is_arg",
    .glo "is_call",
    .glo "is_simple",
    .glo "is_block",
    .glo "is_handler",
    .glo "is_statement",
    .glo "is_param",
    .glo "is_function",
    .glo "is_tree",
    .glo "assigned_names",
    .glo "own_names",
    .glo "check_unlike"]
def khF1 : List He.Fa := [.glo "names_of_args",
    .glo "expressions_of",
    .glo "fits",
    .glo "named_in",
    .glo "has_great_number",
    .glo "depth_of",
    .glo "check_sizes",
    .glo "_law_names",
    .glo "check_unlike",
    .glo "fits",
    .glo "check_statement",
    .glo "check_statement",
    .glo "check_names",
    .glo "check_names",
    .glo "_law_pick",
    .glo "_law_sum",
    .glo "_law_call",
    .glo "_law_piece",
    .glo "_law_parts",
    .glo "_law_size",
    .glo "_law_numbered",
    .glo "_law_own_names",
    .glo "_law_twice",
    .glo "_law_words_of",
    .glo "_law_of_calls"]
def khF2 : List He.Fa := [.glo "_law_errors",
    .glo "_law_due",
    .glo "_law_told",
    .glo "law",
    .glo "ProgramError",
    .glo "Program",
    .cls "Program",
    .mkr "Program",
    .noat "Program" "content",
    .noat "Program" "globals",
    .meth "Program" "__init__",
    .glo "DuplicateName",
    .meth "DuplicateName" "__init__",
    .glo "UnknownName",
    .meth "UnknownName" "__init__",
    .glo "WrongArguments",
    .meth "WrongArguments" "__init__",
    .glo "InvalidFinally",
    .meth "InvalidFinally" "__init__",
    .free "int",
    .free "len",
    .free "isinstance",
    .free "str",
    .free "sum",
    .free "tuple"]
def khF3 : List He.Fa := [.free "bool",
    .free "all",
    .free "zip",
    .free "enumerate",
    .free "max",
    .free "any",
    .free "list",
    .free "abs",
    .free "range",
    .free "sorted",
    .str "LETTERS" LET,
    .str "DIGITS" DIG,
    .int "DEEPEST" 30,
    .int "LIMIT" 1000000000000,
    .glo "KEYWORDS"]
def khF : List He.Fa := khF0 ++ khF1 ++ khF2 ++ khF3
def khD0 : List He.FnD := [khDef ("_law_mixed", none) "_law_mixed" "_law_mixed" (topS 65),
    khDef ("_law_draw", none) "_law_draw" "_law_draw" (topS 66),
    khDef ("_law_pool", none) "_law_pool" "_law_pool" (topS 64),
    khDef ("is_name", none) "is_name" "is_name" (topS 29),
    khDef ("parts_of", none) "parts_of" "parts_of" (topS 13),
    khDef ("size_of", none) "size_of" "size_of" (topS 14),
    khDef ("numbered", none) "numbered" "numbered" (topS 15),
    khDef ("numbered_parts", none) "numbered_parts" "numbered_parts" (topS 16),
    khDef ("all_numbered", none) "all_numbered" "all_numbered" (topS 17),
    khDef ("is_pair", none) "is_pair" "is_pair" (topS 39),
    khDef ("is_row_of_names", none) "is_row_of_names" "is_row_of_names" (topS 38),
    khDef ("is_integer", none) "is_integer" "is_integer" (topS 21),
    khDef ("is_expression", none) "is_expression" "is_expression" (topS 40),
    khDef ("is_arg", none) "is_arg" "is_arg" (topS 41),
    khDef ("is_call", none) "is_call" "is_call" (topS 42),
    khDef ("is_simple", none) "is_simple" "is_simple" (topS 45),
    khDef ("is_block", none) "is_block" "is_block" (topS 43),
    khDef ("is_handler", none) "is_handler" "is_handler" (topS 44),
    khDef ("is_statement", none) "is_statement" "is_statement" (topS 46),
    khDef ("is_param", none) "is_param" "is_param" (topS 47),
    khDef ("is_function", none) "is_function" "is_function" (topS 48),
    khDef ("is_tree", none) "is_tree" "is_tree" (topS 49),
    khDef ("assigned_names", none) "assigned_names" "assigned_names" (topS 19),
    khDef ("own_names", none) "own_names" "own_names" (topS 50),
    khDef ("check_unlike", none) "check_unlike" "check_unlike" (topS 55)]
def khD1 : List He.FnD := [khDef ("names_of_args", none) "names_of_args" "names_of_args" (topS 56),
    khDef ("expressions_of", none) "expressions_of" "expressions_of" (topS 52),
    khDef ("fits", none) "fits" "fits" (topS 58),
    khDef ("named_in", none) "named_in" "named_in" (topS 57),
    khDef ("has_great_number", none) "has_great_number" "has_great_number" (topS 53),
    khDef ("depth_of", none) "depth_of" "depth_of" (topS 51),
    khDef ("check_sizes", none) "check_sizes" "check_sizes" (topS 54),
    khDef ("_law_names", none) "_law_names" "_law_names" (topS 67),
    khDef ("check_unlike", none) "check_unlike" "check_unlike" (topS 55),
    khDef ("fits", none) "fits" "fits" (topS 58),
    khDef ("check_statement", none) "check_statement" "check_statement" (topS 59),
    khDef ("check_statement", none) "check_statement" "check_statement" (topS 59),
    khDef ("check_names", none) "check_names" "check_names" (topS 60),
    khDef ("check_names", none) "check_names" "check_names" (topS 60),
    khDef ("_law_pick", none) "_law_pick" "_law_pick" (topS 75),
    khDef ("_law_sum", none) "_law_sum" "_law_sum" (topS 76),
    khDef ("_law_call", none) "_law_call" "_law_call" (topS 77),
    khDef ("_law_piece", none) "_law_piece" "_law_piece" (topS 78),
    khDef ("_law_parts", none) "_law_parts" "_law_parts" (topS 69),
    khDef ("_law_size", none) "_law_size" "_law_size" (topS 70),
    khDef ("_law_numbered", none) "_law_numbered" "_law_numbered" (topS 71),
    khDef ("_law_own_names", none) "_law_own_names" "_law_own_names" (topS 72),
    khDef ("_law_twice", none) "_law_twice" "_law_twice" (topS 79),
    khDef ("_law_words_of", none) "_law_words_of" "_law_words_of" (topS 80),
    khDef ("_law_of_calls", none) "_law_of_calls" "_law_of_calls" (topS 81)]
def khD2 : List He.FnD := [khDef ("_law_errors", none) "_law_errors" "_law_errors" (topS 82),
    khDef ("_law_due", none) "_law_due" "_law_due" (topS 83),
    khDef ("_law_told", none) "_law_told" "_law_told" (topS 84),
    khDef ("law", none) "law" "law" (topS 85),
    khDef ("Program", some "__init__") "__init__" "Program.__init__" (inClass (topS 62) 0),
    khDef ("DuplicateName", some "__init__") "__init__" "DuplicateName.__init__" (inClass (topS 6) 0),
    khDef ("UnknownName", some "__init__") "__init__" "UnknownName.__init__" (inClass (topS 7) 0),
    khDef ("WrongArguments", some "__init__") "__init__" "WrongArguments.__init__" (inClass (topS 8) 0),
    khDef ("InvalidFinally", some "__init__") "__init__" "InvalidFinally.__init__" (inClass (topS 9) 0)]
def khD : List He.FnD := khD0 ++ khD1 ++ khD2
def khW : List He.DefD := []
abbrev khH : PySem.W.Hook := hookA khX khF khD khW
def khO (s : PySem.W.SharedT) : AlA := obsAG khX khF khD khW (HandSHeadRun.getT s)
theorem khO_eq (s : PySem.W.SharedT) : khO s = khH.obs s.abs := obsAG_eq (HandSHeadRun.getT_eq s)
section
open PySem.W PySem.Calls PyProof.Rows HandSHeadRun
theorem khRun1 (w : World) (os : OsState) : (endF (stepQ (denQ tabQ) khR.prog w) 60000 khR.prog w os).map (fun s => looksF khR.prog (boot_heap w.params) s.abs) = some true := by kernel_rfl
theorem khRun2 (w : World) (os : OsState) : (endF (stepQ (denQ tabQ) khR.prog w) 60000 khR.prog w os).map (fun s => seenQ khQ khN (importedModules khR.prog.main.body) (fun s => xlAt khQ [] s && recOk khR.toRowW.records s) s.abs) = some (openGood khQ khN) := by kernel_rfl
theorem khRun3 (w : World) (os : OsState) : (endF (stepQ (denQ tabQ) khR.prog w) 60000 khR.prog w os).map khO = some (valA khD khW) := by kernel_rfl
theorem khRun (w : World) : RunEq khR khQ khH khO 60000 khN w := fun os => split3 (khRun1 w os) (khRun2 w os) (khRun3 w os)
end
/-! ### trees -/
theorem Paired.snoc {α β : Type} {F : α → β → Prop} : ∀ {l₁ : List α} {l₂ : List β} {a : α} {b : β}, Paired F l₁ l₂ → F a b → Paired F (l₁ ++ [a]) (l₂ ++ [b])
  | _, _, _, _, .nil, h => .cons h .nil
  | _, _, _, _, .cons r t, h => .cons r (Paired.snoc t h)
theorem Paired.app {α β : Type} {F : α → β → Prop} : ∀ {l₁ l₃ : List α} {l₂ l₄ : List β}, Paired F l₁ l₂ → Paired F l₃ l₄ → Paired F (l₁ ++ l₃) (l₂ ++ l₄)
  | _, _, _, _, .nil, h => h
  | _, _, _, _, .cons r t, h => .cons r (Paired.app t h)
theorem Paired.at {α β : Type} {F : α → β → Prop} {xs : List α} {ys : List β} (hp : Paired F xs ys) : ∀ {i : Nat} {x : α}, xs[i]? = some x → ∃ y, ys[i]? = some y ∧ F x y := by
  induction hp with
  | nil => intro i x z; simp at z
  | cons r _ ih =>
    intro i x z
    cases i with
    | zero => simp at z; subst z; exact ⟨_, rfl, r⟩
    | succ j => simp at z ⊢; exact ih z
structure Ex where
  c : Int
  ts : List (Str × Int)
inductive Arg where
  | place (n : Str) | value (e : Ex)
abbrev Cal := Str × List Arg
mutual
inductive St where
  | set (t : Str) (e : Ex) | input (t : Str) | call (t : Option Str) (f : Str) (as : List Arg)
  | risk (ks : List Str) | raise (k : Str) | ret (e : Ex)
  | ite (a b : List St) | whl (b : List St) | try_ (b : List St) (hs : List Hd) (f : List St)
  | undo (ns : List Str) (b : List St) | with_ (e l : Cal) (ks : List Str) (b : List St)
inductive Hd where
  | mk (ks : List Str) (b : List St)
end
def Hd.ks : Hd → List Str
  | .mk ks _ => ks
def Hd.b : Hd → List St
  | .mk _ b => b
def exD (e : Ex) : PyData := .tuple [.int e.c, .tuple (e.ts.map fun p => .tuple [.str p.1, .int p.2])]
def nmD (ns : List Str) : PyData := .tuple (ns.map .str)
def argD : Arg → PyData
  | .place n => .tuple [.str "place", .str n]
  | .value e => .tuple [.str "value", exD e]
def calD (c : Cal) : PyData := .tuple [.str c.1, .tuple (c.2.map argD)]
def optD : Option Str → PyData
  | none => .none
  | some t => .str t
mutual
def stD : St → PyData
  | .set t e => .tuple [.str "set", .str t, exD e]
  | .input t => .tuple [.str "input", .str t]
  | .call t f as => .tuple [.str "call", optD t, .str f, .tuple (as.map argD)]
  | .risk ks => .tuple [.str "risk", nmD ks]
  | .raise k => .tuple [.str "raise", .str k]
  | .ret e => .tuple [.str "return", exD e]
  | .ite a b => .tuple [.str "if", .tuple (stsD a), .tuple (stsD b)]
  | .whl b => .tuple [.str "while", .tuple (stsD b)]
  | .try_ b hs f => .tuple [.str "try", .tuple (stsD b), .tuple (hdsD hs), .tuple (stsD f)]
  | .undo ns b => .tuple [.str "undo", nmD ns, .tuple (stsD b)]
  | .with_ e l ks b => .tuple [.str "with", calD e, calD l, nmD ks, .tuple (stsD b)]
def stsD : List St → List PyData
  | [] => []
  | s :: r => stD s :: stsD r
def hdD : Hd → PyData
  | .mk ks b => .tuple [nmD ks, .tuple (stsD b)]
def hdsD : List Hd → List PyData
  | [] => []
  | h :: r => hdD h :: hdsD r
end
def blD (b : List St) : PyData := .tuple (stsD b)
theorem stsD_map : ∀ b : List St, stsD b = b.map stD
  | [] => rfl
  | s :: r => by show stD s :: stsD r = _; rw [stsD_map r]; rfl
theorem hdsD_map : ∀ b : List Hd, hdsD b = b.map hdD
  | [] => rfl
  | s :: r => by show hdD s :: hdsD r = _; rw [hdsD_map r]; rfl
def parts : St → List (List St)
  | .ite a b => [a, b]
  | .whl b => [b]
  | .try_ b hs f => b :: (hs.map Hd.b ++ [f])
  | .undo _ b => [b]
  | .with_ _ _ _ b => [b]
  | _ => []
mutual
/-- how many statements stand within a statement -/
def szS : St → Nat
  | .ite a b => szB a + szB b
  | .whl b => szB b
  | .try_ b hs f => szB b + (szHs hs + szB f)
  | .undo _ b => szB b
  | .with_ _ _ _ b => szB b
  | .set _ _ => 0 | .input _ => 0 | .call _ _ _ => 0 | .risk _ => 0 | .raise _ => 0 | .ret _ => 0
def szB : List St → Nat
  | [] => 0
  | s :: r => 1 + szS s + szB r
def szH : Hd → Nat
  | .mk _ b => szB b
def szHs : List Hd → Nat
  | [] => 0
  | h :: r => szH h + szHs r
end
mutual
/-- how deep blocks stand within a statement -/
def dpS : St → Nat
  | .ite a b => max (dpB a) (dpB b)
  | .whl b => dpB b
  | .try_ b hs f => max (dpB b) (max (dpHs hs) (dpB f))
  | .undo _ b => dpB b
  | .with_ _ _ _ b => dpB b
  | .set _ _ => 0 | .input _ => 0 | .call _ _ _ => 0 | .risk _ => 0 | .raise _ => 0 | .ret _ => 0
def dpIn : List St → Nat
  | [] => 0
  | s :: r => max (dpS s) (dpIn r)
def dpB : List St → Nat
  | [] => 1
  | s :: r => 1 + max (dpS s) (dpIn r)
def dpH : Hd → Nat
  | .mk _ b => dpB b
def dpHs : List Hd → Nat
  | [] => 0
  | h :: r => max (dpH h) (dpHs r)
end
theorem dpB_eq : ∀ b, dpB b = 1 + dpIn b
  | [] => rfl
  | _ :: _ => rfl
theorem dp_hs : ∀ {hs : List Hd} {p : List St}, p ∈ hs.map Hd.b → dpB p ≤ dpHs hs
  | .mk ks b :: r, p, h => by
    show dpB p ≤ max (dpB b) (dpHs r)
    rcases List.mem_cons.mp h with z | z
    · rw [z]; exact Nat.le_max_left _ _
    · exact Nat.le_trans (dp_hs z) (Nat.le_max_right _ _)
theorem dp_part {s : St} {p : List St} (h : p ∈ parts s) : dpB p ≤ dpS s := by
  cases s with
  | ite a b =>
    simp only [parts, List.mem_cons, List.not_mem_nil, or_false] at h
    show _ ≤ max _ _
    rcases h with rfl | rfl
    · exact Nat.le_max_left _ _
    · exact Nat.le_max_right _ _
  | whl b => simp only [parts, List.mem_cons, List.not_mem_nil, or_false] at h; subst h; exact Nat.le_refl _
  | undo _ b => simp only [parts, List.mem_cons, List.not_mem_nil, or_false] at h; subst h; exact Nat.le_refl _
  | with_ _ _ _ b => simp only [parts, List.mem_cons, List.not_mem_nil, or_false] at h; subst h; exact Nat.le_refl _
  | try_ b hs f =>
    show _ ≤ max _ (max _ _)
    rcases List.mem_cons.mp h with z | z
    · rw [z]; exact Nat.le_max_left _ _
    · rcases List.mem_append.mp z with z | z
      · exact Nat.le_trans (dp_hs z) (Nat.le_trans (Nat.le_max_left _ _) (Nat.le_max_right _ _))
      · rw [List.mem_singleton.mp z]; exact Nat.le_trans (Nat.le_max_right _ _) (Nat.le_max_right _ _)
  | _ => simp [parts] at h
theorem dp_mem : ∀ {b : List St} {s : St}, s ∈ b → dpS s ≤ dpIn b
  | x :: r, s, h => by
    show _ ≤ max _ _
    rcases List.mem_cons.mp h with z | z
    · rw [z]; exact Nat.le_max_left _ _
    · exact Nat.le_trans (dp_mem z) (Nat.le_max_right _ _)
theorem dp_lt {b : List St} {s : St} {p : List St} (hs : s ∈ b) (hp : p ∈ parts s) : dpB p < dpB b := by
  have h1 := dp_part hp
  have h2 := dp_mem hs
  have h3 := dpB_eq b
  omega
theorem sz_hs : ∀ hs : List Hd, ((hs.map Hd.b).map szB).sum = szHs hs
  | [] => rfl
  | .mk ks b :: r => by
    show szB b + ((r.map Hd.b).map szB).sum = szB b + szHs r
    rw [sz_hs r]
theorem sz_parts (s : St) : ((parts s).map szB).sum = szS s := by
  cases s with
  | try_ b hs f =>
    show szB b + (((hs.map Hd.b) ++ [f]).map szB).sum = szB b + (szHs hs + szB f)
    rw [List.map_append, List.sum_append, sz_hs]
    rfl
  | ite a b => show szB a + (szB b + 0) = _; rfl
  | _ => rfl
end Aon
namespace L2
open PySem
/-! reading data -/
theorem SqT.same {K : PySem.W.Frag} {H H' : Hp} {a : Addr} {xs : List V} (e : Same H H') (h : SqT K H a xs) : SqT K H' a xs :=
  h.elim (fun h => .inl (h.elim (fun h => .inl (e _ _ h)) fun ⟨o, h⟩ => .inr ⟨o, e _ _ h⟩)) fun h => .inr h
mutual
theorem Dp.same {K : PySem.W.Frag} {H H' : Hp} (e : Same H H') {v : V} {d : PyData} (h : Dp K H v d) : Dp K H' v d :=
  match h with
  | .non => .non
  | .bl b => .bl b
  | .int i => .int i
  | .str x => .str x
  | .lst a b => .lst (e.seq a) (DpAll.same e b)
  | .tup a b => .tup (SqT.same e a) (DpAll.same e b)
theorem DpAll.same {K : PySem.W.Frag} {H H' : Hp} (e : Same H H') {vs : List V} {ds : List PyData} (h : DpAll K H vs ds) : DpAll K H' vs ds :=
  match h with
  | .nil => .nil
  | .cons a b => .cons (Dp.same e a) (DpAll.same e b)
end
theorem Dp.tupInv {K : PySem.W.Frag} {H : Hp} {v : V} {ds : List PyData} (h : Dp K H v (.tuple ds)) : ∃ a xs, v = .ref a ∧ SqT K H a xs ∧ DpAll K H xs ds := by
  cases h with
  | tup a b => exact ⟨_, _, rfl, a, b⟩
theorem Dp.strInv {K : PySem.W.Frag} {H : Hp} {v : V} {z : Str} (h : Dp K H v (.str z)) : v = .str z := by cases h; rfl
theorem Dp.intInv {K : PySem.W.Frag} {H : Hp} {v : V} {z : Int} (h : Dp K H v (.int z)) : v = .int z := by cases h; rfl
theorem DpAll.consInv {K : PySem.W.Frag} {H : Hp} {vs : List V} {d : PyData} {ds : List PyData} (h : DpAll K H vs (d :: ds)) : ∃ v r, vs = v :: r ∧ Dp K H v d ∧ DpAll K H r ds := by
  cases h with
  | cons a b => exact ⟨_, _, rfl, a, b⟩
theorem DpAll.nilInv {K : PySem.W.Frag} {H : Hp} {vs : List V} (h : DpAll K H vs []) : vs = [] := by cases h; rfl
theorem DpAll.len {K : PySem.W.Frag} {H : Hp} : ∀ {vs : List V} {ds : List PyData}, DpAll K H vs ds → vs.length = ds.length
  | _, _, .nil => rfl
  | _, _, .cons _ b => by rw [List.length_cons, List.length_cons, DpAll.len b]
theorem DpAll.at {K : PySem.W.Frag} {H : Hp} : ∀ {vs : List V} {ds : List PyData}, DpAll K H vs ds → ∀ {i : Nat} {v : V}, vs[i]? = some v → ∃ d, ds[i]? = some d ∧ Dp K H v d
  | _, _, .cons a b, 0, v, h => by simp at h; subst h; exact ⟨_, rfl, a⟩
  | _, _, .cons a b, i + 1, v, h => by simp at h ⊢; exact DpAll.at b h
theorem DpAll.map {K : PySem.W.Frag} {H : Hp} {α : Type} {f : α → PyData} : ∀ {vs : List V} {l : List α}, DpAll K H vs (l.map f) → Paired (fun v x => Dp K H v (f x)) vs l
  | _, [], h => by cases h; exact .nil
  | _, x :: r, h => by
    obtain ⟨v, vr, rfl, h1, h2⟩ := DpAll.consInv h
    exact .cons h1 (DpAll.map h2)
theorem DpAll.ofPaired {K : PySem.W.Frag} {H : Hp} {α : Type} {f : α → PyData} : ∀ {vs : List V} {l : List α}, Paired (fun v x => Dp K H v (f x)) vs l → DpAll K H vs (l.map f)
  | _, _, .nil => .nil
  | _, _, .cons a b => .cons a (DpAll.ofPaired b)
theorem DpAll.one {K : PySem.W.Frag} {H : Hp} {vs : List V} {d : PyData} (h : DpAll K H vs [d]) : ∃ v, vs = [v] ∧ Dp K H v d := by
  obtain ⟨v, r, rfl, h1, h2⟩ := DpAll.consInv h
  exact ⟨v, by rw [DpAll.nilInv h2], h1⟩
theorem DpAll.two {K : PySem.W.Frag} {H : Hp} {vs : List V} {d e : PyData} (h : DpAll K H vs [d, e]) : ∃ v w, vs = [v, w] ∧ Dp K H v d ∧ Dp K H w e := by
  obtain ⟨v, r, rfl, h1, h2⟩ := DpAll.consInv h
  obtain ⟨w, rfl, h3⟩ := DpAll.one h2
  exact ⟨v, w, rfl, h1, h3⟩
theorem DpAll.three {K : PySem.W.Frag} {H : Hp} {vs : List V} {d e f : PyData} (h : DpAll K H vs [d, e, f]) : ∃ v w x, vs = [v, w, x] ∧ Dp K H v d ∧ Dp K H w e ∧ Dp K H x f := by
  obtain ⟨v, r, rfl, h1, h2⟩ := DpAll.consInv h
  obtain ⟨w, x, rfl, h3, h4⟩ := DpAll.two h2
  exact ⟨v, w, x, rfl, h1, h3, h4⟩
theorem DpAll.four {K : PySem.W.Frag} {H : Hp} {vs : List V} {d e f g : PyData} (h : DpAll K H vs [d, e, f, g]) : ∃ v w x y, vs = [v, w, x, y] ∧ Dp K H v d ∧ Dp K H w e ∧ Dp K H x f ∧ Dp K H y g := by
  obtain ⟨v, r, rfl, h1, h2⟩ := DpAll.consInv h
  obtain ⟨w, x, y, rfl, h3, h4, h5⟩ := DpAll.three h2
  exact ⟨v, w, x, y, rfl, h1, h3, h4, h5⟩
end L2
namespace Aon
open PySem L2
theorem ty_tup {K : PySem.W.Frag} {H : Hp} {a : Addr} {xs : List V} (h : SqT K H a xs) : TyX K H (.ref a) (.type "tuple") := by
  rcases h with (h | ⟨o, h⟩) | h
  · exact .base (.tup h)
  · exact .fTuple h
  · obtain ⟨o, _, _, h1, h2, _⟩ := h
    exact .kTuple h1 h2

/-! ### match over statements; parts_of, size_of, numbered, .. -/
section
variable {K : PySem.W.Frag} {D : Ends} {σ : L2.St} {H : Hp} {a : Addr} {xs : List V} {tb : TS} {tr : TCs} {n : Nat} {z : Str} {ts : TPats}
theorem case_len (h : SqT K H a xs) (hl : xs.length ≠ n) (k : tr (.ref a) D σ H) : tCsC (mSeq K n ts) tb tr (.ref a) D σ H :=
  ⟨a, xs, rfl, h, by rw [if_neg hl]; exact k⟩
theorem case_word {w : Str} (h : SqT K H a (.str w :: xs)) (hl : xs.length + 1 = n) (hw : w ≠ z) (k : tr (.ref a) D σ H) : tCsC (mSeq K n (mCons (mStr z) ts)) tb tr (.ref a) D σ H := by
  refine ⟨a, _, rfl, h, ?_⟩
  rw [if_pos (show (V.str w :: xs).length = n from hl)]
  refine ⟨_, _, rfl, rfl, ?_⟩
  rw [if_neg (fun e => hw (V.str.inj e))]
  exact k
theorem case_hit (h : SqT K H a (.str z :: xs)) (hl : xs.length + 1 = n) (k : ts xs H fun b H2 => match b with
    | none => tr (.ref a) D σ H2
    | some bs => tb D (setAll σ bs) H2) : tCsC (mSeq K n (mCons (mStr z) ts)) tb tr (.ref a) D σ H := by
  refine ⟨a, _, rfl, h, ?_⟩
  rw [if_pos (show (V.str z :: xs).length = n from hl)]
  refine ⟨_, _, rfl, rfl, ?_⟩
  rw [if_pos rfl]
  refine (?_ : ts xs H _)
  have e : (fun (b2 : Option BS) (H2 : Hp) => match b2 with
      | none => (match (none : Option BS) with
        | none => tr (.ref a) D σ H2
        | some bs => tb D (setAll σ bs) H2)
      | some more => (match some ([] ++ more) with
        | none => tr (.ref a) D σ H2
        | some bs => tb D (setAll σ bs) H2)) = fun b H2 => match b with
    | none => tr (.ref a) D σ H2
    | some bs => tb D (setAll σ bs) H2 := by
    funext b H2
    cases b <;> rfl
  have k2 := k
  rw [← e] at k2
  exact k2
end
abbrev sParts : Stmt := topS 13
abbrev NParts : List Str := ["statement", "first", "second", "block", "handlers", "final", "one", "names", "enter", "leave", "kinds"]
abbrev PParts : List Str := ["statement"]
theorem scParts : FnScope NParts PParts (defScope sParts) := ⟨rfl, rfl, rfl, by decide +kernel, rfl, by decide +kernel, by decide +kernel⟩
def wordS : St → Str
  | .set _ _ => "set" | .input _ => "input" | .call _ _ _ => "call" | .risk _ => "risk" | .raise _ => "raise" | .ret _ => "return"
  | .ite _ _ => "if" | .whl _ => "while" | .try_ _ _ _ => "try" | .undo _ _ => "undo" | .with_ _ _ _ _ => "with"
def restS : St → List PyData
  | .set t e => [.str t, exD e]
  | .input t => [.str t]
  | .call t f as => [optD t, .str f, .tuple (as.map argD)]
  | .risk ks => [nmD ks]
  | .raise k => [.str k]
  | .ret e => [exD e]
  | .ite a b => [blD a, blD b]
  | .whl b => [blD b]
  | .try_ b hs f => [blD b, .tuple (hdsD hs), blD f]
  | .undo ns b => [nmD ns, blD b]
  | .with_ e l ks b => [calD e, calD l, nmD ks, blD b]
theorem stD_eq (s : St) : stD s = .tuple (.str (wordS s) :: restS s) := by cases s <;> rfl
theorem stInv {K : PySem.W.Frag} {H : Hp} {v : V} {s : St} (h : Dp K H v (stD s)) : ∃ a xs, v = .ref a ∧ SqT K H a (.str (wordS s) :: xs) ∧ DpAll K H xs (restS s) := by
  rw [stD_eq] at h
  obtain ⟨a, xs, rfl, h1, h2⟩ := h.tupInv
  obtain ⟨x, r, rfl, h3, h4⟩ := DpAll.consInv h2
  rw [h3.strInv] at h1
  exact ⟨a, r, rfl, h1, h4⟩
/-- few handlers -/
def fewH : St → Prop
  | .try_ _ hs _ => hs.length ≤ 900
  | _ => True
def spParts (K : PySem.W.Frag) : Sp := fun vs H Q _ => ∃ (v : V) (s : St), vs = [v] ∧ Dp K H v (stD s) ∧ fewH s ∧ ∀ (a : Addr) (xs : List V) (H' : Hp), Same H H' → H' a = some (.tup xs) → Paired (fun x p => Dp K H' x (blD p)) xs (parts s) → Q (.ref a) H'
section
variable {P : Program} {w : World} {K : PySem.W.Frag} {mg : Str → Option Value} {base : Heap}
theorem ok_Parts {f : Addr} {fd : FuncData} (F : Fun K "parts_of" "parts_of" sParts f fd) : FnOk P w K mg base CX0 1 f fd PParts (spParts K) := by
  refine F.ok scParts (fun vs H Q E h => ?_) (fun cdv A outer s H vs Q E hr h => ?_)
  · obtain ⟨v, st, rfl, _⟩ := h
    rfl
  · obtain ⟨v, st, rfl, hv, few, k⟩ := h
    refine ⟨_, (pss_one (ps_match (pv 0) (pcs_cons scParts.nd (pm_seq rfl (pms_cons pm_str (pms_cons (pm_as (i := 1) rfl (Or.inl rfl)) (pms_cons (pm_as (i := 2) rfl (Or.inl rfl)) pms_nil))))
  (pss_one (ps_ret (pe_tup (pa_cons (pv 1) (pa_cons (pv 2) pa_nil)))))
  (pcs_cons scParts.nd (pm_seq rfl (pms_cons pm_str (pms_cons (pm_as (i := 3) rfl (Or.inl rfl)) pms_nil)))
  (pss_one (ps_ret (pe_tup (pa_cons (pv 3) pa_nil))))
  (pcs_cons scParts.nd (pm_seq rfl (pms_cons pm_str (pms_cons (pm_as (i := 3) rfl (Or.inl rfl)) (pms_cons (pm_as (i := 4) rfl (Or.inl rfl)) (pms_cons (pm_as (i := 5) rfl (Or.inl rfl)) pms_nil)))))
  (pss_one (ps_ret (pe_tup (pa_cons (pv 3) (StX.pa_star (pe_lc (own := [("one", 6)]) (g := gName 6) (tt := tYes) rfl scParts.nd (pi_tup (pv 4)) (blkOk_by (own := [("one", 6)]) (N := NParts) (sc := (defScope sParts)) (by decide +kernel)) (fun _ _ _ _ _ => (pg_name (i := 6) scParts.nd rfl (Or.inl rfl))) (fun _ _ _ _ _ => pts_nil) (fun _ _ _ _ _ => (pe_ix (r := rIxT K) ix_tup (pv 6) pe_int (fun _ _ => rfl)))) (pa_cons (pv 5) pa_nil))))))
  (pcs_cons scParts.nd (pm_seq rfl (pms_cons pm_str (pms_cons (pm_as (i := 7) rfl (Or.inl rfl)) (pms_cons (pm_as (i := 3) rfl (Or.inl rfl)) pms_nil))))
  (pss_one (ps_ret (pe_tup (pa_cons (pv 3) pa_nil))))
  (pcs_cons scParts.nd (pm_seq rfl (pms_cons pm_str (pms_cons (pm_as (i := 8) rfl (Or.inl rfl)) (pms_cons (pm_as (i := 9) rfl (Or.inl rfl)) (pms_cons (pm_as (i := 10) rfl (Or.inl rfl)) (pms_cons (pm_as (i := 3) rfl (Or.inl rfl)) pms_nil))))))
  (pss_one (ps_ret (pe_tup (pa_cons (pv 3) pa_nil))))
  (pcs_cons scParts.nd pm_wild
  (pss_one (ps_ret (pe_tup pa_nil)))
  pcs_nil)))))))), ?_⟩
    obtain ⟨a, xs, rfl, hq, hd⟩ := stInv hv
    refine ⟨_, rfl, ?_⟩
    cases st <;> simp only [wordS] at hq
    case ite p q =>
      obtain ⟨x, y, rfl, h1, h2⟩ := DpAll.two hd
      refine case_hit hq rfl ⟨_, _, rfl, _, _, rfl, ?_⟩
      refine ⟨_, rfl, _, rfl, (by show 2 ≤ sizeLine; decide), fun t ht => ?_⟩
      have s1 := same_new (o := .tup [x, y]) ht
      exact k t _ _ s1 upd_same (.cons (h1.same s1) (.cons (h2.same s1) .nil))
    case whl p =>
      obtain ⟨x, rfl, h1⟩ := DpAll.one hd
      refine case_len hq (Nat.ne_of_beq_eq_false rfl) ?_
      refine case_hit hq rfl ⟨_, _, rfl, ?_⟩
      refine ⟨_, rfl, (by show 1 ≤ sizeLine; decide), fun t ht => ?_⟩
      have s1 := same_new (o := .tup [x]) ht
      exact k t _ _ s1 upd_same (.cons (h1.same s1) .nil)
    case undo ns p =>
      obtain ⟨y, x, rfl, _, h1⟩ := DpAll.two hd
      refine case_word hq rfl (by decide +kernel) ?_
      refine case_len hq (Nat.ne_of_beq_eq_false rfl) ?_
      refine case_len hq (Nat.ne_of_beq_eq_false rfl) ?_
      refine case_hit hq rfl ⟨_, _, rfl, _, _, rfl, ?_⟩
      refine ⟨_, rfl, (by show 1 ≤ sizeLine; decide), fun t ht => ?_⟩
      have s1 := same_new (o := .tup [x]) ht
      exact k t _ _ s1 upd_same (.cons (h1.same s1) .nil)
    case with_ e l ks p =>
      obtain ⟨_, _, _, x, rfl, _, _, _, h1⟩ := DpAll.four hd
      repeat (first | refine case_len hq (Nat.ne_of_beq_eq_false rfl) ?_ | refine case_word hq rfl (by decide +kernel) ?_)
      refine case_hit hq rfl ⟨_, _, rfl, _, _, rfl, _, _, rfl, _, _, rfl, ?_⟩
      refine ⟨_, rfl, (by show 1 ≤ sizeLine; decide), fun t ht => ?_⟩
      have s1 := same_new (o := .tup [x]) ht
      exact k t _ _ s1 upd_same (.cons (h1.same s1) .nil)
    case try_ p hs q =>
      obtain ⟨x, y, z, rfl, h1, h2, h3⟩ := DpAll.three hd
      repeat (first | refine case_len hq (Nat.ne_of_beq_eq_false rfl) ?_ | refine case_word hq rfl (by decide +kernel) ?_)
      refine case_hit hq rfl ⟨_, _, rfl, _, _, rfl, _, _, rfl, ?_⟩
      obtain ⟨b, ys, rfl, hb, hdb⟩ := h2.tupInv
      rw [hdsD_map] at hdb
      have ph := hdb.map
      have lh : ys.length = hs.length := Paired.length ph
      have few : hs.length ≤ 900 := few
      refine ⟨_, rfl, _, rfl, b, rfl, ⟨_, hb⟩, fun D hD => ?_⟩
      refine lc_tup (K := K) (a := b) (xs := ys) (fun i H' => Same H H' ∧ ∃ acc, H' D = some (.lst acc) ∧ acc.length = i ∧ Paired (fun x p => Dp K H x (blD p)) acc ((hs.map Hd.b).take i)) ⟨same_new hD, [], upd_same, rfl, .nil⟩ (fun i H' _ h' => SqT.same h'.1 hb) ?_ ?_
      · rintro i v H1 hv ⟨s1, acc, eD, la, pa⟩
        obtain ⟨hd, hh, hdp⟩ := Paired.at ph hv
        have hi : i < ys.length := (List.getElem?_eq_some_iff.mp hv).1
        cases hd with
        | mk ks hb' =>
          have hdp : Dp K H v (.tuple [nmD ks, blD hb']) := hdp
          obtain ⟨c, zs, rfl, hc, hcd⟩ := hdp.tupInv
          obtain ⟨u, w, rfl, _, hw⟩ := hcd.two
          refine ⟨rfl, _, rfl, c, _, _, _, rfl, rfl, SqT.same s1 hc, rfl, acc, eD, small1000 (by omega), fun c o z => ?_, acc ++ [w], upd_same, by rw [List.length_append, la]; rfl, ?_⟩
          · rw [upd_ne (ne_of_none z hD)]
            exact s1 _ _ z
          · have hm : (hs.map Hd.b)[i]? = some hb' := by rw [List.getElem?_map, hh]; rfl
            rw [take_snoc hm]
            exact Paired.snoc pa hw
      · rintro H1 ⟨s1, acc, eD, la, pa⟩
        rw [lh, ← List.length_map (f := Hd.b), List.take_length] at pa
        refine ⟨D, _, rfl, .inr (SqL.of eD), _, rfl, (by show (x :: (acc ++ [z])).length ≤ sizeLine; exact Nat.le_of_lt (small1000 (by rw [List.length_cons, List.length_append, la]; show ys.length + 1 + 1 ≤ 1000; omega))), fun t ht => ?_⟩
        have s2 := s1.trans (same_new (o := .tup (x :: (acc ++ [z]))) ht)
        exact k t _ _ s2 upd_same (.cons (h1.same s2) (Paired.snoc (Paired.mapP pa fun _ _ z => z.same s2) (h3.same s2)))
    all_goals
      first
        | obtain ⟨_, rfl, _⟩ := DpAll.one hd
        | obtain ⟨_, _, rfl, _, _⟩ := DpAll.two hd
        | obtain ⟨_, _, _, rfl, _⟩ := DpAll.three hd
      repeat (first | refine case_len hq (Nat.ne_of_beq_eq_false rfl) ?_ | refine case_word hq rfl (by decide +kernel) ?_)
      refine ⟨(by show 0 ≤ sizeLine; decide), fun t ht => ?_⟩
      exact k t _ _ (same_new ht) upd_same .nil
end

/-! ### size_of, numbered, numbered_parts, all_numbered -/
def okN1 (n : Str) : Prop := isName n = true ∧ n.length ≤ 100
def okNs (ns : List Str) : Prop := ns.length ≤ 900 ∧ ∀ n ∈ ns, okN1 n
def okEx (e : Ex) : Prop := e.ts.length ≤ 900 ∧ (∀ p ∈ e.ts, okN1 p.1 ∧ p.2 ≠ 0) ∧ ∀ (i : Nat) (a b : Str × Int), e.ts[i]? = some a → e.ts[i + 1]? = some b → a.1.cps.toList < b.1.cps.toList
def okArg : Arg → Prop
  | .place n => okN1 n
  | .value e => okEx e
def okAs (as : List Arg) : Prop := as.length ≤ 900 ∧ ∀ a ∈ as, okArg a
def okCal (c : Cal) : Prop := okN1 c.1 ∧ okAs c.2
mutual
def okS : St → Prop
  | .set t e => okN1 t ∧ okEx e
  | .input t => okN1 t
  | .call t f as => (∀ x, t = some x → okN1 x) ∧ okN1 f ∧ okAs as
  | .risk ks => ks ≠ [] ∧ okNs ks
  | .raise k => okN1 k
  | .ret e => okEx e
  | .ite a b => (a.length ≤ 900 ∧ okL a) ∧ (b.length ≤ 900 ∧ okL b)
  | .whl b => b.length ≤ 900 ∧ okL b
  | .try_ b hs f => (b.length ≤ 900 ∧ okL b) ∧ (hs.length ≤ 900 ∧ okHs hs) ∧ (f.length ≤ 900 ∧ okL f)
  | .undo ns b => (ns ≠ [] ∧ okNs ns) ∧ (b.length ≤ 900 ∧ okL b)
  | .with_ e l ks b => (okCal e ∧ okCal l ∧ okNs ks) ∧ (b.length ≤ 900 ∧ okL b)
def okL : List St → Prop
  | [] => True
  | s :: r => okS s ∧ okL r
def okH : Hd → Prop
  | .mk ks b => (ks ≠ [] ∧ okNs ks) ∧ (b.length ≤ 900 ∧ okL b)
def okHs : List Hd → Prop
  | [] => True
  | h :: r => okH h ∧ okHs r
end
def okB (b : List St) : Prop := b.length ≤ 900 ∧ okL b
theorem okL_mem : ∀ {b : List St}, okL b → ∀ {s : St}, s ∈ b → okS s
  | x :: r, h, s, hs => by
    have h : okS x ∧ okL r := h
    rcases List.mem_cons.mp hs with z | z
    · rw [z]; exact h.1
    · exact okL_mem h.2 z
theorem okHs_mem : ∀ {hs : List Hd}, okHs hs → ∀ {x : Hd}, x ∈ hs → okH x
  | y :: r, h, x, hx => by
    have h : okH y ∧ okHs r := h
    rcases List.mem_cons.mp hx with z | z
    · rw [z]; exact h.1
    · exact okHs_mem h.2 z
theorem okS_few {s : St} (h : okS s) : fewH s := by
  cases s with
  | try_ b hs f =>
    have h : (b.length ≤ 900 ∧ okL b) ∧ (hs.length ≤ 900 ∧ okHs hs) ∧ (f.length ≤ 900 ∧ okL f) := h
    exact h.2.1.1
  | _ => trivial
theorem okS_parts {s : St} (h : okS s) {p : List St} (hp : p ∈ parts s) : okB p := by
  cases s with
  | ite a b =>
    have h : (a.length ≤ 900 ∧ okL a) ∧ (b.length ≤ 900 ∧ okL b) := h
    simp only [parts, List.mem_cons, List.not_mem_nil, or_false] at hp
    rcases hp with rfl | rfl
    · exact h.1
    · exact h.2
  | whl b =>
    have h : b.length ≤ 900 ∧ okL b := h
    simp only [parts, List.mem_cons, List.not_mem_nil, or_false] at hp; subst hp; exact h
  | undo ns b =>
    have h : (ns ≠ [] ∧ okNs ns) ∧ (b.length ≤ 900 ∧ okL b) := h
    simp only [parts, List.mem_cons, List.not_mem_nil, or_false] at hp; subst hp; exact h.2
  | with_ e l ks b =>
    have h : (okCal e ∧ okCal l ∧ okNs ks) ∧ (b.length ≤ 900 ∧ okL b) := h
    simp only [parts, List.mem_cons, List.not_mem_nil, or_false] at hp; subst hp; exact h.2
  | try_ b hs f =>
    have h : (b.length ≤ 900 ∧ okL b) ∧ (hs.length ≤ 900 ∧ okHs hs) ∧ (f.length ≤ 900 ∧ okL f) := h
    rcases List.mem_cons.mp hp with z | z
    · rw [z]; exact h.1
    · rcases List.mem_append.mp z with z | z
      · obtain ⟨x, hx, rfl⟩ := List.mem_map.mp z
        have k := okHs_mem h.2.1.2 hx
        cases x with
        | mk ks c =>
          have k : (ks ≠ [] ∧ okNs ks) ∧ (c.length ≤ 900 ∧ okL c) := k
          exact k.2
      · rw [List.mem_singleton.mp z]; exact h.2.2
  | _ => simp [parts] at hp
theorem parts_len {s : St} (h : okS s) : (parts s).length ≤ 902 := by
  cases s with
  | try_ b hs f =>
    have h := okS_few h
    have h : hs.length ≤ 900 := h
    show (b :: (hs.map Hd.b ++ [f])).length ≤ _
    rw [List.length_cons, List.length_append, List.length_map]
    show hs.length + 1 + 1 ≤ 902
    omega
  | ite a b => show 2 ≤ 902; omega
  | whl b => show 1 ≤ 902; omega
  | undo _ b => show 1 ≤ 902; omega
  | with_ _ _ _ b => show 1 ≤ 902; omega
  | _ => exact Nat.zero_le _
theorem szB_take : ∀ {b : List St} {i : Nat} {s : St}, b[i]? = some s → szB (b.take (i + 1)) = szB (b.take i) + (1 + szS s)
  | x :: r, 0, s, h => by simp at h; subst h; show 1 + szS x + 0 = 0 + _; omega
  | x :: r, i + 1, s, h => by
    have ih := szB_take (b := r) (i := i) (s := s) (by simpa using h)
    show 1 + szS x + szB (r.take (i + 1)) = 1 + szS x + szB (r.take i) + _
    omega
abbrev sSize : Stmt := topS 14
abbrev NSize : List Str := ["block", "total", "statement", "part"]
abbrev PSize : List Str := ["block"]
theorem scSize : FnScope NSize PSize (defScope sSize) := ⟨rfl, rfl, rfl, by decide +kernel, rfl, by decide +kernel, by decide +kernel⟩
theorem bb_sum : bootBuiltins "sum" = some (.builtin "sum") := by decide +kernel
structure TxTree (mg : Str → Option Value) : Prop where
  n_sum : mg "sum" = none
  n_isinstance : mg "isinstance" = none
  n_len : mg "len" = none
def spSize (K : PySem.W.Frag) (n : Nat) : Sp := fun vs H Q _ => ∃ (v : V) (b : List St), vs = [v] ∧ Dp K H v (blD b) ∧ dpB b ≤ n ∧ okB b ∧ ∀ H', Same H H' → Q (.int (szB b : Int)) H'
theorem no_dp {b : List St} (h : dpB b ≤ 0) : False := by
  have := dpB_eq b
  omega
section
variable {P : Program} {w : World} {K : PySem.W.Frag} {mg : Str → Option Value} {base : Heap}
theorem ok_Size {f : Addr} {fd : FuncData} (F : Fun K "size_of" "size_of" sSize f fd) (T : TxTree mg) (GP : Has P w K mg base CX0 1 "parts_of" PParts (spParts K)) (m : mg "size_of" = some (.ref f)) (kp : PySem.W.keepIn K (.ref f) = true) (bd : Binds K fd PSize []) : ∀ n, FnOk P w K mg base CX0 (2 + n) f fd PSize (spSize K n) := by
  intro n
  induction n with
  | zero => exact ⟨fun vs H Q E h => by obtain ⟨_, _, _, _, h, _⟩ := h; exact (no_dp h).elim, fun _ _ _ _ _ _ _ _ _ _ _ _ _ h => by obtain ⟨_, _, _, _, h, _⟩ := h; exact (no_dp h).elim⟩
  | succ n ih =>
    have GS : Has P w K mg base CX0 (2 + n) "size_of" PSize (spSize K n) := ⟨f, fd, ih, m, kp, bd⟩
    refine F.ok scSize (fun vs H Q E h => ?_) (fun cdv A outer s H vs Q E hr h => ?_)
    · obtain ⟨v, b, rfl, _⟩ := h
      rfl
    · obtain ⟨v, b, rfl, hv, hn, ok, k⟩ := h
      have hr1 := hr.mono (j := 1) (show 1 ≤ 2 + n by omega)
      refine ⟨_, (pss_cons (ps_set (i := 1) scSize.nd rfl (Or.inl rfl) pe_int)
  (pss_cons (ps_for PassesOwn.never rfl (pi_tup (pv 0)) (pg_name (i := 2) scSize.nd rfl (Or.inl rfl))
  (pss_one (ps_aug (i := 1) scSize.nd rfl (Or.inl rfl) (pe_op op_add pe_int (pe_callB (cr_sum rfl) (by rfl) T.n_sum bb_sum (pa_cons (pe_lc (own := [("part", 3)]) (g := gName 3) (tt := tYes) rfl scSize.nd (pi_tup (pe_callH GP hr1 rfl pass0 (pa_cons (pv 2) pa_nil))) (blkOk_by (own := [("part", 3)]) (N := NSize) (sc := (defScope sSize)) (by decide +kernel)) (fun _ _ _ _ _ => (pg_name (i := 3) scSize.nd rfl (Or.inl rfl))) (fun _ _ _ _ _ => pts_nil) (fun _ _ _ _ _ => (pe_callH GS hr rfl pass0 (pa_cons (pv 3) pa_nil)))) pa_nil))) ip_add)))
  (pss_one (ps_ret (pv 1))))), ?_⟩
      obtain ⟨a, xs, rfl, hq, hd⟩ := hv.tupInv
      rw [stsD_map] at hd
      have pb := hd.map
      refine ⟨_, rfl, a, rfl, ⟨_, hq⟩, ?_⟩
      refine for_tup (K := K) (a := a) (xs := xs) (fun i σ H' => ∃ x2 : Option V, σ = [some (.ref a), some (.int (szB (b.take i) : Int)), x2, none] ∧ Same H H') ⟨_, rfl, Same.refl _⟩ (fun i σ H' _ h' => by obtain ⟨_, _, s'⟩ := h'; exact SqT.same s' hq) ?_ ?_
      · rintro i x σ H1 hx ⟨x2, rfl, s1⟩
        obtain ⟨st, hst, hsd⟩ := Paired.at pb hx
        have ms := List.mem_of_getElem? hst
        have oks := okL_mem ok.2 ms
        refine ⟨_, rfl, _, rfl, x, st, rfl, hsd.same s1, okS_few oks, fun t ts H2 s2 e2 p2 => ?_⟩
        have lt : ts.length ≤ 902 := by rw [Paired.length p2]; exact parts_len oks
        refine ⟨t, rfl, ⟨_, SqT.of e2⟩, fun D hD => ?_⟩
        refine lc_tup (K := K) (a := t) (xs := ts) (fun i H' => Same H2 H' ∧ H' D = some (.lst ((((parts st).take i).map fun p => ((szB p : Nat) : Int)).map V.int))) ⟨same_new hD, upd_same⟩ (fun i H' _ h' => SqT.of (h'.1 _ _ e2)) ?_ ?_
        · rintro j y H3 hy ⟨s3, eD⟩
          obtain ⟨p, hp, hpd⟩ := Paired.at p2 hy
          have hj : j < ts.length := (List.getElem?_eq_some_iff.mp hy).1
          have mp := List.mem_of_getElem? hp
          have hdp := dp_lt ms mp
          refine ⟨rfl, _, rfl, y, p, rfl, hpd.same s3, by omega, okS_parts oks mp, fun H4 s4 => ?_⟩
          refine ⟨_, s4 _ _ eD, small1000 (by rw [List.length_map, List.length_map, List.length_take]; omega), fun c o z => ?_, ?_⟩
          · rw [upd_ne (ne_of_none z hD)]
            exact s4 _ _ (s3 _ _ z)
          · rw [upd_same, take_snoc hp, List.map_append, List.map_append]
            rfl
        · rintro H3 ⟨s3, eD⟩
          rw [Paired.length p2, List.take_length] at eD
          refine ⟨D, _, rfl, SqL.of eD, ?_⟩
          have esum : ((parts st).map fun p => ((szB p : Nat) : Int)).sum = ((szS st : Nat) : Int) := by
            rw [← sz_parts st]
            induction parts st with
            | nil => rfl
            | cons p r ih =>
              rw [List.map_cons, List.sum_cons, ih, List.map_cons, List.sum_cons]
              omega
          rw [esum]
          have e : ((szB (b.take i) : Nat) : Int) + (1 + ((szS st : Nat) : Int)) = ((szB (b.take (i + 1)) : Nat) : Int) := by rw [szB_take hst]; omega
          exact ⟨_, _, rfl, rfl, _, _, rfl, rfl, _, by rw [← e]; rfl, (s1.trans s2).trans s3⟩
      · rintro σ H1 ⟨x2, rfl, s1⟩
        rw [Paired.length pb, List.take_length]
        exact ⟨_, rfl, k _ s1⟩
end
/-! numbered, numbered_parts, all_numbered -/
def numb : List St → Nat → List (Nat × St)
  | [], _ => []
  | s :: r, n => (n, s) :: numb r (n + 1 + szS s)
def nparts : List (List St) → Nat → List (Nat × List St)
  | [], _ => []
  | p :: r, n => (n, p) :: nparts r (n + szB p)
mutual
def allS : St → Nat → List (Nat × St)
  | .ite a b, n => allB a n ++ allB b (n + szB a)
  | .whl b, n => allB b n
  | .try_ b hs f, n => allB b n ++ (allHs hs (n + szB b) ++ allB f (n + szB b + szHs hs))
  | .undo _ b, n => allB b n
  | .with_ _ _ _ b, n => allB b n
  | .set _ _, _ => [] | .input _, _ => [] | .call _ _ _, _ => [] | .risk _, _ => [] | .raise _, _ => [] | .ret _, _ => []
def allB : List St → Nat → List (Nat × St)
  | [], _ => []
  | s :: r, n => (n, s) :: (allS s (n + 1) ++ allB r (n + 1 + szS s))
def allH : Hd → Nat → List (Nat × St)
  | .mk _ b, n => allB b n
def allHs : List Hd → Nat → List (Nat × St)
  | [], _ => []
  | h :: r, n => allH h n ++ allHs r (n + szH h)
end
theorem numb_take : ∀ {b : List St} {n i : Nat} {s : St}, b[i]? = some s → numb (b.take (i + 1)) n = numb (b.take i) n ++ [(n + szB (b.take i), s)]
  | x :: r, n, 0, s, h => by simp at h; subst h; rfl
  | x :: r, n, i + 1, s, h => by
    have ih := numb_take (b := r) (n := n + 1 + szS x) (i := i) (s := s) (by simpa using h)
    show (n, x) :: numb (r.take (i + 1)) _ = (n, x) :: (numb (r.take i) _ ++ [(n + (1 + szS x + szB (r.take i)), s)])
    rw [ih]
    congr 4
    omega
theorem nparts_take : ∀ {b : List (List St)} {n i : Nat} {s : List St}, b[i]? = some s → nparts (b.take (i + 1)) n = nparts (b.take i) n ++ [(n + ((b.take i).map szB).sum, s)]
  | x :: r, n, 0, s, h => by simp at h; subst h; rfl
  | x :: r, n, i + 1, s, h => by
    have ih := nparts_take (b := r) (n := n + szB x) (i := i) (s := s) (by simpa using h)
    show (n, x) :: nparts (r.take (i + 1)) _ = (n, x) :: (nparts (r.take i) _ ++ [(n + (szB x + ((r.take i).map szB).sum), s)])
    rw [ih]
    congr 4
    omega
theorem nparts_app : ∀ (a b : List (List St)) (n : Nat), nparts (a ++ b) n = nparts a n ++ nparts b (n + (a.map szB).sum)
  | [], b, n => rfl
  | x :: r, b, n => by
    show (n, x) :: nparts (r ++ b) _ = (n, x) :: (nparts r _ ++ nparts b (n + (szB x + (r.map szB).sum)))
    rw [nparts_app r b, Nat.add_assoc]
/-- the statements within parts that have numbers -/
def allP (ps : List (Nat × List St)) : List (Nat × St) := ps.flatMap fun p => allB p.2 p.1
theorem allP_hs : ∀ (hs : List Hd) (n : Nat), allP (nparts (hs.map Hd.b) n) = allHs hs n
  | [], _ => rfl
  | .mk ks b :: r, n => by
    show allB b n ++ allP (nparts (r.map Hd.b) (n + szB b)) = allB b n ++ allHs r (n + szB b)
    rw [allP_hs r]
theorem allP_parts (s : St) (n : Nat) : allP (nparts (parts s) n) = allS s n := by
  cases s with
  | ite a b => show allB a n ++ (allB b (n + szB a) ++ []) = _; rw [List.append_nil]; rfl
  | whl b => show allB b n ++ [] = _; rw [List.append_nil]; rfl
  | undo ns b => show allB b n ++ [] = _; rw [List.append_nil]; rfl
  | with_ e l ks b => show allB b n ++ [] = _; rw [List.append_nil]; rfl
  | try_ b hs f =>
    show allB b n ++ allP (nparts (hs.map Hd.b ++ [f]) (n + szB b)) = allB b n ++ (allHs hs (n + szB b) ++ allB f (n + szB b + szHs hs))
    rw [nparts_app, sz_hs]
    unfold allP
    rw [List.flatMap_append]
    have := allP_hs hs (n + szB b)
    unfold allP at this
    rw [this]
    show allB b n ++ (allHs hs (n + szB b) ++ (allB f _ ++ [])) = _
    rw [List.append_nil]
  | _ => rfl
theorem allB_eq : ∀ (b : List St) (n : Nat), allB b n = (numb b n).flatMap fun p => p :: allS p.2 (p.1 + 1)
  | [], _ => rfl
  | s :: r, n => by
    show (n, s) :: (allS s (n + 1) ++ allB r (n + 1 + szS s)) = ((n, s) :: allS s (n + 1)) ++ (numb r (n + 1 + szS s)).flatMap _
    rw [allB_eq r]
    rfl

/-! ### tuples that stay -/
def Tps (H H' : Hp) : Prop := (∀ a xs, H a = some (.tup xs) → H' a = some (.tup xs)) ∧ ∀ a o xs, H a = some (.frz o (.tup xs)) → H' a = some (.frz o (.tup xs))
theorem Tps.of {H H' : Hp} (s : Same H H') : Tps H H' := ⟨fun a xs e => s _ _ e, fun a o xs e => s _ _ e⟩
theorem Tps.refl {H : Hp} : Tps H H := ⟨fun _ _ e => e, fun _ _ _ e => e⟩
theorem Tps.trans {H H1 H2 : Hp} (a : Tps H H1) (b : Tps H1 H2) : Tps H H2 := ⟨fun x xs e => b.1 _ _ (a.1 _ _ e), fun x o xs e => b.2 _ _ _ (a.2 _ _ _ e)⟩
theorem Tps.lst {H : Hp} {q : Addr} {zs : List V} {o : HO} (h : H q = some (.lst zs)) : Tps H (upd H q o) :=
  ⟨fun a xs e => by rw [upd_ne (ne_of e h (by intro z; cases z))]; exact e, fun a o xs e => by rw [upd_ne (ne_of e h (by intro z; cases z))]; exact e⟩
theorem Tps.dk {H : Hp} {q : Addr} {zs : List (Key × V)} {o : HO} (h : H q = some (.dK zs)) : Tps H (upd H q o) :=
  ⟨fun a xs e => by rw [upd_ne (ne_of e h (by intro z; cases z))]; exact e, fun a o xs e => by rw [upd_ne (ne_of e h (by intro z; cases z))]; exact e⟩
theorem Tps.ins {H : Hp} {q c dx : Addr} {fs : List (Str × V)} {o : HO} (h : H q = some (.ins c dx fs)) : Tps H (upd H q o) :=
  ⟨fun a xs e => by rw [upd_ne (ne_of e h (by intro z; cases z))]; exact e, fun a o xs e => by rw [upd_ne (ne_of e h (by intro z; cases z))]; exact e⟩
theorem Tps.sqt {K : PySem.W.Frag} {H H' : Hp} (t : Tps H H') {a : Addr} {xs : List V} (h : SqT K H a xs) : SqT K H' a xs :=
  h.elim (fun h => .inl (h.elim (fun h => .inl (t.1 _ _ h)) fun ⟨o, h⟩ => .inr ⟨o, t.2 _ _ _ h⟩)) fun h => .inr h
mutual
/-- no list, no dict within -/
def noL : PyData → Bool
  | .tuple ds => noLs ds
  | .none => true | .bool _ => true | .int _ => true | .str _ => true
  | _ => false
def noLs : List PyData → Bool
  | [] => true
  | d :: r => noL d && noLs r
end
end Aon
namespace L2
open PySem Aon
mutual
theorem Dp.tps {K : PySem.W.Frag} {H H' : Hp} (t : Tps H H') {v : V} {d : PyData} (h : Dp K H v d) (n : noL d = true) : Dp K H' v d :=
  match h with
  | .non => .non
  | .bl b => .bl b
  | .int i => .int i
  | .str x => .str x
  | .lst _ _ => by simp [noL] at n
  | .tup a b => .tup (t.sqt a) (DpAll.tps t b (by simpa [noL] using n))
theorem DpAll.tps {K : PySem.W.Frag} {H H' : Hp} (t : Tps H H') {vs : List V} {ds : List PyData} (h : DpAll K H vs ds) (n : noLs ds = true) : DpAll K H' vs ds :=
  match h with
  | .nil => .nil
  | .cons a b => by
    simp only [noLs, Bool.and_eq_true] at n
    exact .cons (Dp.tps t a n.1) (DpAll.tps t b n.2)
end
end L2
namespace Aon
open PySem L2
theorem noLs_all : ∀ {ds : List PyData}, (∀ d ∈ ds, noL d = true) → noLs ds = true
  | [], _ => rfl
  | d :: r, h => by
    simp only [noLs, Bool.and_eq_true]
    exact ⟨h d List.mem_cons_self, noLs_all fun x hx => h x (List.mem_cons_of_mem _ hx)⟩
theorem noLs_map {α : Type} {f : α → PyData} (h : ∀ x, noL (f x) = true) (l : List α) : noLs (l.map f) = true := noLs_all fun d hd => by
  obtain ⟨x, _, rfl⟩ := List.mem_map.mp hd
  exact h x
theorem noL_ex (e : Ex) : noL (exD e) = true := by
  simp only [exD, noL, noLs, Bool.true_and, Bool.and_true]
  exact noLs_map (fun _ => rfl) _
theorem noL_nm (ns : List Str) : noL (nmD ns) = true := noLs_map (fun _ => rfl) ns
theorem noL_arg : ∀ a, noL (argD a) = true
  | .place n => rfl
  | .value e => by simp only [argD, noL, noLs, noL_ex]; rfl
theorem noL_cal (c : Cal) : noL (calD c) = true := by
  simp only [calD, noL, noLs, Bool.true_and, Bool.and_true]
  exact noLs_map noL_arg _
mutual
theorem noL_st : ∀ s : St, noL (stD s) = true
  | .set t e => by simp only [stD, noL, noLs, noL_ex, Bool.and_true]
  | .input t => rfl
  | .call t f as => by
    have h : noL (optD t) = true := by cases t <;> rfl
    simp only [stD, noL, noLs, h, noLs_map noL_arg, Bool.and_true]
  | .risk ks => by simp only [stD, noL, noLs, noL_nm, Bool.and_true]
  | .raise k => rfl
  | .ret e => by simp only [stD, noL, noLs, noL_ex, Bool.and_true]
  | .ite a b => by simp only [stD, noL, noLs, noL_sts a, noL_sts b, Bool.and_true]
  | .whl b => by simp only [stD, noL, noLs, noL_sts b, Bool.and_true]
  | .try_ b hs f => by simp only [stD, noL, noLs, noL_sts b, noL_hds hs, noL_sts f, Bool.and_true]
  | .undo ns b => by simp only [stD, noL, noLs, noL_nm, noL_sts b, Bool.and_true]
  | .with_ e l ks b => by simp only [stD, noL, noLs, noL_cal, noL_nm, noL_sts b, Bool.and_true]
theorem noL_sts : ∀ b : List St, noLs (stsD b) = true
  | [] => rfl
  | s :: r => by simp only [stsD, noLs, noL_st s, noL_sts r, Bool.and_true]
theorem noL_hd : ∀ h : Hd, noL (hdD h) = true
  | .mk ks b => by simp only [hdD, noL, noLs, noL_nm, noL_sts b, Bool.and_true]
theorem noL_hds : ∀ hs : List Hd, noLs (hdsD hs) = true
  | [] => rfl
  | h :: r => by simp only [hdsD, noLs, noL_hd h, noL_hds r, Bool.and_true]
end
theorem noL_bl (b : List St) : noL (blD b) = true := by simp only [blD, noL]; exact noL_sts b
/-! numbered, numbered_parts, all_numbered -/
abbrev sNumb : Stmt := topS 15
abbrev NNumb : List Str := ["block", "first", "found", "number", "statement", "part"]
abbrev PNumb : List Str := ["block", "first"]
theorem scNumb : FnScope NNumb PNumb (defScope sNumb) := ⟨rfl, rfl, rfl, by decide +kernel, rfl, by decide +kernel, by decide +kernel⟩
abbrev sNPar : Stmt := topS 16
abbrev NNPar : List Str := ["statement", "number", "found", "first", "part"]
abbrev PNPar : List Str := ["statement", "number"]
theorem scNPar : FnScope NNPar PNPar (defScope sNPar) := ⟨rfl, rfl, rfl, by decide +kernel, rfl, by decide +kernel, by decide +kernel⟩
abbrev sAllN : Stmt := topS 17
abbrev NAllN : List Str := ["block", "first", "found", "number", "statement", "inner", "part"]
abbrev PAllN : List Str := ["block", "first"]
theorem scAllN : FnScope NAllN PAllN (defScope sAllN) := ⟨rfl, rfl, rfl, by decide +kernel, rfl, by decide +kernel, by decide +kernel⟩
def NumAt (K : PySem.W.Frag) (H : Hp) (x : V) (p : Nat × St) : Prop := ∃ a w, x = .ref a ∧ SqT K H a [.int (p.1 : Int), w] ∧ Dp K H w (stD p.2)
def NParAt (K : PySem.W.Frag) (H : Hp) (x : V) (p : Nat × List St) : Prop := ∃ a w, x = .ref a ∧ SqT K H a [.int (p.1 : Int), w] ∧ Dp K H w (blD p.2)
theorem NumAt.tps {K : PySem.W.Frag} {H H' : Hp} (t : Tps H H') {x : V} {p : Nat × St} (h : NumAt K H x p) : NumAt K H' x p := let ⟨a, w, e, q, d⟩ := h; ⟨a, w, e, t.sqt q, d.tps t (noL_st _)⟩
theorem NParAt.tps {K : PySem.W.Frag} {H H' : Hp} (t : Tps H H') {x : V} {p : Nat × List St} (h : NParAt K H x p) : NParAt K H' x p := let ⟨a, w, e, q, d⟩ := h; ⟨a, w, e, t.sqt q, d.tps t (noL_bl _)⟩
def spNumb (K : PySem.W.Frag) (n : Nat) : Sp := fun vs H Q _ => ∃ (v : V) (b : List St) (i : Nat), vs = [v, .int (i : Int)] ∧ Dp K H v (blD b) ∧ dpB b ≤ n + 1 ∧ okB b ∧ ∀ (q : Addr) (xs : List V) (H' : Hp), Same H H' → H q = none → H' q = some (.lst xs) → Paired (NumAt K H') xs (numb b i) → Q (.ref q) H'
def spNPar (K : PySem.W.Frag) (n : Nat) : Sp := fun vs H Q _ => ∃ (v : V) (st : St) (i : Nat), vs = [v, .int (i : Int)] ∧ Dp K H v (stD st) ∧ dpS st ≤ n ∧ okS st ∧ ∀ (q : Addr) (xs : List V) (H' : Hp), Same H H' → H q = none → H' q = some (.lst xs) → Paired (NParAt K H') xs (nparts (parts st) (i + 1)) → Q (.ref q) H'
theorem numb_len : ∀ (b : List St) (i : Nat), (numb b i).length = b.length
  | [], _ => rfl
  | s :: r, i => by show (numb r _).length + 1 = r.length + 1; rw [numb_len r]
section
variable {P : Program} {w : World} {K : PySem.W.Frag} {mg : Str → Option Value} {base : Heap}
theorem ok_NPar {n : Nat} {f : Addr} {fd : FuncData} (F : Fun K "numbered_parts" "numbered_parts" sNPar f fd) (GP : Has P w K mg base CX0 1 "parts_of" PParts (spParts K)) (GS : Has P w K mg base CX0 (2 + n) "size_of" PSize (spSize K n)) : FnOk P w K mg base CX0 (3 + n) f fd PNPar (spNPar K n) := by
  have FF := F
  rw [show 3 + n = (2 + n) + 1 by omega]
  refine F.ok scNPar (fun vs H Q E h => ?_) (fun cdv A outer s H vs Q E hr h => ?_)
  · obtain ⟨v, st, i, rfl, _⟩ := h
    rfl
  · obtain ⟨v, st, i, rfl, hv, hn, oks, k⟩ := h
    have hr1 := hr.mono (j := 1) (show 1 ≤ 2 + n by omega)
    refine ⟨_, (pss_cons (ps_set (i := 2) scNPar.nd rfl (Or.inl rfl) (pe_lst pa_nil))
  (pss_cons (ps_set (i := 3) scNPar.nd rfl (Or.inl rfl) (pe_op op_add (pv 1) pe_int))
  (pss_cons (ps_for PassesOwn.never rfl (pi_tup (pe_callH GP hr1 rfl pass0 (pa_cons (pv 0) pa_nil))) (pg_name (i := 4) scNPar.nd rfl (Or.inl rfl))
  (pss_cons (ps_expr (pe_bm PySem.F.plainAttrs_list PySem.F.slot_list_append PySem.F.type_list_append mt_append (pv 2) (pa_cons (pe_tup (pa_cons (pv 3) (pa_cons (pv 4) pa_nil))) pa_nil)))
  (pss_one (ps_aug (i := 3) scNPar.nd rfl (Or.inl rfl) (pe_callH GS hr rfl pass0 (pa_cons (pv 4) pa_nil)) ip_add))))
  (pss_one (ps_ret (pv 2)))))), ?_⟩
    refine ⟨(by show 0 ≤ sizeLine; decide), fun q hq => ?_⟩
    have s1 := same_new (o := .lst []) hq
    refine ⟨_, rfl, _, _, rfl, rfl, _, rfl, v, st, rfl, hv.same s1, okS_few oks, fun t ts H2 s2 e2 p2 => ?_⟩
    have t2 := s1.trans s2
    have lt : ts.length ≤ 902 := by rw [Paired.length p2]; exact parts_len oks
    refine ⟨t, rfl, ⟨_, SqT.of e2⟩, ?_⟩
    refine for_tup (K := K) (a := t) (xs := ts) (fun j σ H' => ∃ x4 : Option V, σ = [some v, some (.int (i : Int)), some (.ref q), some (.int ((i + 1 + (((parts st).take j).map szB).sum : Nat) : Int)), x4] ∧ Same H H' ∧ Tps H2 H' ∧ ∃ ys, H' q = some (.lst ys) ∧ ys.length = j ∧ Paired (NParAt K H') ys (nparts ((parts st).take j) (i + 1))) ⟨_, rfl, t2, Tps.refl, [], s2 _ _ upd_same, rfl, .nil⟩ (fun j σ H' _ h' => by obtain ⟨_, _, _, t', _⟩ := h'; exact t'.sqt (SqT.of e2)) ?_ ?_
    · rintro j x σ H3 hx ⟨x4, rfl, s3, t3, ys, eq, ly, py⟩
      obtain ⟨p, hp, hpd⟩ := Paired.at p2 hx
      have hj : j < ts.length := (List.getElem?_eq_some_iff.mp hx).1
      have mp := List.mem_of_getElem? hp
      have hdp := dp_part mp
      have hpd3 := hpd.tps t3 (noL_bl p)
      refine ⟨_, rfl, .inl ⟨rfl, _, SqL.of eq⟩, _, rfl, _, rfl, (by show 2 ≤ sizeLine; decide), fun u hu => ?_⟩
      have s4 := same_new (o := .tup [.int ((i + 1 + (((parts st).take j).map szB).sum : Nat) : Int), x]) hu
      have qu := ne_of_none eq hu
      have eq4 := s4 _ _ eq
      refine ⟨q, _, _, rfl, rfl, eq4, small1000 (by omega), ?_⟩
      have t5 : Tps H3 (upd (upd H3 u (.tup [.int ((i + 1 + (((parts st).take j).map szB).sum : Nat) : Int), x])) q (.lst (ys ++ [.ref u]))) := (Tps.of s4).trans (Tps.lst eq4)
      have s5 : Same H (upd (upd H3 u (.tup [.int ((i + 1 + (((parts st).take j).map szB).sum : Nat) : Int), x])) q (.lst (ys ++ [.ref u]))) := fun c o z => by
        rw [upd_ne (ne_of_none z hq)]
        exact s4 _ _ (s3 _ _ z)
      refine ⟨_, rfl, _, rfl, x, p, rfl, hpd3.tps t5 (noL_bl p), by omega, okS_parts oks mp, fun H6 s6 => ?_⟩
      have t6 := t5.trans (Tps.of s6)
      refine ⟨_, _, rfl, rfl, some x, ?_, s5.trans s6, t3.trans t6, _, s6 _ _ upd_same, by rw [List.length_append, ly]; rfl, ?_⟩
      · rw [take_snoc hp, List.map_append, List.sum_append]
        have e : ((i + 1 + (((parts st).take j).map szB).sum : Nat) : Int) + ((szB p : Nat) : Int) = ((i + 1 + ((((parts st).take j).map szB).sum + ([p].map szB).sum) : Nat) : Int) := by
          show _ = ((i + 1 + ((((parts st).take j).map szB).sum + (szB p + 0)) : Nat) : Int)
          omega
        rw [← e]
        rfl
      · rw [nparts_take hp]
        refine Paired.snoc (Paired.mapP py fun _ _ z => z.tps t6) ⟨u, x, rfl, ((Tps.lst (q := q) (o := .lst (ys ++ [.ref u])) eq4).trans (Tps.of s6)).sqt (SqT.of upd_same), hpd3.tps t6 (noL_bl p)⟩
    · rintro σ H3 ⟨x4, rfl, s3, t3, ys, eq, ly, py⟩
      rw [Paired.length p2, List.take_length] at py
      exact ⟨_, rfl, k q ys H3 s3 hq eq py⟩
theorem ok_Numb {n : Nat} {f : Addr} {fd : FuncData} (F : Fun K "numbered" "numbered" sNumb f fd) (T : TxTree mg) (GP : Has P w K mg base CX0 1 "parts_of" PParts (spParts K)) (GS : Has P w K mg base CX0 (2 + n) "size_of" PSize (spSize K n)) : FnOk P w K mg base CX0 (3 + n) f fd PNumb (spNumb K n) := by
  rw [show 3 + n = (2 + n) + 1 by omega]
  refine F.ok scNumb (fun vs H Q E h => ?_) (fun cdv A outer s H vs Q E hr h => ?_)
  · obtain ⟨v, b, i, rfl, _⟩ := h
    rfl
  · obtain ⟨v, b, i, rfl, hv, hn, ok, k⟩ := h
    have hr1 := hr.mono (j := 1) (show 1 ≤ 2 + n by omega)
    refine ⟨_, (pss_cons (ps_set (i := 2) scNumb.nd rfl (Or.inl rfl) (pe_lst pa_nil))
  (pss_cons (ps_set (i := 3) scNumb.nd rfl (Or.inl rfl) (pv 1))
  (pss_cons (ps_for PassesOwn.never rfl (pi_tup (pv 0)) (pg_name (i := 4) scNumb.nd rfl (Or.inl rfl))
  (pss_cons (ps_expr (pe_bm PySem.F.plainAttrs_list PySem.F.slot_list_append PySem.F.type_list_append mt_append (pv 2) (pa_cons (pe_tup (pa_cons (pv 3) (pa_cons (pv 4) pa_nil))) pa_nil)))
  (pss_one (ps_aug (i := 3) scNumb.nd rfl (Or.inl rfl) (pe_op op_add pe_int (pe_callB (cr_sum rfl) (by rfl) T.n_sum bb_sum (pa_cons (pe_lc (own := [("part", 5)]) (g := gName 5) (tt := tYes) rfl scNumb.nd (pi_tup (pe_callH GP hr1 rfl pass0 (pa_cons (pv 4) pa_nil))) (blkOk_by (own := [("part", 5)]) (N := NNumb) (sc := (defScope sNumb)) (by decide +kernel)) (fun _ _ _ _ _ => (pg_name (i := 5) scNumb.nd rfl (Or.inl rfl))) (fun _ _ _ _ _ => pts_nil) (fun _ _ _ _ _ => (pe_callH GS hr rfl pass0 (pa_cons (pv 5) pa_nil)))) pa_nil))) ip_add))))
  (pss_one (ps_ret (pv 2)))))), ?_⟩
    obtain ⟨a, xs, rfl, hq0, hd⟩ := hv.tupInv
    rw [stsD_map] at hd
    have pb := hd.map
    have lx : xs.length = b.length := Paired.length pb
    have ok1 : b.length ≤ 900 := ok.1
    refine ⟨(by show 0 ≤ sizeLine; decide), fun q hq => ?_⟩
    have s1 := same_new (o := .lst []) hq
    refine ⟨_, rfl, _, rfl, a, rfl, ⟨_, SqT.same s1 hq0⟩, ?_⟩
    refine for_tup (K := K) (a := a) (xs := xs) (fun j σ H' => ∃ x4 : Option V, σ = [some (.ref a), some (.int (i : Int)), some (.ref q), some (.int ((i + szB (b.take j) : Nat) : Int)), x4, none] ∧ Same H H' ∧ Tps H H' ∧ ∃ ys, H' q = some (.lst ys) ∧ ys.length = j ∧ Paired (NumAt K H') ys (numb (b.take j) i)) ⟨_, rfl, s1, Tps.of s1, [], upd_same, rfl, .nil⟩ (fun j σ H' _ h' => by obtain ⟨_, _, _, t', _⟩ := h'; exact t'.sqt hq0) ?_ ?_
    · rintro j x σ H3 hx ⟨x4, rfl, s3, t3, ys, eq, ly, py⟩
      obtain ⟨st, hst, hsd⟩ := Paired.at pb hx
      have hj : j < xs.length := (List.getElem?_eq_some_iff.mp hx).1
      have ms := List.mem_of_getElem? hst
      have oks := okL_mem ok.2 ms
      have hsd3 := hsd.tps t3 (noL_st st)
      refine ⟨_, rfl, .inl ⟨rfl, _, SqL.of eq⟩, _, rfl, _, rfl, (by show 2 ≤ sizeLine; decide), fun u hu => ?_⟩
      have s4 := same_new (o := .tup [.int ((i + szB (b.take j) : Nat) : Int), x]) hu
      have qu := ne_of_none eq hu
      have eq4 := s4 _ _ eq
      refine ⟨q, _, _, rfl, rfl, eq4, small1000 (by omega), ?_⟩
      obtain ⟨H5, eH5⟩ : ∃ H5, H5 = upd (upd H3 u (.tup [.int ((i + szB (b.take j) : Nat) : Int), x])) q (.lst (ys ++ [.ref u])) := ⟨_, rfl⟩
      rw [← eH5]
      have tq : Tps (upd H3 u (.tup [.int ((i + szB (b.take j) : Nat) : Int), x])) H5 := by rw [eH5]; exact Tps.lst eq4
      have t5 : Tps H3 H5 := (Tps.of s4).trans tq
      have s5 : Same H H5 := fun c o z => by
        rw [eH5, upd_ne (ne_of_none z hq)]
        exact s4 _ _ (s3 _ _ z)
      have eq5 : H5 q = some (.lst (ys ++ [.ref u])) := by rw [eH5, upd_same]
      refine ⟨_, rfl, _, rfl, x, st, rfl, hsd3.tps t5 (noL_st st), okS_few oks, fun t ts H6 s6 e6 p6 => ?_⟩
      have lt : ts.length ≤ 902 := by rw [Paired.length p6]; exact parts_len oks
      refine ⟨t, rfl, ⟨_, SqT.of e6⟩, fun D hD => ?_⟩
      refine lc_tup (K := K) (a := t) (xs := ts) (fun i H' => Same H6 H' ∧ H' D = some (.lst ((((parts st).take i).map fun p => ((szB p : Nat) : Int)).map V.int))) ⟨same_new hD, upd_same⟩ (fun i H' _ h' => SqT.of (h'.1 _ _ e6)) ?_ ?_
      · rintro m y H7 hy ⟨s7, eD⟩
        obtain ⟨p, hp, hpd⟩ := Paired.at p6 hy
        have hm : m < ts.length := (List.getElem?_eq_some_iff.mp hy).1
        have mp := List.mem_of_getElem? hp
        have hdp := dp_lt ms mp
        refine ⟨rfl, _, rfl, y, p, rfl, hpd.same s7, by omega, okS_parts oks mp, fun H8 s8 => ?_⟩
        refine ⟨_, s8 _ _ eD, small1000 (by rw [List.length_map, List.length_map, List.length_take]; omega), fun c o z => ?_, ?_⟩
        · rw [upd_ne (ne_of_none z hD)]
          exact s8 _ _ (s7 _ _ z)
        · rw [upd_same, take_snoc hp, List.map_append, List.map_append]
          rfl
      · rintro H7 ⟨s7, eD⟩
        rw [Paired.length p6, List.take_length] at eD
        refine ⟨D, _, rfl, SqL.of eD, ?_⟩
        have esum : ((parts st).map fun p => ((szB p : Nat) : Int)).sum = ((szS st : Nat) : Int) := by
          rw [← sz_parts st]
          induction parts st with
          | nil => rfl
          | cons p r ih =>
            rw [List.map_cons, List.sum_cons, ih, List.map_cons, List.sum_cons]
            omega
        rw [esum]
        have e : ((i + szB (b.take j) : Nat) : Int) + (1 + ((szS st : Nat) : Int)) = ((i + szB (b.take (j + 1)) : Nat) : Int) := by rw [szB_take hst]; omega
        have s57 := s6.trans s7
        refine ⟨_, _, rfl, rfl, _, _, rfl, rfl, some x, by rw [← e]; rfl, s5.trans s57, t3.trans (t5.trans (Tps.of s57)), _, s57 _ _ eq5, by rw [List.length_append, ly]; rfl, ?_⟩
        rw [numb_take hst]
        exact Paired.snoc (Paired.mapP py fun _ _ z => z.tps (t5.trans (Tps.of s57))) ⟨u, x, rfl, (tq.trans (Tps.of s57)).sqt (SqT.of upd_same), hsd3.tps (t5.trans (Tps.of s57)) (noL_st st)⟩
    · rintro σ H3 ⟨x4, rfl, s3, t3, ys, eq, ly, py⟩
      rw [lx, List.take_length] at py
      exact ⟨_, rfl, k q ys H3 s3 hq eq py⟩
end

/-! all_numbered -/
mutual
theorem allS_len : ∀ (s : St) (n : Nat), (allS s n).length = szS s
  | .ite a b, n => by simp only [allS, szS, List.length_append, allB_len a, allB_len b]
  | .whl b, n => by simp only [allS, szS, allB_len b]
  | .try_ b hs f, n => by simp only [allS, szS, List.length_append, allB_len b, allHs_len hs, allB_len f]
  | .undo _ b, n => by simp only [allS, szS, allB_len b]
  | .with_ _ _ _ b, n => by simp only [allS, szS, allB_len b]
  | .set _ _, _ => rfl | .input _, _ => rfl | .call _ _ _, _ => rfl | .risk _, _ => rfl | .raise _, _ => rfl | .ret _, _ => rfl
theorem allB_len : ∀ (b : List St) (n : Nat), (allB b n).length = szB b
  | [], _ => rfl
  | s :: r, n => by simp only [allB, szB, List.length_cons, List.length_append, allS_len s, allB_len r]; omega
theorem allH_len : ∀ (h : Hd) (n : Nat), (allH h n).length = szH h
  | .mk _ b, n => by simp only [allH, szH, allB_len b]
theorem allHs_len : ∀ (hs : List Hd) (n : Nat), (allHs hs n).length = szHs hs
  | [], _ => rfl
  | h :: r, n => by simp only [allHs, szHs, List.length_append, allH_len h, allHs_len r]
end
theorem flat_len {α β : Type} {f : α → List β} {l : List α} (j : Nat) : ((l.take j).flatMap f).length ≤ (l.flatMap f).length := by
  have h : l.flatMap f = (l.take j).flatMap f ++ (l.drop j).flatMap f := by rw [← List.flatMap_append, List.take_append_drop]
  rw [h, List.length_append]
  omega
theorem flat_snoc {α β : Type} {f : α → List β} {l : List α} {j : Nat} {x : α} (h : l[j]? = some x) : (l.take (j + 1)).flatMap f = (l.take j).flatMap f ++ f x := by
  rw [take_snoc h, List.flatMap_append]
  simp
def allF (p : Nat × St) : List (Nat × St) := p :: allS p.2 (p.1 + 1)
theorem allB_flat (b : List St) (n : Nat) : allB b n = (numb b n).flatMap allF := allB_eq b n
def spAllN (K : PySem.W.Frag) (n : Nat) : Sp := fun vs H Q _ => ∃ (v : V) (b : List St) (i : Nat), vs = [v, .int (i : Int)] ∧ Dp K H v (blD b) ∧ dpB b ≤ n ∧ okB b ∧ szB b ≤ 900 ∧ ∀ (q : Addr) (xs : List V) (H' : Hp), Same H H' → H q = none → H' q = some (.lst xs) → Paired (NumAt K H') xs (allB b i) → Q (.ref q) H'
theorem nparts_at : ∀ {ps : List (List St)} {n j : Nat} {p : Nat × List St}, (nparts ps n)[j]? = some p → p.2 ∈ ps
  | x :: r, n, 0, p, h => by simp [nparts] at h; subst h; exact List.mem_cons_self
  | x :: r, n, j + 1, p, h => List.mem_cons_of_mem _ (nparts_at (n := n + szB x) (j := j) (by simpa [nparts] using h))
theorem numb_at : ∀ {b : List St} {n j : Nat} {p : Nat × St}, (numb b n)[j]? = some p → p.2 ∈ b
  | x :: r, n, 0, p, h => by simp [numb] at h; subst h; exact List.mem_cons_self
  | x :: r, n, j + 1, p, h => List.mem_cons_of_mem _ (numb_at (n := n + 1 + szS x) (j := j) (by simpa [numb] using h))
theorem nparts_len : ∀ (ps : List (List St)) (n : Nat), (nparts ps n).length = ps.length
  | [], _ => rfl
  | p :: r, n => by show (nparts r _).length + 1 = r.length + 1; rw [nparts_len r]
theorem szS_mem : ∀ {b : List St} {s : St}, s ∈ b → szS s ≤ szB b
  | x :: r, s, h => by
    show _ ≤ 1 + szS x + szB r
    rcases List.mem_cons.mp h with z | z
    · rw [z]; omega
    · have := szS_mem z; omega
theorem szB_part {s : St} {p : List St} (h : p ∈ parts s) : szB p ≤ szS s := by
  rw [← sz_parts s]
  generalize parts s = l at h
  induction l with
  | nil => cases h
  | cons x r ih =>
    rw [List.map_cons, List.sum_cons]
    rcases List.mem_cons.mp h with z | z
    · rw [z]; omega
    · have := ih z; omega
section
variable {P : Program} {w : World} {K : PySem.W.Frag} {mg : Str → Option Value} {base : Heap}
theorem ok_AllN {f : Addr} {fd : FuncData} (F : Fun K "all_numbered" "all_numbered" sAllN f fd) (GN : ∀ n, Has P w K mg base CX0 (3 + n) "numbered" PNumb (spNumb K n)) (GP : ∀ n, Has P w K mg base CX0 (3 + n) "numbered_parts" PNPar (spNPar K n)) (m : mg "all_numbered" = some (.ref f)) (kp : PySem.W.keepIn K (.ref f) = true) (bd : Binds K fd PAllN []) : ∀ n, FnOk P w K mg base CX0 (4 + n) f fd PAllN (spAllN K n) := by
  intro n
  induction n with
  | zero => exact ⟨fun vs H Q E h => by obtain ⟨_, _, _, _, _, h, _⟩ := h; exact (no_dp h).elim, fun _ _ _ _ _ _ _ _ _ _ _ _ _ h => by obtain ⟨_, _, _, _, _, h, _⟩ := h; exact (no_dp h).elim⟩
  | succ n ih =>
    have GS : Has P w K mg base CX0 (4 + n) "all_numbered" PAllN (spAllN K n) := ⟨f, fd, ih, m, kp, bd⟩
    have GN := GN n
    have GP := GP n
    refine F.ok scAllN (fun vs H Q E h => ?_) (fun cdv A outer s H vs Q E hr h => ?_)
    · obtain ⟨v, b, i, rfl, _⟩ := h
      rfl
    · obtain ⟨v, b, i, rfl, hv, hn, ok, sz, k⟩ := h
      have hr3 := hr.mono (j := 3 + n) (show 3 + n ≤ 4 + n by omega)
      refine ⟨_, (pss_cons (ps_set (i := 2) scAllN.nd rfl (Or.inl rfl) (pe_lst pa_nil))
  (pss_cons (ps_for PassesOwn.never rfl (pi_list (pe_callH GN hr3 rfl pass0 (pa_cons (pv 0) (pa_cons (pv 1) pa_nil)))) (pg_tup (by rfl) (pgs_cons (pg_name (i := 3) scAllN.nd rfl (Or.inl rfl)) (pgs_cons (pg_name (i := 4) scAllN.nd rfl (Or.inl rfl)) pgs_nil)))
  (pss_cons (ps_expr (pe_bm PySem.F.plainAttrs_list PySem.F.slot_list_append PySem.F.type_list_append mt_append (pv 2) (pa_cons (pe_tup (pa_cons (pv 3) (pa_cons (pv 4) pa_nil))) pa_nil)))
  (pss_one (ps_for PassesOwn.never rfl (pi_list (pe_callH GP hr3 rfl pass0 (pa_cons (pv 4) (pa_cons (pv 3) pa_nil)))) (pg_tup (by rfl) (pgs_cons (pg_name (i := 5) scAllN.nd rfl (Or.inl rfl)) (pgs_cons (pg_name (i := 6) scAllN.nd rfl (Or.inl rfl)) pgs_nil)))
  (pss_one (ps_expr (pe_bm PySem.F.plainAttrs_list PySem.F.slot_list_extend PySem.F.type_list_extend mt_extend (pv 2) (pa_cons (pe_callH GS hr rfl pass0 (pa_cons (pv 6) (pa_cons (pv 5) pa_nil))) pa_nil))))))))
  (pss_one (ps_ret (pv 2))))), ?_⟩
      refine ⟨(by show 0 ≤ sizeLine; decide), fun q hq => ?_⟩
      have s1 := same_new (o := .lst []) hq
      refine ⟨_, rfl, _, rfl, v, b, i, rfl, hv.same s1, by omega, ok, fun L xs H2 s2 fL eL pL => ?_⟩
      have t2 := s1.trans s2
      have tot : ((numb b i).flatMap allF).length ≤ 900 := by rw [← allB_flat, allB_len]; exact sz
      have qL : q ≠ L := ne_of_none upd_same fL
      refine ⟨L, rfl, ⟨_, SqL.of eL⟩, ?_⟩
      refine for_list (K := K) (a := L) (xs := xs) (fun j σ H' => ∃ x3 x4 x5 x6 : Option V, σ = [some v, some (.int (i : Int)), some (.ref q), x3, x4, x5, x6] ∧ Same H H' ∧ Tps H2 H' ∧ H' L = some (.lst xs) ∧ ∃ ys, H' q = some (.lst ys) ∧ Paired (NumAt K H') ys (((numb b i).take j).flatMap allF)) ⟨_, _, _, _, rfl, t2, Tps.refl, eL, [], s2 _ _ upd_same, .nil⟩ (fun j σ H' _ h' => by obtain ⟨_, _, _, _, _, _, _, z, _⟩ := h'; exact SqL.of z) ?_ ?_
      · rintro j x σ H3 hx ⟨x3, x4, x5, x6, rfl, s3, t3, eL3, ys, eq, py⟩
        obtain ⟨⟨num, st⟩, hp, hpd⟩ := Paired.at pL hx
        obtain ⟨a, u, rfl, hqa, hd⟩ := hpd.tps t3
        have ms : st ∈ b := numb_at hp
        have oks := okL_mem ok.2 ms
        have dps := dp_mem ms
        have dbe := dpB_eq b
        have ly : ys.length ≤ 900 := by rw [Paired.length py]; exact Nat.le_trans (flat_len j) tot
        have lall := flat_len (f := allF) (l := numb b i) (j + 1)
        rw [flat_snoc hp, List.length_append] at lall
        have lF : (allF (num, st)).length = szS st + 1 := by show (allS st (num + 1)).length + 1 = _; rw [allS_len]
        rw [lF, ← Paired.length py] at lall
        refine ⟨a, _, rfl, hqa, rfl, _, _, rfl, _, _, rfl, rfl, ?_⟩
        refine ⟨_, rfl, .inl ⟨rfl, _, SqL.of eq⟩, _, rfl, _, rfl, (by show 2 ≤ sizeLine; decide), fun c hc => ?_⟩
        have s4 := same_new (o := .tup [.int (num : Int), u]) hc
        have eq4 := s4 _ _ eq
        refine ⟨q, _, _, rfl, rfl, eq4, small1000 (by omega), ?_⟩
        obtain ⟨H5, eH5⟩ : ∃ H5, H5 = upd (upd H3 c (.tup [.int (num : Int), u])) q (.lst (ys ++ [.ref c])) := ⟨_, rfl⟩
        rw [← eH5]
        have tq : Tps (upd H3 c (.tup [.int (num : Int), u])) H5 := by rw [eH5]; exact Tps.lst eq4
        have t5 : Tps H3 H5 := (Tps.of s4).trans tq
        have s5 : Same H H5 := fun c o z => by
          rw [eH5, upd_ne (ne_of_none z hq)]
          exact s4 _ _ (s3 _ _ z)
        have eq5 : H5 q = some (.lst (ys ++ [.ref c])) := by rw [eH5, upd_same]
        have eL5 : H5 L = some (.lst xs) := by rw [eH5, upd_ne qL.symm]; exact s4 _ _ eL3
        have nc : NumAt K H5 (.ref c) (num, st) := ⟨c, u, rfl, tq.sqt (SqT.of upd_same), hd.tps t5 (noL_st st)⟩
        have py5 : Paired (NumAt K H5) (ys ++ [.ref c]) (((numb b i).take j).flatMap allF ++ [(num, st)]) := Paired.snoc (Paired.mapP py fun _ _ z => z.tps t5) nc
        refine ⟨_, rfl, _, rfl, u, st, num, rfl, hd.tps t5 (noL_st st), by omega, oks, fun M zs H6 s6 fM eM pM => ?_⟩
        have qM : q ≠ M := ne_of_none eq5 fM
        have LM : L ≠ M := ne_of_none eL5 fM
        refine ⟨M, rfl, ⟨_, SqL.of eM⟩, ?_⟩
        have lz : zs.length ≤ 902 := by rw [Paired.length pM, nparts_len]; exact parts_len oks
        refine for_list (K := K) (a := M) (xs := zs) (fun k σ H' => ∃ x5 x6 : Option V, σ = [some v, some (.int (i : Int)), some (.ref q), some (.int (num : Int)), some u, x5, x6] ∧ Same H H' ∧ Tps H6 H' ∧ H' L = some (.lst xs) ∧ H' M = some (.lst zs) ∧ ∃ ws, H' q = some (.lst ws) ∧ Paired (NumAt K H') ws (((numb b i).take j).flatMap allF ++ (num, st) :: allP ((nparts (parts st) (num + 1)).take k))) ⟨_, _, rfl, s5.trans s6, Tps.refl, s6 _ _ eL5, eM, _, s6 _ _ eq5, Paired.mapP py5 fun _ _ z => z.tps (Tps.of s6)⟩ (fun k σ H' _ h' => by obtain ⟨_, _, _, _, _, _, z, _⟩ := h'; exact SqL.of z) ?_ ?_
        · rintro k' y σ H7 hy ⟨x5, x6, rfl, s7, t7, eL7, eM7, ws, eq7, pw⟩
          obtain ⟨⟨inn, p⟩, hpp, hppd⟩ := Paired.at pM hy
          obtain ⟨a2, u2, rfl, hqa2, hd2⟩ := hppd.tps t7
          have mp : p ∈ parts st := nparts_at hpp
          have dpp := dp_part mp
          have szp := szB_part mp
          have szs := szS_mem ms
          refine ⟨a2, _, rfl, hqa2, rfl, _, _, rfl, _, _, rfl, rfl, ?_⟩
          have lw := flat_len (f := fun p : Nat × List St => allB p.2 p.1) (l := nparts (parts st) (num + 1)) (k' + 1)
          have ltot : ((nparts (parts st) (num + 1)).flatMap fun p : Nat × List St => allB p.2 p.1).length = szS st := by
            have := congrArg List.length (allP_parts st (num + 1))
            rw [allS_len] at this
            exact this
          rw [flat_snoc hpp, List.length_append, allB_len, ltot] at lw
          have lws : ws.length = ys.length + (1 + ((nparts (parts st) (num + 1)).take k' |>.flatMap fun p : Nat × List St => allB p.2 p.1).length) := by
            rw [Paired.length pw, List.length_append, List.length_cons, ← Paired.length py]
            unfold allP
            omega
          refine ⟨_, rfl, .inl ⟨rfl, _, SqL.of eq7⟩, _, rfl, _, rfl, u2, p, inn, rfl, hd2, by omega, okS_parts oks mp, by omega, fun N rs H8 s8 fN eN pN => ?_⟩
          have eq8 := s8 _ _ eq7
          have qN : q ≠ N := ne_of_none eq7 fN
          have lr : rs.length = szB p := by rw [Paired.length pN, allB_len]
          refine ⟨q, N, _, _, rfl, rfl, eq8, eN, Nat.le_of_lt (small1000 (by simp only at lw; omega)), ?_⟩
          have t9 : Tps H8 (upd H8 q (.lst (ws ++ rs))) := Tps.lst eq8
          have t79 := (Tps.of s8).trans t9
          refine ⟨_, _, rfl, fun c o z => ?_, t7.trans t79, by rw [upd_ne qL.symm]; exact s8 _ _ eL7, by rw [upd_ne qM.symm]; exact s8 _ _ eM7, _, upd_same, ?_⟩
          · rw [upd_ne (ne_of_none z hq)]
            exact s8 _ _ (s7 _ _ z)
          · have e : ((numb b i).take j).flatMap allF ++ (num, st) :: allP ((nparts (parts st) (num + 1)).take (k' + 1)) = (((numb b i).take j).flatMap allF ++ (num, st) :: allP ((nparts (parts st) (num + 1)).take k')) ++ allB p inn := by
              unfold allP
              rw [flat_snoc hpp, List.append_assoc]
              rfl
            rw [e]
            exact Paired.app (Paired.mapP pw fun _ _ z => z.tps t79) (Paired.mapP pN fun _ _ z => z.tps t9)
        · rintro σ H7 ⟨x5, x6, rfl, s7, t7, eL7, eM7, ws, eq7, pw⟩
          rw [Paired.length pM, List.take_length, allP_parts] at pw
          refine ⟨_, _, _, _, rfl, s7, t3.trans (t5.trans ((Tps.of s6).trans t7)), eL7, ws, eq7, ?_⟩
          rw [flat_snoc hp]
          exact pw
      · rintro σ H3 ⟨x3, x4, x5, x6, rfl, s3, t3, eL3, ys, eq, py⟩
        rw [Paired.length pL, List.take_length, ← allB_flat] at py
        exact ⟨_, rfl, k q ys H3 s3 hq eq py⟩
end
theorem inj_of_nodup {α β : Type} {f : α → β} : ∀ {l : List α}, (l.map f).Nodup → ∀ {x y : α}, x ∈ l → y ∈ l → f x = f y → x = y
  | a :: r, h, x, y, hx, hy, e => by
    rw [List.map_cons, List.nodup_cons] at h
    rcases List.mem_cons.mp hx with h1 | h1
    · rcases List.mem_cons.mp hy with h2 | h2
      · rw [h1, h2]
      · exact absurd (List.mem_map.mpr ⟨y, h2, by rw [← e, h1]⟩) h.1
    · rcases List.mem_cons.mp hy with h2 | h2
      · exact absurd (List.mem_map.mpr ⟨x, h1, by rw [e, h2]⟩) h.1
      · exact inj_of_nodup h.2 h1 h2 e

/-! ### the shape of a tree: is_pair, is_row_of_names -/
structure TxShape (mg : Str → Option Value) : Prop where
  n_isinstance : mg "isinstance" = none
  n_tuple : mg "tuple" = none
  n_str : mg "str" = none
  n_bool : mg "bool" = none
  n_len : mg "len" = none
  n_all : mg "all" = none
  n_zip : mg "zip" = none
abbrev sIsPair : Stmt := topS 39
abbrev NIsPair : List Str := ["value"]
abbrev PIsPair : List Str := ["value"]
theorem scIsPair : FnScope NIsPair PIsPair (defScope sIsPair) := ⟨rfl, rfl, rfl, by decide +kernel, rfl, by decide +kernel, by decide +kernel⟩
abbrev sRowN : Stmt := topS 38
abbrev NRowN : List Str := ["value", "one"]
abbrev PRowN : List Str := ["value"]
theorem scRowN : FnScope NRowN PRowN (defScope sRowN) := ⟨rfl, rfl, rfl, by decide +kernel, rfl, by decide +kernel, by decide +kernel⟩
def spIsPair (K : PySem.W.Frag) : Sp := fun vs H Q _ => ∃ (a : Addr) (xs : List V), vs = [.ref a] ∧ SqT K H a xs ∧ Q (.bl (decide (xs.length = 2))) H
def spRowN (K : PySem.W.Frag) : Sp := fun vs H Q _ => ∃ (v : V) (ns : List Str), vs = [v] ∧ Dp K H v (nmD ns) ∧ okNs ns ∧ ∀ H', Same H H' → Q (.bl true) H'
section
variable {P : Program} {w : World} {K : PySem.W.Frag} {mg : Str → Option Value} {base : Heap}
theorem ok_IsPair {f : Addr} {fd : FuncData} (F : Fun K "is_pair" "is_pair" sIsPair f fd) (T : TxShape mg) : FnOk P w K mg base CX0 1 f fd PIsPair (spIsPair K) := by
  refine F.ok scIsPair (fun vs H Q E h => ?_) (fun cdv A outer s H vs Q E hr h => ?_)
  · obtain ⟨a, xs, rfl, _⟩ := h
    rfl
  · obtain ⟨a, xs, rfl, hq, k⟩ := h
    refine ⟨_, (pss_one (ps_ret (pe_and (pe_callB call_isi (by rfl) T.n_isinstance bb_isinstance (pa_cons (pv 0) (pa_cons (pe_bltn (v := .ty "tuple") (by rfl) T.n_tuple bb_tuple rfl) pa_nil))) (pe_one (pe_cmpR op_eq (pe_callB call_len_seq (by rfl) T.n_len bb_len (pa_cons (pv 0) pa_nil)) pe_int (nomark _)))))), ?_⟩
    refine ⟨_, rfl, _, _, _, _, _, rfl, .ty _, ty_tup hq, kit_ty (r := true) (by decide +kernel), _, rfl, iteS rfl ?_⟩
    refine ⟨_, rfl, a, xs, rfl, .inr hq, rfl, ?_⟩
    have e : decide (V.int ((xs.length : Nat) : Int) = V.int 2) = decide (xs.length = 2) := decide_eq_decide.mpr ⟨fun h => by injection h with h; omega, fun h => by rw [h]; rfl⟩
    rw [e]
    exact k
theorem ok_RowN {f : Addr} {fd : FuncData} (F : Fun K "is_row_of_names" "is_row_of_names" sRowN f fd) (T : TxShape mg) (GN : Has P w K mg base CX0 1 "is_name" PIsName (spName K)) : FnOk P w K mg base CX0 2 f fd PRowN (spRowN K) := by
  refine F.ok scRowN (fun vs H Q E h => ?_) (fun cdv A outer s H vs Q E hr h => ?_)
  · obtain ⟨v, ns, rfl, _⟩ := h
    rfl
  · obtain ⟨v, ns, rfl, hv, ok, k⟩ := h
    refine ⟨_, (pss_one (ps_ret (pe_and (pe_callB call_isi (by rfl) T.n_isinstance bb_isinstance (pa_cons (pv 0) (pa_cons (pe_bltn (v := .ty "tuple") (by rfl) T.n_tuple bb_tuple rfl) pa_nil))) (pe_one (pe_callB (cr_all rfl) (by rfl) T.n_all bb_all (pa_cons (pe_lc (own := [("one", 1)]) (g := gName 1) (tt := tYes) rfl scRowN.nd (pi_tup (pv 0)) (blkOk_by (own := [("one", 1)]) (N := NRowN) (sc := (defScope sRowN)) (by decide +kernel)) (fun _ _ _ _ _ => (pg_name (i := 1) scRowN.nd rfl (Or.inl rfl))) (fun _ _ _ _ _ => pts_nil) (fun _ _ _ _ _ => (pe_callH GN hr rfl pass0 (pa_cons (pv 1) pa_nil)))) pa_nil)))))), ?_⟩
    obtain ⟨a, xs, rfl, hq, hd⟩ := hv.tupInv
    have pn := DpAll.map hd
    have ok1 : ns.length ≤ 900 := ok.1
    have lx : xs.length = ns.length := Paired.length pn
    refine ⟨_, rfl, _, _, _, _, _, rfl, .ty _, ty_tup hq, kit_ty (r := true) (by decide +kernel), _, rfl, iteS rfl ?_⟩
    refine ⟨_, rfl, a, rfl, ⟨_, hq⟩, fun D hD => ?_⟩
    refine lc_tup (K := K) (a := a) (xs := xs) (fun i H' => Same H H' ∧ H' D = some (.lst ((List.replicate i true).map V.bl))) ⟨same_new hD, upd_same⟩ (fun i H' _ h' => SqT.same h'.1 hq) ?_ ?_
    · rintro i v H1 hx ⟨s1, e1⟩
      obtain ⟨z, hz, hzd⟩ := Paired.at pn hx
      have hi : i < xs.length := (List.getElem?_eq_some_iff.mp hx).1
      have okz := ok.2 z (List.mem_of_getElem? hz)
      rw [hzd.strInv]
      refine ⟨rfl, _, rfl, _, rfl, .inl ⟨z, rfl, Nat.le_trans okz.2 (by decide), ?_⟩⟩
      rw [okz.1]
      refine ⟨_, e1, small1000 (by rw [List.length_map, List.length_replicate]; omega), fun c o e => ?_, ?_⟩
      · rw [upd_ne (ne_of_none e hD)]
        exact s1 _ _ e
      · rw [upd_same, List.replicate_succ', List.map_append]
        rfl
    · rintro H1 ⟨s1, e1⟩
      refine ⟨D, _, rfl, SqL.of e1, ?_⟩
      rw [show (List.replicate xs.length true).all id = true by rw [List.all_replicate]; split <;> rfl]
      exact k _ s1
end

/-! ### is_integer -/
abbrev sIsInt : Stmt := topS 21
abbrev NIsInt : List Str := ["value"]
abbrev PIsInt : List Str := ["value"]
theorem scIsInt : FnScope NIsInt PIsInt (defScope sIsInt) := ⟨rfl, rfl, rfl, by decide +kernel, rfl, by decide +kernel, by decide +kernel⟩
structure TxInt (mg : Str → Option Value) : Prop where
  n_int : mg "int" = none
  n_bool : mg "bool" = none
  n_isinstance : mg "isinstance" = none
def NoInt (K : PySem.W.Frag) (H : Hp) (v : V) : Prop := ∃ t b, TyX K H v t ∧ PySem.W.kitOne K t (.type "int") = some b ∧ (b = true → PySem.W.kitOne K t (.type "bool") = some true)
def spIsInt (K : PySem.W.Frag) : Sp := fun vs H Q _ => ∃ v, vs = [v] ∧ ((∃ i : Int, v = .int i ∧ Q (.bl true) H) ∨ (NoInt K H v ∧ Q (.bl false) H))
theorem ok_IsInt {P : Program} {w : World} {K : PySem.W.Frag} {mg : Str → Option Value} {base : Heap} {f : Addr} {fd : FuncData} (F : Fun K "is_integer" "is_integer" sIsInt f fd) (T : TxInt mg) : FnOk P w K mg base CX0 1 f fd PIsInt (spIsInt K) := by
  refine F.ok scIsInt (fun vs H Q E h => ?_) (fun cdv A outer s H vs Q E hr h => ?_)
  · obtain ⟨v, rfl, _⟩ := h
    rfl
  · obtain ⟨v, rfl, h⟩ := h
    refine ⟨_, (pss_one (ps_ret (pe_and (pe_callB call_isi (by rfl) T.n_isinstance bb_isinstance (pa_cons (pv 0) (pa_cons (pe_bltn (v := .ty "int") (by rfl) T.n_int bb_int rfl) pa_nil))) (pe_one (pe_not (pe_callB call_isi (by rfl) T.n_isinstance bb_isinstance (pa_cons (pv 0) (pa_cons (pe_bltn (v := .ty "bool") (by rfl) T.n_bool bb_bool rfl) pa_nil)))))))), ?_⟩
    rcases h with ⟨i, rfl, k⟩ | ⟨⟨t, b, ty, k1, k2⟩, k⟩
    · refine ⟨_, rfl, _, _, _, _, _, rfl, .ty _, .base (.int i), kit_ty (r := true) (by decide +kernel), _, rfl, ?_⟩
      exact ⟨_, rfl, _, _, _, _, _, rfl, .ty _, .base (.int i), kit_ty (r := false) (by decide +kernel), _, rfl, k⟩
    · refine ⟨_, rfl, _, _, _, _, _, rfl, .ty _, ty, k1, _, rfl, ?_⟩
      cases b with
      | false => exact k
      | true => exact ⟨_, rfl, _, _, _, _, _, rfl, .ty _, ty, k2 rfl, _, rfl, k⟩

/-! ### is_expression -/
abbrev sIsExp : Stmt := topS 40
abbrev NIsExp : List Str := ["value", "term", "names", "name", "factor", "one", "other"]
abbrev PIsExp : List Str := ["value"]
theorem scIsExp : FnScope NIsExp PIsExp (defScope sIsExp) := ⟨rfl, rfl, rfl, by decide +kernel, rfl, by decide +kernel, by decide +kernel⟩
theorem cut_drop1 {xs : List V} : cutV xs (some 1) none = xs.drop 1 := by
  unfold cutV
  rw [HT.sIx_none, show (1 : Int) = ((1 : Nat) : Int) from rfl, HT.sIx_nat]
  cases xs with
  | nil => rfl
  | cons x r =>
    rw [show min 1 (x :: r).length = 1 by rw [List.length_cons]; omega]
    rw [List.take_of_length_le]
    rw [List.length_drop]
    exact Nat.le_refl _
def spIsExp (K : PySem.W.Frag) : Sp := fun vs H Q _ => ∃ (v : V) (e : Ex), vs = [v] ∧ Dp K H v (exD e) ∧ okEx e ∧ ∀ H', Same H H' → Q (.bl true) H'
section
variable {P : Program} {w : World} {K : PySem.W.Frag} {mg : Str → Option Value} {base : Heap}
theorem ok_IsExp {f : Addr} {fd : FuncData} (F : Fun K "is_expression" "is_expression" sIsExp f fd) (T : TxShape mg) (GN : Has P w K mg base CX0 1 "is_name" PIsName (spName K)) (GI : Has P w K mg base CX0 1 "is_integer" PIsInt (spIsInt K)) (GP : Has P w K mg base CX0 1 "is_pair" PIsPair (spIsPair K)) : FnOk P w K mg base CX0 2 f fd PIsExp (spIsExp K) := by
  refine F.ok scIsExp (fun vs H Q E h => ?_) (fun cdv A outer s H vs Q E hr h => ?_)
  · obtain ⟨v, e, rfl, _⟩ := h
    rfl
  · obtain ⟨v, e, rfl, hv, ok, k⟩ := h
    refine ⟨_, (pss_cons (ps_if (PW.pt (pw_or (pt_not (pt_val (pe_callH GP hr rfl pass0 (pa_cons (pv 0) pa_nil)))) (pw_or (pt_not (pt_val (pe_callH GI hr rfl pass0 (pa_cons (pe_ix (r := rIxT K) ix_tup (pv 0) pe_int (fun _ _ => rfl)) pa_nil)))) (pw_or1 (pt_not (pt_val (pe_callB call_isi (by rfl) T.n_isinstance bb_isinstance (pa_cons (pe_ix (r := rIxT K) ix_tup (pv 0) pe_int (fun _ _ => rfl)) (pa_cons (pe_bltn (v := .ty "tuple") (by rfl) T.n_tuple bb_tuple rfl) pa_nil)))))))))
  (pss_one (ps_ret pe_bl))
  pss_nil)
  (pss_cons (ps_for PassesOwn.never rfl (pi_tup (pe_ix (r := rIxT K) ix_tup (pv 0) pe_int (fun _ _ => rfl))) (pg_name (i := 1) scIsExp.nd rfl (Or.inl rfl))
  (pss_one (ps_if (PW.pt (pw_or (pt_not (pt_val (pe_callH GP hr rfl pass0 (pa_cons (pv 1) pa_nil)))) (pw_or (pt_not (pt_val (pe_callH GN hr rfl pass0 (pa_cons (pe_ix (r := rIxT K) ix_tup (pv 1) pe_int (fun _ _ => rfl)) pa_nil)))) (pw_or (pt_not (pt_val (pe_callH GI hr rfl pass0 (pa_cons (pe_ix (r := rIxT K) ix_tup (pv 1) pe_int (fun _ _ => rfl)) pa_nil)))) (pw_or1 (pt_cmpR op_eq (pe_ix (r := rIxT K) ix_tup (pv 1) pe_int (fun _ _ => rfl)) pe_int (nomark _)))))))
  (pss_one (ps_ret pe_bl))
  pss_nil)))
  (pss_cons (ps_setLc (i := 2) (own := [("name", 3), ("factor", 4)]) (g := gTup K 2 (gCons (gName 3) (gCons (gName 4) gNil))) (tt := tYes) rfl scIsExp.nd rfl rfl (sw_true rfl rfl rfl (by decide +kernel)) (pi_tup (pe_ix (r := rIxT K) ix_tup (pv 0) pe_int (fun _ _ => rfl))) (blkOk_by (own := [("name", 3), ("factor", 4)]) (N := NIsExp) (sc := (defScope sIsExp)) (by decide +kernel)) (fun _ _ _ _ _ => (pg_tup (by rfl) (pgs_cons (pg_name (i := 3) scIsExp.nd rfl (Or.inl rfl)) (pgs_cons (pg_name (i := 4) scIsExp.nd rfl (Or.inl rfl)) pgs_nil)))) (fun _ _ _ _ _ => pts_nil) (fun _ _ _ _ _ => (pv 3)))
  (pss_one (ps_ret (pe_callB (cr_all rfl) (by rfl) T.n_all bb_all (pa_cons (pe_lc (own := [("one", 5), ("other", 6)]) (g := gTup K 2 (gCons (gName 5) (gCons (gName 6) gNil))) (tt := tYes) rfl scIsExp.nd (pi_zip (by rfl) T.n_zip (pa_cons (pv 2) (pa_cons (pe_slice sl_list (pv 2) (po_some pe_int) po_none) pa_nil))) (blkOk_by (own := [("one", 5), ("other", 6)]) (N := NIsExp) (sc := (defScope sIsExp)) (by decide +kernel)) (fun _ _ _ _ _ => (pg_tup (by rfl) (pgs_cons (pg_name (i := 5) scIsExp.nd rfl (Or.inl rfl)) (pgs_cons (pg_name (i := 6) scIsExp.nd rfl (Or.inl rfl)) pgs_nil)))) (fun _ _ _ _ _ => pts_nil) (fun _ _ _ _ _ => (pe_cmpR op_lt_str (pv 5) (pv 6) (nomark _)))) pa_nil))))))), ?_⟩
    obtain ⟨a, xs, rfl, hq, hd⟩ := hv.tupInv
    obtain ⟨x, y, rfl, hx, hy⟩ := hd.two
    obtain ⟨b, ys, rfl, hb, hyd⟩ := hy.tupInv
    have pt := DpAll.map hyd
    have ok1 : e.ts.length ≤ 900 := ok.1
    have ly : ys.length = e.ts.length := Paired.length pt
    rw [hx.intInv] at hq
    refine ⟨_, rfl, a, _, rfl, hq, _, rfl, iteE rfl ?_⟩
    refine ⟨_, rfl, a, _, _, _, rfl, rfl, hq, rfl, _, rfl, .inl ⟨_, rfl, _, rfl, iteE rfl ?_⟩⟩
    refine ⟨_, rfl, a, _, _, _, rfl, rfl, hq, rfl, _, _, _, _, _, rfl, .ty _, ty_tup hb, kit_ty (r := true) (by decide +kernel), _, rfl, iteE rfl ?_⟩
    refine ⟨_, rfl, a, _, _, _, rfl, rfl, hq, rfl, b, rfl, ⟨_, hb⟩, ?_⟩
    refine for_tup (K := K) (a := b) (xs := ys) (fun i σ H' => H' = H ∧ ∃ x2 : Option V, σ = [some (.ref a), x2, none, none, none, none, none]) ⟨rfl, none, rfl⟩ (fun i σ H' _ h' => by rw [h'.1]; exact hb) ?_ ?_
    · rintro i z σ H1 hz ⟨rfl, x2, rfl⟩
      obtain ⟨t, ht, htd⟩ := Paired.at pt hz
      obtain ⟨c, zs, rfl, hc, hcd⟩ := htd.tupInv
      obtain ⟨u, w, rfl, hu, hw⟩ := hcd.two
      rw [hu.strInv, hw.intInv] at hc
      have okt := ok.2.1 t (List.mem_of_getElem? ht)
      refine ⟨_, rfl, c, _, rfl, hc, _, rfl, iteE rfl ?_⟩
      refine ⟨_, rfl, c, _, _, _, rfl, rfl, hc, rfl, _, rfl, .inl ⟨_, rfl, Nat.le_trans okt.1.2 (by decide), ?_⟩⟩
      rw [okt.1.1]
      refine ⟨_, rfl, iteE rfl ?_⟩
      refine ⟨_, rfl, c, _, _, _, rfl, rfl, hc, rfl, _, rfl, .inl ⟨_, rfl, _, rfl, iteE rfl ?_⟩⟩
      refine ⟨_, rfl, c, _, _, _, rfl, rfl, hc, rfl, rfl, _, rfl, iteE (decide_eq_false fun z => okt.2 (by injection z)) ?_⟩
      exact ⟨rfl, _, rfl⟩
    · rintro σ H1 ⟨rfl, x2, rfl⟩
      refine ⟨_, rfl, a, _, _, _, rfl, rfl, hq, rfl, b, rfl, ⟨_, hb⟩, fun D hD => ?_⟩
      refine lc_tup (K := K) (a := b) (xs := ys) (fun i H' => Same H1 H' ∧ H' D = some (.lst ((e.ts.take i).map fun p => V.str p.1))) ⟨same_new hD, upd_same⟩ (fun i H' _ h' => SqT.same h'.1 hb) ?_ ?_
      · rintro i z H2 hz ⟨s2, eD⟩
        obtain ⟨t, ht, htd⟩ := Paired.at pt hz
        obtain ⟨c, zs, rfl, hc, hcd⟩ := htd.tupInv
        obtain ⟨u, w, rfl, hu, hw⟩ := hcd.two
        rw [hu.strInv, hw.intInv] at hc
        have hi : i < ys.length := (List.getElem?_eq_some_iff.mp hz).1
        refine ⟨c, _, rfl, SqT.same s2 hc, rfl, _, _, rfl, _, _, rfl, rfl, rfl, _, rfl, _, eD, small1000 (by rw [List.length_map, List.length_take]; omega), fun c o z => ?_, ?_⟩
        · rw [upd_ne (ne_of_none z hD)]
          exact s2 _ _ z
        · rw [upd_same, take_snoc ht, List.map_append]
          rfl
      · rintro H2 ⟨s2, eD⟩
        rw [ly, List.take_length] at eD
        have lz : ((e.ts.drop 1).map fun p => V.str p.1).length = e.ts.length - 1 := by rw [List.length_map, List.length_drop]
        refine ⟨_, rfl, _, rfl, _, rfl, D, _, rfl, SqL.of eD, fun q hq2 => ?_⟩
        rw [cut_drop1, ← List.map_drop]
        have s3 := same_new (o := .lst ((e.ts.drop 1).map fun p => V.str p.1)) hq2
        refine ⟨D, q, _, _, rfl, SqL.of (s3 _ _ eD), SqL.of upd_same, fun M hM => ?_⟩
        refine lc_it (walk_zip (K := K) (n := e.ts.length - 1) (by rw [lz, List.length_map]; omega)) (fun i H' => Same (upd H2 q (.lst ((e.ts.drop 1).map fun p => V.str p.1))) H' ∧ H' M = some (.lst ((List.replicate i true).map V.bl))) ⟨same_new hM, upd_same⟩ (fun i H' _ h' => ⟨SqL.of (h'.1 _ _ (s3 _ _ eD)), SqL.of (h'.1 _ _ upd_same)⟩) ?_ ?_
        · rintro i z H4 H5 hi ⟨s4, eM⟩ ⟨T, x, y, rfl, hT, rfl, gx, gy⟩
          obtain ⟨t1, ht1⟩ : ∃ t, e.ts[i]? = some t := ⟨_, List.getElem?_eq_getElem (by omega)⟩
          obtain ⟨t2, ht2⟩ : ∃ t, e.ts[i + 1]? = some t := ⟨_, List.getElem?_eq_getElem (by omega)⟩
          simp only at gx gy
          rw [List.getElem?_map, ht1] at gx
          rw [List.getElem?_map, List.getElem?_drop, Nat.add_comm 1 i, ht2] at gy
          simp only [Option.map_some, Option.some.injEq] at gx gy
          subst gx gy
          refine ⟨T, _, rfl, SqT.of upd_same, rfl, _, _, rfl, _, _, rfl, rfl, rfl, _, rfl, _, rfl, _, _, rfl, rfl, ?_⟩
          rw [decide_eq_true (ok.2.2 i t1 t2 ht1 ht2)]
          have s5 := same_new (o := .tup [V.str t1.1, V.str t2.1]) hT
          refine ⟨_, s5 _ _ eM, small1000 (by rw [List.length_map, List.length_replicate]; omega), fun c o z => ?_, ?_⟩
          · rw [upd_ne (ne_of_none z hM)]
            exact s5 _ _ (s4 _ _ z)
          · rw [upd_same, List.replicate_succ', List.map_append]
            rfl
        · rintro H4 ⟨s4, eM⟩
          refine ⟨M, _, rfl, SqL.of eM, ?_⟩
          rw [show (List.replicate (e.ts.length - 1) true).all id = true by rw [List.all_replicate]; split <;> rfl]
          exact k _ ((s2.trans s3).trans s4)
end

/-! ### is_arg, is_call -/
abbrev sIsArg : Stmt := topS 41
abbrev NIsArg : List Str := ["value"]
abbrev PIsArg : List Str := ["value"]
theorem scIsArg : FnScope NIsArg PIsArg (defScope sIsArg) := ⟨rfl, rfl, rfl, by decide +kernel, rfl, by decide +kernel, by decide +kernel⟩
abbrev sIsCal : Stmt := topS 42
abbrev NIsCal : List Str := ["value", "one"]
abbrev PIsCal : List Str := ["value"]
theorem scIsCal : FnScope NIsCal PIsCal (defScope sIsCal) := ⟨rfl, rfl, rfl, by decide +kernel, rfl, by decide +kernel, by decide +kernel⟩
def spIsArg (K : PySem.W.Frag) : Sp := fun vs H Q _ => ∃ (v : V) (e : Arg), vs = [v] ∧ Dp K H v (argD e) ∧ okArg e ∧ ∀ H', Same H H' → Q (.bl true) H'
def spIsCal (K : PySem.W.Frag) : Sp := fun vs H Q _ => ∃ (v : V) (e : Cal), vs = [v] ∧ Dp K H v (calD e) ∧ okCal e ∧ ∀ H', Same H H' → Q (.bl true) H'
section
variable {P : Program} {w : World} {K : PySem.W.Frag} {mg : Str → Option Value} {base : Heap}
theorem ok_IsArg {f : Addr} {fd : FuncData} (F : Fun K "is_arg" "is_arg" sIsArg f fd) (T : TxShape mg) (GN : Has P w K mg base CX0 1 "is_name" PIsName (spName K)) (GE : Has P w K mg base CX0 2 "is_expression" PIsExp (spIsExp K)) (GP : Has P w K mg base CX0 1 "is_pair" PIsPair (spIsPair K)) : FnOk P w K mg base CX0 3 f fd PIsArg (spIsArg K) := by
  refine F.ok scIsArg (fun vs H Q E h => ?_) (fun cdv A outer s H vs Q E hr h => ?_)
  · obtain ⟨v, e, rfl, _⟩ := h
    rfl
  · obtain ⟨v, e, rfl, hv, ok, k⟩ := h
    have hr1 := hr.mono (j := 1) (by decide)
    refine ⟨_, (pss_cons (ps_if (PW.pt (pw_or (pt_not (pt_val (pe_callH GP hr1 rfl pass0 (pa_cons (pv 0) pa_nil)))) (pw_or1 (pt_not (pt_val (pe_callB call_isi (by rfl) T.n_isinstance bb_isinstance (pa_cons (pe_ix (r := rIxT K) ix_tup (pv 0) pe_int (fun _ _ => rfl)) (pa_cons (pe_bltn (v := .ty "str") (by rfl) T.n_str bb_str rfl) pa_nil))))))))
  (pss_one (ps_ret pe_bl))
  pss_nil)
  (pss_cons (ps_if (pt_cmpR op_eq (pe_ix (r := rIxT K) ix_tup (pv 0) pe_int (fun _ _ => rfl)) pe_str (nomark _))
  (pss_one (ps_ret (pe_callH GN hr1 rfl pass0 (pa_cons (pe_ix (r := rIxT K) ix_tup (pv 0) pe_int (fun _ _ => rfl)) pa_nil))))
  pss_nil)
  (pss_one (ps_ret (pe_and (pe_cmpR op_eq (pe_ix (r := rIxT K) ix_tup (pv 0) pe_int (fun _ _ => rfl)) pe_str (nomark _)) (pe_one (pe_callH GE hr rfl pass0 (pa_cons (pe_ix (r := rIxT K) ix_tup (pv 0) pe_int (fun _ _ => rfl)) pa_nil)))))))), ?_⟩
    cases e with
    | place n =>
      have ok : okN1 n := ok
      have hv : Dp K H v (.tuple [.str "place", .str n]) := hv
      obtain ⟨a, xs, rfl, hq, hd⟩ := hv.tupInv
      obtain ⟨x, y, rfl, hx, hy⟩ := hd.two
      rw [hx.strInv, hy.strInv] at hq
      refine ⟨_, rfl, a, _, rfl, hq, _, rfl, iteE rfl ?_⟩
      refine ⟨_, rfl, a, _, _, _, rfl, rfl, hq, rfl, _, _, _, _, _, rfl, .ty _, .base (.str _), kit_ty (r := true) (by decide +kernel), _, rfl, iteE rfl ?_⟩
      refine ⟨_, rfl, a, _, _, _, rfl, rfl, hq, rfl, rfl, _, rfl, iteS rfl ?_⟩
      refine ⟨_, rfl, a, _, _, _, rfl, rfl, hq, rfl, _, rfl, .inl ⟨_, rfl, Nat.le_trans ok.2 (by decide), ?_⟩⟩
      rw [ok.1]
      exact k _ (Same.refl _)
    | value e =>
      have ok : okEx e := ok
      have hv : Dp K H v (.tuple [.str "value", exD e]) := hv
      obtain ⟨a, xs, rfl, hq, hd⟩ := hv.tupInv
      obtain ⟨x, y, rfl, hx, hy⟩ := hd.two
      rw [hx.strInv] at hq
      refine ⟨_, rfl, a, _, rfl, hq, _, rfl, iteE rfl ?_⟩
      refine ⟨_, rfl, a, _, _, _, rfl, rfl, hq, rfl, _, _, _, _, _, rfl, .ty _, .base (.str _), kit_ty (r := true) (by decide +kernel), _, rfl, iteE rfl ?_⟩
      refine ⟨_, rfl, a, _, _, _, rfl, rfl, hq, rfl, rfl, _, rfl, iteE (by decide +kernel) ?_⟩
      refine ⟨_, rfl, a, _, _, _, rfl, rfl, hq, rfl, rfl, _, rfl, iteS (by decide +kernel) ?_⟩
      exact ⟨_, rfl, a, _, _, _, rfl, rfl, hq, rfl, _, e, rfl, hy, ok, k⟩
theorem ok_IsCal {f : Addr} {fd : FuncData} (F : Fun K "is_call" "is_call" sIsCal f fd) (T : TxShape mg) (GN : Has P w K mg base CX0 1 "is_name" PIsName (spName K)) (GA : Has P w K mg base CX0 3 "is_arg" PIsArg (spIsArg K)) (GP : Has P w K mg base CX0 1 "is_pair" PIsPair (spIsPair K)) : FnOk P w K mg base CX0 4 f fd PIsCal (spIsCal K) := by
  refine F.ok scIsCal (fun vs H Q E h => ?_) (fun cdv A outer s H vs Q E hr h => ?_)
  · obtain ⟨v, e, rfl, _⟩ := h
    rfl
  · obtain ⟨v, e, rfl, hv, ok, k⟩ := h
    have hr1 := hr.mono (j := 1) (by decide)
    refine ⟨_, (pss_cons (ps_if (PW.pt (pw_or (pt_not (pt_val (pe_callH GP hr1 rfl pass0 (pa_cons (pv 0) pa_nil)))) (pw_or (pt_not (pt_val (pe_callH GN hr1 rfl pass0 (pa_cons (pe_ix (r := rIxT K) ix_tup (pv 0) pe_int (fun _ _ => rfl)) pa_nil)))) (pw_or1 (pt_not (pt_val (pe_callB call_isi (by rfl) T.n_isinstance bb_isinstance (pa_cons (pe_ix (r := rIxT K) ix_tup (pv 0) pe_int (fun _ _ => rfl)) (pa_cons (pe_bltn (v := .ty "tuple") (by rfl) T.n_tuple bb_tuple rfl) pa_nil)))))))))
  (pss_one (ps_ret pe_bl))
  pss_nil)
  (pss_one (ps_ret (pe_callB (cr_all rfl) (by rfl) T.n_all bb_all (pa_cons (pe_lc (own := [("one", 1)]) (g := gName 1) (tt := tYes) rfl scIsCal.nd (pi_tup (pe_ix (r := rIxT K) ix_tup (pv 0) pe_int (fun _ _ => rfl))) (blkOk_by (own := [("one", 1)]) (N := NIsCal) (sc := (defScope sIsCal)) (by decide +kernel)) (fun _ _ _ _ _ => (pg_name (i := 1) scIsCal.nd rfl (Or.inl rfl))) (fun _ _ _ _ _ => pts_nil) (fun _ _ _ _ _ => (pe_callH GA hr rfl pass0 (pa_cons (pv 1) pa_nil)))) pa_nil))))), ?_⟩
    obtain ⟨a, xs, rfl, hq, hd⟩ := hv.tupInv
    obtain ⟨x, y, rfl, hx, hy⟩ := hd.two
    obtain ⟨b, ys, rfl, hb, hyd⟩ := hy.tupInv
    have pt := DpAll.map hyd
    have ok1 : e.2.length ≤ 900 := ok.2.1
    have ly : ys.length = e.2.length := Paired.length pt
    rw [hx.strInv] at hq
    refine ⟨_, rfl, a, _, rfl, hq, _, rfl, iteE rfl ?_⟩
    refine ⟨_, rfl, a, _, _, _, rfl, rfl, hq, rfl, _, rfl, .inl ⟨_, rfl, Nat.le_trans ok.1.2 (by decide), ?_⟩⟩
    rw [ok.1.1]
    refine ⟨_, rfl, iteE rfl ?_⟩
    refine ⟨_, rfl, a, _, _, _, rfl, rfl, hq, rfl, _, _, _, _, _, rfl, .ty _, ty_tup hb, kit_ty (r := true) (by decide +kernel), _, rfl, iteE rfl ?_⟩
    refine ⟨_, rfl, a, _, _, _, rfl, rfl, hq, rfl, b, rfl, ⟨_, hb⟩, fun D hD => ?_⟩
    refine lc_tup (K := K) (a := b) (xs := ys) (fun i H' => Same H H' ∧ H' D = some (.lst ((List.replicate i true).map V.bl))) ⟨same_new hD, upd_same⟩ (fun i H' _ h' => SqT.same h'.1 hb) ?_ ?_
    · rintro i v H1 hz ⟨s1, e1⟩
      obtain ⟨z, hza, hzd⟩ := Paired.at pt hz
      have hi : i < ys.length := (List.getElem?_eq_some_iff.mp hz).1
      refine ⟨rfl, _, rfl, v, z, rfl, hzd.same s1, ok.2.2 z (List.mem_of_getElem? hza), fun H2 s2 => ?_⟩
      refine ⟨_, s2 _ _ e1, small1000 (by rw [List.length_map, List.length_replicate]; omega), fun c o e => ?_, ?_⟩
      · rw [upd_ne (ne_of_none e hD)]
        exact s2 _ _ (s1 _ _ e)
      · rw [upd_same, List.replicate_succ', List.map_append]
        rfl
    · rintro H1 ⟨s1, e1⟩
      refine ⟨D, _, rfl, SqL.of e1, ?_⟩
      rw [show (List.replicate ys.length true).all id = true by rw [List.all_replicate]; split <;> rfl]
      exact k _ s1
end

/-! ### tuple == tuple, whose items are flat or instances with an own __eq__: both answers -/
section
open PySem.SeqAt MeetsSeq MeetsSeq2 MeetsSeq3 SeqRoads2
variable {prog : Program} {w : World} {A : Around} {R : Result → Shared → Prop}
theorem tuple_eqB (l b : Addr) (items items2 : Array Value) (n n2 : Nat) (dd dd2 : Option Addr) (sl sl2 : Array (Option Value)) (I : Nat → Shared → Prop)
    (turn : ∀ i (h1 : i < items.size) (h2 : i < items2.size) s, I i s → wpAny (model prog w) A.in1 (eqBool items[i] items2[i]) (fun r s' => (r = true ∧ I (i + 1) s') ∨ (r = false ∧ R (.ok (.ret (.bool false))) s')) (fun e s' => R (.error e) s') s)
    (fin : ∀ s, I (min items.size items2.size) s → R (.ok (.ret (.bool (items.size == items2.size)))) s) {s : Shared} (hl1 : s.heap.get? l = some { cls := .type "tuple", dict := dd, data := .seq items n, slots := sl }) (hb1 : s.heap.get? b = some { cls := .type "tuple", dict := dd2, data := .seq items2 n2, slots := sl2 }) (h : I 0 s) :
    wpAny (model prog w) A.in1 (Builtin.«tuple.__eq__» ⟨[.ref l, .ref b], []⟩) (GQ.FinOf prog w A R) (fun e s' => R (.error e) s') s := by
  have f2 := AutoSeq1.sub_tuple_tuple
  have hZ : (items.toList.zip items2.toList).length = min items.size items2.size := by simp
  have h0 := h
  obtain ⟨hp, g, d, tk, os⟩ := s
  wp_walk using AutoSeq1.wpAny_loadPart' hl1, AutoSeq1.wpAny_loadPart' hb1, wpAny_forIn_list _ (fun rest b s' => b.1 = none ∧ ∃ i, rest = (items.toList.zip items2.toList).drop i ∧ i ≤ min items.size items2.size ∧ I i s') _
  case turn =>
    rintro ⟨y, x⟩ rest b s' ⟨hb', i, hz, hi, hI⟩
    have hlt : i < (items.toList.zip items2.toList).length := by
      rcases Nat.lt_or_ge i (items.toList.zip items2.toList).length with h' | h'
      · exact h'
      · rw [List.drop_of_length_le h'] at hz; cases hz
    have h12 : i < min items.size items2.size := hZ ▸ hlt
    have h1 : i < items.size := by omega
    have h2 : i < items2.size := by omega
    rw [List.drop_eq_getElem_cons hlt] at hz
    injection hz with hyx hrest
    have hy : y = items[i] := by have := congrArg Prod.fst hyx; simpa using this
    have hx : x = items2[i] := by have := congrArg Prod.snd hyx; simpa using this
    subst hy hx
    refine wpAny_bind (wpAny_mono (turn i h1 h2 s' hI) (fun r s2 q2 => ?_) fun _ _ x => x)
    rcases q2 with ⟨hr, q2⟩ | ⟨hr, q2⟩
    · subst hr
      wp_walk
      exact ⟨rfl, i + 1, hrest, by omega, q2⟩
    · subst hr
      wp_walk
      exact q2
  case fin =>
    rintro ⟨b1, b2⟩ s' ⟨hb', i, hz, hi, hI⟩
    simp only at hb'
    subst hb'
    have hge : min items.size items2.size ≤ i := by
      rcases Nat.lt_or_ge i (items.toList.zip items2.toList).length with h' | h'
      · rw [List.drop_eq_getElem_cons h'] at hz; cases hz
      · exact hZ ▸ h'
    have hi' : i = min items.size items2.size := by omega
    have hR := fin s' (hi' ▸ hI)
    wp_walk
    exact hR
  case h =>
    exact ⟨rfl, 0, rfl, Nat.zero_le _, h0⟩
theorem rc_tupB {E : Value → Shared → Prop} {s : Shared} {l b : Addr} {items items2 : Array Value} {Q : Value → Shared → Prop} (hu : A.units < cLine) (I : Nat → Shared → Prop) (hl : s.heap.IsTuple l items) (hb : s.heap.IsTuple b items2)
    (turn : ∀ i (h1 : i < items.size) (h2 : i < items2.size) s, I i s → wpAny (model prog w) A.in1 (eqBool items[i] items2[i]) (fun r s' => (r = true ∧ I (i + 1) s') ∨ (r = false ∧ Q (.bool false) s')) E s)
    (fin : ∀ s, I (min items.size items2.size) s → Q (.bool (items.size == items2.size)) s) (h : I 0 s) : wpAny (model prog w) A (richCompare .Eq (.ref l) (.ref b)) Q E s := by
  obtain ⟨⟨cls, dd, data, sl⟩, ho, hc, n, hd⟩ := id hl
  obtain ⟨⟨cls2, dd2, data2, sl2⟩, ho2, hc2, n2, hd2⟩ := id hb
  simp only at hc hd hc2 hd2
  subst hc hd hc2 hd2
  refine wpAny_richCompare_same_room (op := .Eq) ⟨_, ho, rfl⟩ ⟨_, ho2, rfl⟩ F.slot_tuple_eq (GQ.call_here F.slot_tuple_eq ⟨_, ho, rfl⟩ F.entry_tuple_eq (F.args_tuple_eq_2 _ _) ?_) hu
  refine tuple_eqB (R := wants (fun v s' => v ≠ .notImplemented ∧ Q v s') E) l b items items2 n n2 dd dd2 sl sl2 I (fun i h1 h2 s' hI => wpAny_mono (turn i h1 h2 s' hI) (fun r s2 q => ?_) fun _ _ z => z) (fun s' q => ⟨(fun x => nomatch x), fin s' q⟩) ho ho2 h
  rcases q with q | ⟨q1, q2⟩
  · exact .inl q
  · exact .inr ⟨q1, ⟨(fun x => nomatch x), q2⟩⟩
end

/-! ### tuple == (): the items are not looked at -/
def rEqE (K : PySem.W.Frag) : V → V → Hp → VK → Prop := fun x y H Q => ∃ ta tb xs, x = .ref ta ∧ y = .ref tb ∧ SqT K H ta xs ∧ SqT K H tb [] ∧ Q (.bl xs.isEmpty) H
section
variable {X : Cx}
theorem op_eqE (hu : X.A.units < cLine) : OpR X (compareOp .Eq) (rEqE X.K) := by
  intro pins s σ H x y v u Q I rx ry h
  obtain ⟨ta, tb, xs, rfl, rfl, e1, e2, q⟩ := h
  obtain rfl : v = Value.ref ta := rx
  obtain rfl : u = Value.ref tb := ry
  obtain ⟨its, r1, t1, _⟩ := I.tuple e1
  obtain ⟨its2, r2, t2, _⟩ := I.tuple e2
  show wpAny (model X.prog X.w) X.A (richCompare .Eq (.ref ta) (.ref tb)) _ _ _
  have l1 : its.length = xs.length := r1.length.symm
  have l2 : its2.length = 0 := r2.length.symm
  refine rc_tupB hu (fun i s' => s' = s) t1 t2 (fun i h1 h2 s' hI => ?_) (fun s' hI => ?_) rfl
  · exact absurd h2 (by simp [l2])
  · subst hI
    refine ⟨_, H, I, ?_, q⟩
    have e : (its.toArray.size == its2.toArray.size) = xs.isEmpty := by
      rw [List.size_toArray, List.size_toArray, l1, l2]
      cases xs <;> rfl
    rw [e]
    rfl
end

/-! ### is_simple -/
abbrev sIsSim : Stmt := topS 45
abbrev NIsSim : List Str := ["value", "target", "expression", "name", "args", "kinds", "kind"]
abbrev PIsSim : List Str := ["value"]
theorem scIsSim : FnScope NIsSim PIsSim (defScope sIsSim) := ⟨rfl, rfl, rfl, by decide +kernel, rfl, by decide +kernel, by decide +kernel⟩
theorem strOk_name {n : Str} (h : isName n = true) : PyData.strOk n = true := by
  unfold PyData.strOk
  rw [← Array.all_toList, List.all_eq_true]
  intro c hc
  obtain ⟨c0, h0⟩ : ∃ c0, n.cps.toList[0]? = some c0 := by
    cases e : n.cps.toList with
    | nil => rw [e] at hc; cases hc
    | cons a r => exact ⟨a, rfl⟩
  rw [isName_at h0] at h
  simp only [Bool.and_eq_true] at h
  have q := List.all_eq_true.mp h.1.2 c hc
  unfold al at q
  simp only [Bool.or_eq_true, decide_eq_true_eq] at q
  have b1 : ∀ x ∈ LET.cps.toList, x < 200 := by decide +kernel
  have b2 : ∀ x ∈ DIG.cps.toList, x < 200 := by decide +kernel
  rcases q with q | q
  · have := b1 c q
    simp only [decide_eq_true_eq]
    omega
  · have := b2 c q
    simp only [decide_eq_true_eq]
    omega
theorem nm_ne {ns : List Str} (h : ns ≠ []) : (!PyData.eqv (nmD ns) (.tuple [])) = true := by
  cases ns with
  | nil => exact absurd rfl h
  | cons x r => rfl
theorem nm_shaped {ns : List Str} (h : okNs ns) : SeqAt.shaped (nmD ns) = true := by
  have e : nmD ns = .tuple ((ns.map V.str).map dOf) := by unfold nmD; rw [List.map_map]; rfl
  rw [e]
  refine shaped_tup ?_
  rw [List.all_map, List.all_eq_true]
  intro z hz
  exact strOk_name (h.2 z hz).1
/-- a statement without blocks -/
def simple : St → Prop
  | .set _ _ => True | .input _ => True | .call _ _ _ => True | .risk _ => True | .raise _ => True | .ret _ => True
  | _ => False
def spIsSim (K : PySem.W.Frag) : Sp := fun vs H Q _ => ∃ (v : V) (e : St), vs = [v] ∧ Dp K H v (stD e) ∧ okS e ∧ simple e ∧ ∀ H', Same H H' → Q (.bl true) H'
section
variable {P : Program} {w : World} {K : PySem.W.Frag} {mg : Str → Option Value} {base : Heap}
theorem ok_IsSim {f : Addr} {fd : FuncData} (F : Fun K "is_simple" "is_simple" sIsSim f fd) (GN : Has P w K mg base CX0 1 "is_name" PIsName (spName K)) (GE : Has P w K mg base CX0 2 "is_expression" PIsExp (spIsExp K)) (GR : Has P w K mg base CX0 2 "is_row_of_names" PRowN (spRowN K)) (GC : Has P w K mg base CX0 4 "is_call" PIsCal (spIsCal K)) : FnOk P w K mg base CX0 5 f fd PIsSim (spIsSim K) := by
  refine F.ok scIsSim (fun vs H Q E h => ?_) (fun cdv A outer s H vs Q E hr h => ?_)
  · obtain ⟨v, e, rfl, _⟩ := h
    rfl
  · obtain ⟨v, e, rfl, hv, ok, sm, k⟩ := h
    have hr1 := hr.mono (j := 1) (by decide)
    have hr2 := hr.mono (j := 2) (by decide)
    refine ⟨_, (pss_one (ps_match (pv 0) (pcs_cons scIsSim.nd (pm_seq rfl (pms_cons pm_str (pms_cons (pm_as (i := 1) rfl (Or.inl rfl)) (pms_cons (pm_as (i := 2) rfl (Or.inl rfl)) pms_nil))))
  (pss_one (ps_ret (pe_and (pe_callH GN hr1 rfl pass0 (pa_cons (pv 1) pa_nil)) (pe_one (pe_callH GE hr2 rfl pass0 (pa_cons (pv 2) pa_nil))))))
  (pcs_cons scIsSim.nd (pm_seq rfl (pms_cons pm_str (pms_cons (pm_as (i := 1) rfl (Or.inl rfl)) pms_nil)))
  (pss_one (ps_ret (pe_callH GN hr1 rfl pass0 (pa_cons (pv 1) pa_nil))))
  (pcs_cons scIsSim.nd (pm_seq rfl (pms_cons pm_str (pms_cons (pm_as (i := 1) rfl (Or.inl rfl)) (pms_cons (pm_as (i := 3) rfl (Or.inl rfl)) (pms_cons (pm_as (i := 4) rfl (Or.inl rfl)) pms_nil)))))
  (pss_one (ps_ret (pe_and (pe_or (pe_cmpR op_isN (pv 1) pe_non (nomark _)) (pe_one (pe_callH GN hr1 rfl pass0 (pa_cons (pv 1) pa_nil)))) (pe_one (pe_callH GC hr rfl pass0 (pa_cons (pe_tup (pa_cons (pv 3) (pa_cons (pv 4) pa_nil))) pa_nil))))))
  (pcs_cons scIsSim.nd (pm_seq rfl (pms_cons pm_str (pms_cons (pm_as (i := 5) rfl (Or.inl rfl)) pms_nil)))
  (pss_one (ps_ret (pe_and (pe_cmpR (op_neD hr.units) (pv 5) (pe_tup pa_nil) (nomark _)) (pe_one (pe_callH GR hr2 rfl pass0 (pa_cons (pv 5) pa_nil))))))
  (pcs_cons scIsSim.nd (pm_seq rfl (pms_cons pm_str (pms_cons (pm_as (i := 6) rfl (Or.inl rfl)) pms_nil)))
  (pss_one (ps_ret (pe_callH GN hr1 rfl pass0 (pa_cons (pv 6) pa_nil))))
  (pcs_cons scIsSim.nd (pm_seq rfl (pms_cons pm_str (pms_cons (pm_as (i := 2) rfl (Or.inl rfl)) pms_nil)))
  (pss_one (ps_ret (pe_callH GE hr2 rfl pass0 (pa_cons (pv 2) pa_nil))))
  (pcs_cons scIsSim.nd pm_wild
  (pss_one (ps_ret pe_bl))
  pcs_nil))))))))), ?_⟩
    obtain ⟨a, xs, rfl, hq, hd⟩ := stInv hv
    refine ⟨_, rfl, ?_⟩
    cases e <;> simp only [wordS] at hq
    case set t e =>
      have ok : okN1 t ∧ okEx e := ok
      obtain ⟨x, y, rfl, h1, h2⟩ := DpAll.two hd
      rw [h1.strInv] at hq
      refine case_hit hq rfl ⟨_, _, rfl, _, _, rfl, ?_⟩
      refine ⟨_, rfl, _, rfl, .inl ⟨t, rfl, Nat.le_trans ok.1.2 (by decide), ?_⟩⟩
      rw [ok.1.1]
      refine ⟨_, rfl, iteS rfl ?_⟩
      exact ⟨_, rfl, y, e, rfl, h2, ok.2, k⟩
    case input t =>
      have ok : okN1 t := ok
      obtain ⟨x, rfl, h1⟩ := DpAll.one hd
      rw [h1.strInv] at hq
      repeat (first | refine case_len hq (Nat.ne_of_beq_eq_false rfl) ?_ | refine case_word hq rfl (by decide +kernel) ?_)
      refine case_hit hq rfl ⟨_, _, rfl, ?_⟩
      refine ⟨_, rfl, _, rfl, .inl ⟨t, rfl, Nat.le_trans ok.2 (by decide), ?_⟩⟩
      rw [ok.1]
      exact k _ (Same.refl _)
    case call t g as =>
      have ok : (∀ x, t = some x → okN1 x) ∧ okN1 g ∧ okAs as := ok
      obtain ⟨x, y, z, rfl, h1, h2, h3⟩ := DpAll.three hd
      repeat (first | refine case_len hq (Nat.ne_of_beq_eq_false rfl) ?_ | refine case_word hq rfl (by decide +kernel) ?_)
      refine case_hit hq rfl ⟨_, _, rfl, _, _, rfl, _, _, rfl, ?_⟩
      have dn : ∀ {q : Addr} {H' : Hp}, Same H H' → H' q = some (.tup [y, z]) → Dp K H' (.ref q) (calD (g, as)) := fun s' e => .tup (SqT.of e) (.cons (h2.same s') (.cons (h3.same s') .nil))
      cases t with
      | none =>
        cases h1
        refine ⟨_, rfl, rfl, _, rfl, iteS (decide_eq_true rfl) ?_⟩
        refine ⟨_, rfl, iteS rfl ?_⟩
        refine ⟨_, rfl, _, rfl, (by show 2 ≤ sizeLine; decide), fun q hq2 => ?_⟩
        have s1 := same_new (o := .tup [y, z]) hq2
        exact ⟨_, (g, as), rfl, dn s1 upd_same, ok.2, fun H' s' => k _ (s1.trans s')⟩
      | some t =>
        have okt := ok.1 t rfl
        rw [show optD (some t) = .str t from rfl] at h1
        cases h1
        refine ⟨_, rfl, rfl, _, rfl, iteE (decide_eq_false fun z => by cases z) ?_⟩
        refine ⟨_, rfl, _, rfl, .inl ⟨t, rfl, Nat.le_trans okt.2 (by decide), ?_⟩⟩
        rw [okt.1]
        refine ⟨_, rfl, iteS rfl ?_⟩
        refine ⟨_, rfl, _, rfl, (by show 2 ≤ sizeLine; decide), fun q hq2 => ?_⟩
        have s1 := same_new (o := .tup [y, z]) hq2
        exact ⟨_, (g, as), rfl, dn s1 upd_same, ok.2, fun H' s' => k _ (s1.trans s')⟩
    case risk ks =>
      have ok : ks ≠ [] ∧ okNs ks := ok
      obtain ⟨x, rfl, h1⟩ := DpAll.one hd
      repeat (first | refine case_len hq (Nat.ne_of_beq_eq_false rfl) ?_ | refine case_word hq rfl (by decide +kernel) ?_)
      refine case_hit hq rfl ⟨_, _, rfl, ?_⟩
      refine ⟨_, rfl, (by show 0 ≤ sizeLine; decide), fun q hq2 => ?_⟩
      have s1 := same_new (o := .tup []) hq2
      refine ⟨_, _, h1.same s1, .tup (SqT.of upd_same) .nil, nm_shaped ok.2, rfl, ?_⟩
      rw [nm_ne ok.1]
      refine ⟨_, rfl, iteS rfl ?_⟩
      exact ⟨_, rfl, x, ks, rfl, h1.same s1, ok.2, fun H' s' => k _ (s1.trans s')⟩
    case raise t =>
      have ok : okN1 t := ok
      obtain ⟨x, rfl, h1⟩ := DpAll.one hd
      rw [h1.strInv] at hq
      repeat (first | refine case_len hq (Nat.ne_of_beq_eq_false rfl) ?_ | refine case_word hq rfl (by decide +kernel) ?_)
      refine case_hit hq rfl ⟨_, _, rfl, ?_⟩
      refine ⟨_, rfl, _, rfl, .inl ⟨t, rfl, Nat.le_trans ok.2 (by decide), ?_⟩⟩
      rw [ok.1]
      exact k _ (Same.refl _)
    case ret e =>
      have ok : okEx e := ok
      obtain ⟨x, rfl, h1⟩ := DpAll.one hd
      repeat (first | refine case_len hq (Nat.ne_of_beq_eq_false rfl) ?_ | refine case_word hq rfl (by decide +kernel) ?_)
      refine case_hit hq rfl ⟨_, _, rfl, ?_⟩
      exact ⟨_, rfl, x, e, rfl, h1, ok, k⟩
    all_goals exact sm.elim
end

/-! ### is_block, is_handler, is_statement -/
abbrev sIsBlk : Stmt := topS 43
abbrev NIsBlk : List Str := ["value", "depth", "one"]
abbrev PIsBlk : List Str := ["value", "depth"]
theorem scIsBlk : FnScope NIsBlk PIsBlk (defScope sIsBlk) := ⟨rfl, rfl, rfl, by decide +kernel, rfl, by decide +kernel, by decide +kernel⟩
abbrev sIsHnd : Stmt := topS 44
abbrev NIsHnd : List Str := ["value", "depth"]
abbrev PIsHnd : List Str := ["value", "depth"]
theorem scIsHnd : FnScope NIsHnd PIsHnd (defScope sIsHnd) := ⟨rfl, rfl, rfl, by decide +kernel, rfl, by decide +kernel, by decide +kernel⟩
abbrev sIsSta : Stmt := topS 46
abbrev NIsSta : List Str := ["value", "depth", "first", "second", "block", "handlers", "final", "one", "names", "enter", "leave", "kinds"]
abbrev PIsSta : List Str := ["value", "depth"]
theorem scIsSta : FnScope NIsSta PIsSta (defScope sIsSta) := ⟨rfl, rfl, rfl, by decide +kernel, rfl, by decide +kernel, by decide +kernel⟩
def spIsBlk (K : PySem.W.Frag) (n : Nat) : Sp := fun vs H Q _ => ∃ (v : V) (b : List St) (d : Nat), vs = [v, .int (d : Int)] ∧ Dp K H v (blD b) ∧ dpB b ≤ n ∧ dpB b ≤ d ∧ okB b ∧ ∀ H', Same H H' → Q (.bl true) H'
def spIsHnd (K : PySem.W.Frag) (n : Nat) : Sp := fun vs H Q _ => ∃ (v : V) (h : Hd) (d : Nat), vs = [v, .int (d : Int)] ∧ Dp K H v (hdD h) ∧ dpH h ≤ n ∧ dpH h ≤ d ∧ okH h ∧ ∀ H', Same H H' → Q (.bl true) H'
def spIsSta (K : PySem.W.Frag) (n : Nat) : Sp := fun vs H Q _ => ∃ (v : V) (s : St) (d : Nat), vs = [v, .int ((d + 1 : Nat) : Int)] ∧ Dp K H v (stD s) ∧ dpS s ≤ n ∧ dpS s ≤ d ∧ okS s ∧ ∀ H', Same H H' → Q (.bl true) H'
section
variable {P : Program} {w : World} {K : PySem.W.Frag} {mg : Str → Option Value} {base : Heap}
theorem ok_IsBlk {n : Nat} {f : Addr} {fd : FuncData} (F : Fun K "is_block" "is_block" sIsBlk f fd) (T : TxShape mg) (GS : Has P w K mg base CX0 (7 + 3 * n) "is_statement" PIsSta (spIsSta K n)) : FnOk P w K mg base CX0 (7 + 3 * n + 1) f fd PIsBlk (spIsBlk K (n + 1)) := by
  refine F.ok scIsBlk (fun vs H Q E h => ?_) (fun cdv A outer s H vs Q E hr h => ?_)
  · obtain ⟨v, b, d, rfl, _⟩ := h
    rfl
  · obtain ⟨v, b, d, rfl, hv, hn, hd0, ok, k⟩ := h
    refine ⟨_, (pss_one (ps_ret (pe_and (pe_cmpR op_gt (pv 1) pe_int (nomark _)) (pe_and (pe_callB call_isi (by rfl) T.n_isinstance bb_isinstance (pa_cons (pv 0) (pa_cons (pe_bltn (v := .ty "tuple") (by rfl) T.n_tuple bb_tuple rfl) pa_nil))) (pe_one (pe_callB (cr_all rfl) (by rfl) T.n_all bb_all (pa_cons (pe_lc (own := [("one", 2)]) (g := gName 2) (tt := tYes) rfl scIsBlk.nd (pi_tup (pv 0)) (blkOk_by (own := [("one", 2)]) (N := NIsBlk) (sc := (defScope sIsBlk)) (by decide +kernel)) (fun _ _ _ _ _ => (pg_name (i := 2) scIsBlk.nd rfl (Or.inl rfl))) (fun _ _ _ _ _ => pts_nil) (fun _ _ _ _ _ => (pe_callH GS hr rfl pass0 (pa_cons (pv 2) (pa_cons (pv 1) pa_nil))))) pa_nil))))))), ?_⟩
    obtain ⟨a, xs, rfl, hq, hd⟩ := hv.tupInv
    rw [stsD_map] at hd
    have pb := hd.map
    have lx : xs.length = b.length := Paired.length pb
    have ok1 : b.length ≤ 900 := ok.1
    have e1 := dpB_eq b
    obtain ⟨d, rfl⟩ : ∃ e, d = e + 1 := ⟨d - 1, by omega⟩
    refine ⟨_, rfl, _, _, rfl, rfl, _, rfl, iteS (decide_eq_true (by omega)) ?_⟩
    refine ⟨_, rfl, _, _, _, _, _, rfl, .ty _, ty_tup hq, kit_ty (r := true) (by decide +kernel), _, rfl, iteS rfl ?_⟩
    refine ⟨_, rfl, a, rfl, ⟨_, hq⟩, fun D hD => ?_⟩
    refine lc_tup (K := K) (a := a) (xs := xs) (fun i H' => Same H H' ∧ H' D = some (.lst ((List.replicate i true).map V.bl))) ⟨same_new hD, upd_same⟩ (fun i H' _ h' => SqT.same h'.1 hq) ?_ ?_
    · rintro i v H1 hz ⟨s1, e1⟩
      obtain ⟨z, hza, hzd⟩ := Paired.at pb hz
      have hi : i < xs.length := (List.getElem?_eq_some_iff.mp hz).1
      have ms := List.mem_of_getElem? hza
      have := dp_mem ms
      refine ⟨rfl, _, rfl, _, rfl, v, z, d, rfl, hzd.same s1, by omega, by omega, okL_mem ok.2 ms, fun H2 s2 => ?_⟩
      refine ⟨_, s2 _ _ e1, small1000 (by rw [List.length_map, List.length_replicate]; omega), fun c o e => ?_, ?_⟩
      · rw [upd_ne (ne_of_none e hD)]
        exact s2 _ _ (s1 _ _ e)
      · rw [upd_same, List.replicate_succ', List.map_append]
        rfl
    · rintro H1 ⟨s1, e1⟩
      refine ⟨D, _, rfl, SqL.of e1, ?_⟩
      rw [show (List.replicate xs.length true).all id = true by rw [List.all_replicate]; split <;> rfl]
      exact k _ s1
theorem ok_IsHnd {n : Nat} {f : Addr} {fd : FuncData} (F : Fun K "is_handler" "is_handler" sIsHnd f fd) (GP : Has P w K mg base CX0 1 "is_pair" PIsPair (spIsPair K)) (GR : Has P w K mg base CX0 2 "is_row_of_names" PRowN (spRowN K)) (GB : Has P w K mg base CX0 (5 + 3 * n) "is_block" PIsBlk (spIsBlk K n)) : FnOk P w K mg base CX0 (5 + 3 * n + 1) f fd PIsHnd (spIsHnd K n) := by
  refine F.ok scIsHnd (fun vs H Q E h => ?_) (fun cdv A outer s H vs Q E hr h => ?_)
  · obtain ⟨v, b, d, rfl, _⟩ := h
    rfl
  · obtain ⟨v, hd, d, rfl, hv, hn, hd0, ok, k⟩ := h
    have hr1 := hr.mono (j := 1) (by omega)
    have hr2 := hr.mono (j := 2) (by omega)
    refine ⟨_, (pss_one (ps_ret (pe_and (pe_callH GP hr1 rfl pass0 (pa_cons (pv 0) pa_nil)) (pe_and (pe_cmpR (op_neD hr.units) (pe_ix (r := rIxT K) ix_tup (pv 0) pe_int (fun _ _ => rfl)) (pe_tup pa_nil) (nomark _)) (pe_and (pe_callH GR hr2 rfl pass0 (pa_cons (pe_ix (r := rIxT K) ix_tup (pv 0) pe_int (fun _ _ => rfl)) pa_nil)) (pe_one (pe_callH GB hr rfl pass0 (pa_cons (pe_ix (r := rIxT K) ix_tup (pv 0) pe_int (fun _ _ => rfl)) (pa_cons (pv 1) pa_nil))))))))), ?_⟩
    cases hd with
    | mk ks b =>
      have ok : (ks ≠ [] ∧ okNs ks) ∧ (b.length ≤ 900 ∧ okL b) := ok
      have hv : Dp K H v (.tuple [nmD ks, blD b]) := hv
      obtain ⟨a, xs, rfl, hq, hdd⟩ := hv.tupInv
      obtain ⟨x, y, rfl, h1, h2⟩ := hdd.two
      refine ⟨_, rfl, a, _, rfl, hq, _, rfl, iteS rfl ?_⟩
      refine ⟨_, rfl, a, _, _, _, rfl, rfl, hq, rfl, (by show 0 ≤ sizeLine; decide), fun q hq2 => ?_⟩
      have s1 := same_new (o := .tup []) hq2
      refine ⟨_, _, h1.same s1, .tup (SqT.of upd_same) .nil, nm_shaped ok.1.2, rfl, ?_⟩
      rw [nm_ne ok.1.1]
      refine ⟨_, rfl, iteS rfl ?_⟩
      refine ⟨_, rfl, a, _, _, _, rfl, rfl, SqT.same s1 hq, rfl, x, ks, rfl, h1.same s1, ok.1.2, fun H2 s2 => ?_⟩
      refine ⟨_, rfl, iteS rfl ?_⟩
      have s3 := s1.trans s2
      exact ⟨_, rfl, a, _, _, _, rfl, rfl, SqT.same s3 hq, rfl, _, rfl, y, b, d, rfl, h2.same s3, hn, hd0, ok.2, fun H3 s4 => k _ (s3.trans s4)⟩
end

/-! ### is_statement -/
theorem dpH_mem : ∀ {hs : List Hd} {h : Hd}, h ∈ hs → dpH h ≤ dpHs hs
  | x :: r, h, hm => by
    show _ ≤ max _ _
    rcases List.mem_cons.mp hm with z | z
    · rw [z]; exact Nat.le_max_left _ _
    · exact Nat.le_trans (dpH_mem z) (Nat.le_max_right _ _)
section
variable {P : Program} {w : World} {K : PySem.W.Frag} {mg : Str → Option Value} {base : Heap}
theorem ok_IsSta {n : Nat} {f : Addr} {fd : FuncData} (F : Fun K "is_statement" "is_statement" sIsSta f fd) (T : TxShape mg) (GM : Has P w K mg base CX0 5 "is_simple" PIsSim (spIsSim K)) (GC : Has P w K mg base CX0 4 "is_call" PIsCal (spIsCal K)) (GR : Has P w K mg base CX0 2 "is_row_of_names" PRowN (spRowN K)) (GB : Has P w K mg base CX0 (5 + 3 * n) "is_block" PIsBlk (spIsBlk K n)) (GH : Has P w K mg base CX0 (6 + 3 * n) "is_handler" PIsHnd (spIsHnd K n)) : FnOk P w K mg base CX0 (6 + 3 * n + 1) f fd PIsSta (spIsSta K n) := by
  refine F.ok scIsSta (fun vs H Q E h => ?_) (fun cdv A outer s H vs Q E hr h => ?_)
  · obtain ⟨v, b, d, rfl, _⟩ := h
    rfl
  · obtain ⟨v, st, d, rfl, hv, hn, hd0, ok, k⟩ := h
    have hr2 := hr.mono (j := 2) (by omega)
    have hr4 := hr.mono (j := 4) (by omega)
    have hr5 := hr.mono (j := 5) (by omega)
    have hrb := hr.mono (j := 5 + 3 * n) (by omega)
    refine ⟨_, (pss_cons (ps_if (PW.pt (pw_or (pt_not (pt_val (pe_callB call_isi (by rfl) T.n_isinstance bb_isinstance (pa_cons (pv 0) (pa_cons (pe_bltn (v := .ty "tuple") (by rfl) T.n_tuple bb_tuple rfl) pa_nil))))) (pw_or (pt_cmpR (op_eqE hr.units0) (pv 0) (pe_tup pa_nil) (nomark _)) (pw_or1 (pt_not (pt_val (pe_callB call_isi (by rfl) T.n_isinstance bb_isinstance (pa_cons (pe_ix (r := rIxT K) ix_tup (pv 0) pe_int (fun _ _ => rfl)) (pa_cons (pe_bltn (v := .ty "str") (by rfl) T.n_str bb_str rfl) pa_nil)))))))))
  (pss_one (ps_ret pe_bl))
  pss_nil)
  (pss_one (ps_match (pv 0) (pcs_cons scIsSta.nd (pm_seq rfl (pms_cons pm_str (pms_cons (pm_as (i := 2) rfl (Or.inl rfl)) (pms_cons (pm_as (i := 3) rfl (Or.inl rfl)) pms_nil))))
  (pss_one (ps_ret (pe_and (pe_callH GB hrb rfl pass0 (pa_cons (pv 2) (pa_cons (pe_op op_sub (pv 1) pe_int) pa_nil))) (pe_one (pe_callH GB hrb rfl pass0 (pa_cons (pv 3) (pa_cons (pe_op op_sub (pv 1) pe_int) pa_nil)))))))
  (pcs_cons scIsSta.nd (pm_seq rfl (pms_cons pm_str (pms_cons (pm_as (i := 4) rfl (Or.inl rfl)) pms_nil)))
  (pss_one (ps_ret (pe_callH GB hrb rfl pass0 (pa_cons (pv 4) (pa_cons (pe_op op_sub (pv 1) pe_int) pa_nil)))))
  (pcs_cons scIsSta.nd (pm_seq rfl (pms_cons pm_str (pms_cons (pm_as (i := 4) rfl (Or.inl rfl)) (pms_cons (pm_as (i := 5) rfl (Or.inl rfl)) (pms_cons (pm_as (i := 6) rfl (Or.inl rfl)) pms_nil)))))
  (pss_cons (ps_if (PW.pt (pw_or (pt_not (pt_val (pe_callB call_isi (by rfl) T.n_isinstance bb_isinstance (pa_cons (pv 5) (pa_cons (pe_bltn (v := .ty "tuple") (by rfl) T.n_tuple bb_tuple rfl) pa_nil))))) (pw_or (pt_not (pt_val (pe_callH GB hrb rfl pass0 (pa_cons (pv 4) (pa_cons (pe_op op_sub (pv 1) pe_int) pa_nil))))) (pw_or1 (pt_not (pt_val (pe_callH GB hrb rfl pass0 (pa_cons (pv 6) (pa_cons (pe_op op_sub (pv 1) pe_int) pa_nil)))))))))
  (pss_one (ps_ret pe_bl))
  pss_nil)
  (pss_one (ps_ret (pe_callB (cr_all rfl) (by rfl) T.n_all bb_all (pa_cons (pe_lc (own := [("one", 7)]) (g := gName 7) (tt := tYes) rfl scIsSta.nd (pi_tup (pv 5)) (blkOk_by (own := [("one", 7)]) (N := NIsSta) (sc := (defScope sIsSta)) (by decide +kernel)) (fun _ _ _ _ _ => (pg_name (i := 7) scIsSta.nd rfl (Or.inl rfl))) (fun _ _ _ _ _ => pts_nil) (fun _ _ _ _ _ => (pe_callH GH hr rfl pass0 (pa_cons (pv 7) (pa_cons (pe_op op_sub (pv 1) pe_int) pa_nil))))) pa_nil)))))
  (pcs_cons scIsSta.nd (pm_seq rfl (pms_cons pm_str (pms_cons (pm_as (i := 8) rfl (Or.inl rfl)) (pms_cons (pm_as (i := 4) rfl (Or.inl rfl)) pms_nil))))
  (pss_one (ps_ret (pe_and (pe_cmpR (op_neD hr.units) (pv 8) (pe_tup pa_nil) (nomark _)) (pe_and (pe_callH GR hr2 rfl pass0 (pa_cons (pv 8) pa_nil)) (pe_one (pe_callH GB hrb rfl pass0 (pa_cons (pv 4) (pa_cons (pe_op op_sub (pv 1) pe_int) pa_nil))))))))
  (pcs_cons scIsSta.nd (pm_seq rfl (pms_cons pm_str (pms_cons (pm_as (i := 9) rfl (Or.inl rfl)) (pms_cons (pm_as (i := 10) rfl (Or.inl rfl)) (pms_cons (pm_as (i := 11) rfl (Or.inl rfl)) (pms_cons (pm_as (i := 4) rfl (Or.inl rfl)) pms_nil))))))
  (pss_one (ps_ret (pe_and (pe_callH GC hr4 rfl pass0 (pa_cons (pv 9) pa_nil)) (pe_and (pe_callH GC hr4 rfl pass0 (pa_cons (pv 10) pa_nil)) (pe_and (pe_callH GR hr2 rfl pass0 (pa_cons (pv 11) pa_nil)) (pe_one (pe_callH GB hrb rfl pass0 (pa_cons (pv 4) (pa_cons (pe_op op_sub (pv 1) pe_int) pa_nil)))))))))
  (pcs_cons scIsSta.nd pm_wild
  (pss_one (ps_ret (pe_callH GM hr5 rfl pass0 (pa_cons (pv 0) pa_nil))))
  pcs_nil))))))))), ?_⟩
    have hv0 := hv
    obtain ⟨a, xs, rfl, hq, hd⟩ := stInv hv
    refine ⟨_, rfl, _, _, _, _, _, rfl, .ty _, ty_tup hq, kit_ty (r := true) (by decide +kernel), _, rfl, iteE rfl ?_⟩
    refine ⟨_, rfl, (by show 0 ≤ sizeLine; decide), fun q hq2 => ?_⟩
    have s1 := same_new (o := .tup []) hq2
    refine ⟨a, q, _, rfl, rfl, SqT.same s1 hq, SqT.of upd_same, _, rfl, iteE rfl ?_⟩
    refine ⟨_, rfl, a, _, _, _, rfl, rfl, SqT.same s1 hq, atI_nat (j := 0) rfl, _, _, _, _, _, rfl, .ty _, .base (.str _), kit_ty (r := true) (by decide +kernel), _, rfl, iteE rfl ?_⟩
    have hq3 := SqT.same s1 hq
    have hd3 : DpAll K (upd H q (.tup [])) xs (restS st) := DpAll.same s1 hd
    have hv3 := hv0.same s1
    have k3 : ∀ H', Same (upd H q (.tup [])) H' → Q (.bl true) H' := fun H' s' => k _ (s1.trans s')
    clear hq hd hv0 hv k
    generalize upd H q (.tup []) = H1 at hq3 hd3 hv3 k3 ⊢
    refine ⟨_, rfl, ?_⟩
    have em : (((d + 1 : Nat) : Int)) - 1 = ((d : Nat) : Int) := by omega
    cases st <;> simp only [wordS] at hq3
    all_goals try have em2 : ∀ x : V, [x, V.int ((((d + 1 : Nat) : Int)) - 1)] = [x, V.int (d : Int)] := fun x => by rw [em]
    case ite p q =>
      have ok : (p.length ≤ 900 ∧ okL p) ∧ (q.length ≤ 900 ∧ okL q) := ok
      have hn : max (dpB p) (dpB q) ≤ n := hn
      have hd0 : max (dpB p) (dpB q) ≤ d := hd0
      obtain ⟨x, y, rfl, h1, h2⟩ := DpAll.two hd3
      refine case_hit hq3 rfl ⟨_, _, rfl, _, _, rfl, ?_⟩
      refine ⟨_, rfl, _, rfl, _, _, rfl, rfl, x, p, d, em2 x, h1, by omega, by omega, ok.1, fun H2 s2 => ?_⟩
      refine ⟨_, rfl, iteS rfl ?_⟩
      exact ⟨_, rfl, _, rfl, _, _, rfl, rfl, y, q, d, em2 y, h2.same s2, by omega, by omega, ok.2, fun H3 s3 => k3 _ (s2.trans s3)⟩
    case whl p =>
      have ok : p.length ≤ 900 ∧ okL p := ok
      have hn : dpB p ≤ n := hn
      have hd0 : dpB p ≤ d := hd0
      obtain ⟨x, rfl, h1⟩ := DpAll.one hd3
      refine case_len hq3 (Nat.ne_of_beq_eq_false rfl) ?_
      refine case_hit hq3 rfl ⟨_, _, rfl, ?_⟩
      exact ⟨_, rfl, _, rfl, _, _, rfl, rfl, x, p, d, em2 x, h1, by omega, by omega, ok, k3⟩
    case undo ns p =>
      have ok : (ns ≠ [] ∧ okNs ns) ∧ (p.length ≤ 900 ∧ okL p) := ok
      have hn : dpB p ≤ n := hn
      have hd0 : dpB p ≤ d := hd0
      obtain ⟨x, y, rfl, h1, h2⟩ := DpAll.two hd3
      repeat (first | refine case_len hq3 (Nat.ne_of_beq_eq_false rfl) ?_ | refine case_word hq3 rfl (by decide +kernel) ?_)
      refine case_hit hq3 rfl ⟨_, _, rfl, _, _, rfl, ?_⟩
      refine ⟨_, rfl, (by show 0 ≤ sizeLine; decide), fun q hq2 => ?_⟩
      have s1 := same_new (o := .tup []) hq2
      refine ⟨_, _, h1.same s1, .tup (SqT.of upd_same) .nil, nm_shaped ok.1.2, rfl, ?_⟩
      rw [nm_ne ok.1.1]
      refine ⟨_, rfl, iteS rfl ?_⟩
      refine ⟨_, rfl, x, ns, rfl, h1.same s1, ok.1.2, fun H2 s2 => ?_⟩
      have s3 := s1.trans s2
      refine ⟨_, rfl, iteS rfl ?_⟩
      exact ⟨_, rfl, _, rfl, _, _, rfl, rfl, y, p, d, em2 y, h2.same s3, by omega, by omega, ok.2, fun H3 s4 => k3 _ (s3.trans s4)⟩
    case with_ e l ks p =>
      have ok : (okCal e ∧ okCal l ∧ okNs ks) ∧ (p.length ≤ 900 ∧ okL p) := ok
      have hn : dpB p ≤ n := hn
      have hd0 : dpB p ≤ d := hd0
      obtain ⟨x, y, z, u, rfl, h1, h2, h3, h4⟩ := DpAll.four hd3
      repeat (first | refine case_len hq3 (Nat.ne_of_beq_eq_false rfl) ?_ | refine case_word hq3 rfl (by decide +kernel) ?_)
      refine case_hit hq3 rfl ⟨_, _, rfl, _, _, rfl, _, _, rfl, _, _, rfl, ?_⟩
      refine ⟨_, rfl, x, e, rfl, h1, ok.1.1, fun H2 s2 => ?_⟩
      refine ⟨_, rfl, iteS rfl ?_⟩
      refine ⟨_, rfl, y, l, rfl, h2.same s2, ok.1.2.1, fun H3 s3 => ?_⟩
      have s4 := s2.trans s3
      refine ⟨_, rfl, iteS rfl ?_⟩
      refine ⟨_, rfl, z, ks, rfl, h3.same s4, ok.1.2.2, fun H4 s5 => ?_⟩
      have s6 := s4.trans s5
      refine ⟨_, rfl, iteS rfl ?_⟩
      exact ⟨_, rfl, _, rfl, _, _, rfl, rfl, u, p, d, em2 u, h4.same s6, by omega, by omega, ok.2, fun H3 s7 => k3 _ (s6.trans s7)⟩
    case try_ p hs q =>
      have ok : (p.length ≤ 900 ∧ okL p) ∧ (hs.length ≤ 900 ∧ okHs hs) ∧ (q.length ≤ 900 ∧ okL q) := ok
      have hn : max (dpB p) (max (dpHs hs) (dpB q)) ≤ n := hn
      have hd0 : max (dpB p) (max (dpHs hs) (dpB q)) ≤ d := hd0
      obtain ⟨x, y, z, rfl, h1, h2, h3⟩ := DpAll.three hd3
      repeat (first | refine case_len hq3 (Nat.ne_of_beq_eq_false rfl) ?_ | refine case_word hq3 rfl (by decide +kernel) ?_)
      refine case_hit hq3 rfl ⟨_, _, rfl, _, _, rfl, _, _, rfl, ?_⟩
      obtain ⟨b, ys, rfl, hb, hdb⟩ := h2.tupInv
      rw [hdsD_map] at hdb
      have ph := hdb.map
      have lh : ys.length = hs.length := Paired.length ph
      refine ⟨_, rfl, _, _, _, _, _, rfl, .ty _, ty_tup hb, kit_ty (r := true) (by decide +kernel), _, rfl, iteE rfl ?_⟩
      refine ⟨_, rfl, _, rfl, _, _, rfl, rfl, x, p, d, em2 x, h1, by omega, by omega, ok.1, fun H2 s2 => ?_⟩
      refine ⟨_, rfl, iteE rfl ?_⟩
      refine ⟨_, rfl, _, rfl, _, _, rfl, rfl, z, q, d, em2 z, h3.same s2, by omega, by omega, ok.2.2, fun H3 s3 => ?_⟩
      have s4 := s2.trans s3
      refine ⟨_, rfl, iteE rfl ?_⟩
      refine ⟨_, rfl, b, rfl, ⟨_, SqT.same s4 hb⟩, fun D hD => ?_⟩
      refine lc_tup (K := K) (a := b) (xs := ys) (fun i H' => Same H3 H' ∧ H' D = some (.lst ((List.replicate i true).map V.bl))) ⟨same_new hD, upd_same⟩ (fun i H' _ h' => SqT.same (s4.trans h'.1) hb) ?_ ?_
      · rintro i v H4 hz ⟨s5, e1⟩
        obtain ⟨hd, hza, hzd⟩ := Paired.at ph hz
        have hi : i < ys.length := (List.getElem?_eq_some_iff.mp hz).1
        have mh := List.mem_of_getElem? hza
        have dh : dpH hd ≤ dpHs hs := dpH_mem mh
        refine ⟨rfl, _, rfl, _, rfl, _, _, rfl, rfl, v, hd, d, em2 v, hzd.same (s4.trans s5), by omega, by omega, okHs_mem ok.2.1.2 mh, fun H5 s6 => ?_⟩
        refine ⟨_, s6 _ _ e1, small1000 (by rw [List.length_map, List.length_replicate]; omega), fun c o e => ?_, ?_⟩
        · rw [upd_ne (ne_of_none e hD)]
          exact s6 _ _ (s5 _ _ e)
        · rw [upd_same, List.replicate_succ', List.map_append]
          rfl
      · rintro H4 ⟨s5, e1⟩
        refine ⟨D, _, rfl, SqL.of e1, ?_⟩
        rw [show (List.replicate ys.length true).all id = true by rw [List.all_replicate]; split <;> rfl]
        exact k3 _ (s4.trans s5)
    all_goals
      first
        | obtain ⟨_, rfl, _⟩ := DpAll.one hd3
        | obtain ⟨_, _, rfl, _, _⟩ := DpAll.two hd3
        | obtain ⟨_, _, _, rfl, _⟩ := DpAll.three hd3
      repeat (first | refine case_len hq3 (Nat.ne_of_beq_eq_false rfl) ?_ | refine case_word hq3 rfl (by decide +kernel) ?_)
      exact ⟨_, rfl, _, _, rfl, hv3, ok, trivial, k3⟩
end

/-! ### is_block at every depth, is_param, is_function, is_tree -/
structure Fn where
  name : Str
  ps : List (Str × Bool)
  b : List St
structure Tr where
  names : List Str
  kinds : List Str
  keeps : List Ex
  fns : List Fn
def prD (p : Str × Bool) : PyData := .tuple [.str p.1, .bool p.2]
def fnD (f : Fn) : PyData := .tuple [.str f.name, .tuple (f.ps.map prD), blD f.b]
def trD (t : Tr) : PyData := .tuple [nmD t.names, nmD t.kinds, .tuple (t.keeps.map exD), .tuple (t.fns.map fnD)]
def okFn (n : Nat) (f : Fn) : Prop := okN1 f.name ∧ (f.ps.length ≤ 900 ∧ ∀ p ∈ f.ps, okN1 p.1) ∧ okB f.b ∧ dpB f.b ≤ n ∧ dpB f.b ≤ 30
def okTr (n : Nat) (t : Tr) : Prop := okNs t.names ∧ okNs t.kinds ∧ (t.keeps.length ≤ 900 ∧ ∀ e ∈ t.keeps, okEx e ∧ e.c = 0) ∧ t.fns.length ≤ 900 ∧ ∀ f ∈ t.fns, okFn n f
abbrev sIsPar : Stmt := topS 47
abbrev NIsPar : List Str := ["value"]
abbrev PIsPar : List Str := ["value"]
theorem scIsPar : FnScope NIsPar PIsPar (defScope sIsPar) := ⟨rfl, rfl, rfl, by decide +kernel, rfl, by decide +kernel, by decide +kernel⟩
abbrev sIsFun : Stmt := topS 48
abbrev NIsFun : List Str := ["value", "one"]
abbrev PIsFun : List Str := ["value"]
theorem scIsFun : FnScope NIsFun PIsFun (defScope sIsFun) := ⟨rfl, rfl, rfl, by decide +kernel, rfl, by decide +kernel, by decide +kernel⟩
abbrev sIsTree : Stmt := topS 49
abbrev NIsTree : List Str := ["value", "names", "kinds", "keeps", "functions", "one"]
abbrev PIsTree : List Str := ["value"]
theorem scIsTree : FnScope NIsTree PIsTree (defScope sIsTree) := ⟨rfl, rfl, rfl, by decide +kernel, rfl, by decide +kernel, by decide +kernel⟩
def spIsPar (K : PySem.W.Frag) : Sp := fun vs H Q _ => ∃ (v : V) (p : Str × Bool), vs = [v] ∧ Dp K H v (prD p) ∧ okN1 p.1 ∧ ∀ H', Same H H' → Q (.bl true) H'
def spIsFun (K : PySem.W.Frag) (n : Nat) : Sp := fun vs H Q _ => ∃ (v : V) (p : Fn), vs = [v] ∧ Dp K H v (fnD p) ∧ okFn n p ∧ ∀ H', Same H H' → Q (.bl true) H'
def spIsTree (K : PySem.W.Frag) (n : Nat) : Sp := fun vs H Q _ => ∃ (v : V) (p : Tr), vs = [v] ∧ Dp K H v (trD p) ∧ okTr n p ∧ ∀ H', Same H H' → Q (.bl true) H'
theorem Dp.blInv {K : PySem.W.Frag} {H : Hp} {v : V} {z : Bool} (h : Dp K H v (.bool z)) : v = .bl z := by cases h; rfl
section
variable {P : Program} {w : World} {K : PySem.W.Frag} {mg : Str → Option Value} {base : Heap}
theorem ok_blocks {fb fh fs : Addr} {db dh ds : FuncData} (FB : Fun K "is_block" "is_block" sIsBlk fb db) (FH : Fun K "is_handler" "is_handler" sIsHnd fh dh) (FS : Fun K "is_statement" "is_statement" sIsSta fs ds) (T : TxShape mg)
    (mb : mg "is_block" = some (.ref fb)) (kb : PySem.W.keepIn K (.ref fb) = true) (bb : Binds K db PIsBlk [])
    (mh : mg "is_handler" = some (.ref fh)) (kh : PySem.W.keepIn K (.ref fh) = true) (bh : Binds K dh PIsHnd [])
    (ms : mg "is_statement" = some (.ref fs)) (ks : PySem.W.keepIn K (.ref fs) = true) (bs : Binds K ds PIsSta [])
    (GP : Has P w K mg base CX0 1 "is_pair" PIsPair (spIsPair K)) (GM : Has P w K mg base CX0 5 "is_simple" PIsSim (spIsSim K)) (GC : Has P w K mg base CX0 4 "is_call" PIsCal (spIsCal K)) (GR : Has P w K mg base CX0 2 "is_row_of_names" PRowN (spRowN K)) : ∀ n, FnOk P w K mg base CX0 (5 + 3 * n) fb db PIsBlk (spIsBlk K n) := by
  intro n
  induction n with
  | zero => exact ⟨fun vs H Q E h => by obtain ⟨_, _, _, _, _, h, _⟩ := h; exact (no_dp h).elim, fun _ _ _ _ _ _ _ _ _ _ _ _ _ h => by obtain ⟨_, _, _, _, _, h, _⟩ := h; exact (no_dp h).elim⟩
  | succ n ih =>
    have GB : Has P w K mg base CX0 (5 + 3 * n) "is_block" PIsBlk (spIsBlk K n) := ⟨fb, db, ih, mb, kb, bb⟩
    have GH : Has P w K mg base CX0 (5 + 3 * n + 1) "is_handler" PIsHnd (spIsHnd K n) := ⟨fh, dh, ok_IsHnd FH GP GR GB, mh, kh, bh⟩
    rw [show 5 + 3 * n + 1 = 6 + 3 * n by omega] at GH
    have GS : Has P w K mg base CX0 (6 + 3 * n + 1) "is_statement" PIsSta (spIsSta K n) := ⟨fs, ds, ok_IsSta FS T GM GC GR GB GH, ms, ks, bs⟩
    rw [show 6 + 3 * n + 1 = 7 + 3 * n by omega] at GS
    have r := ok_IsBlk FB T GS
    rw [show 7 + 3 * n + 1 = 5 + 3 * (n + 1) by omega] at r
    exact r
theorem ok_IsPar {f : Addr} {fd : FuncData} (F : Fun K "is_param" "is_param" sIsPar f fd) (T : TxShape mg) (GN : Has P w K mg base CX0 1 "is_name" PIsName (spName K)) (GP : Has P w K mg base CX0 1 "is_pair" PIsPair (spIsPair K)) : FnOk P w K mg base CX0 2 f fd PIsPar (spIsPar K) := by
  refine F.ok scIsPar (fun vs H Q E h => ?_) (fun cdv A outer s H vs Q E hr h => ?_)
  · obtain ⟨v, e, rfl, _⟩ := h
    rfl
  · obtain ⟨v, p, rfl, hv, ok, k⟩ := h
    refine ⟨_, (pss_one (ps_ret (pe_and (pe_callH GP hr rfl pass0 (pa_cons (pv 0) pa_nil)) (pe_and (pe_callH GN hr rfl pass0 (pa_cons (pe_ix (r := rIxT K) ix_tup (pv 0) pe_int (fun _ _ => rfl)) pa_nil)) (pe_one (pe_callB call_isi (by rfl) T.n_isinstance bb_isinstance (pa_cons (pe_ix (r := rIxT K) ix_tup (pv 0) pe_int (fun _ _ => rfl)) (pa_cons (pe_bltn (v := .ty "bool") (by rfl) T.n_bool bb_bool rfl) pa_nil)))))))), ?_⟩
    have hv : Dp K H v (.tuple [.str p.1, .bool p.2]) := hv
    obtain ⟨a, xs, rfl, hq, hd⟩ := hv.tupInv
    obtain ⟨x, y, rfl, hx, hy⟩ := hd.two
    rw [hx.strInv, Dp.blInv hy] at hq
    refine ⟨_, rfl, a, _, rfl, hq, _, rfl, iteS rfl ?_⟩
    refine ⟨_, rfl, a, _, _, _, rfl, rfl, hq, rfl, _, rfl, .inl ⟨_, rfl, Nat.le_trans ok.2 (by decide), ?_⟩⟩
    rw [ok.1]
    refine ⟨_, rfl, iteS rfl ?_⟩
    refine ⟨_, rfl, a, _, _, _, rfl, rfl, hq, rfl, _, _, _, _, _, rfl, .ty _, .base (.bl _), kit_ty (r := true) (by decide +kernel), ?_⟩
    exact k _ (Same.refl _)
theorem ok_IsFun {n : Nat} {f : Addr} {fd : FuncData} (F : Fun K "is_function" "is_function" sIsFun f fd) (T : TxShape mg) (cD : ∃ u, mg "DEEPEST" = some u ∧ RelV (.int 30) u) (GN : Has P w K mg base CX0 1 "is_name" PIsName (spName K)) (GP : Has P w K mg base CX0 2 "is_param" PIsPar (spIsPar K)) (GB : Has P w K mg base CX0 (5 + 3 * n) "is_block" PIsBlk (spIsBlk K n)) : FnOk P w K mg base CX0 (5 + 3 * n + 1) f fd PIsFun (spIsFun K n) := by
  refine F.ok scIsFun (fun vs H Q E h => ?_) (fun cdv A outer s H vs Q E hr h => ?_)
  · obtain ⟨v, e, rfl, _⟩ := h
    rfl
  · obtain ⟨v, p, rfl, hv, ok, k⟩ := h
    have hr1 := hr.mono (j := 1) (by omega)
    have hr2 := hr.mono (j := 2) (by omega)
    refine ⟨_, (pss_cons (ps_if (PW.pt (pw_or (pt_not (pt_val (pe_callB call_isi (by rfl) T.n_isinstance bb_isinstance (pa_cons (pv 0) (pa_cons (pe_bltn (v := .ty "tuple") (by rfl) T.n_tuple bb_tuple rfl) pa_nil))))) (pw_or (pt_cmpR op_ne (pe_callB call_len_seq (by rfl) T.n_len bb_len (pa_cons (pv 0) pa_nil)) pe_int (nomark _)) (pw_or (pt_not (pt_val (pe_callH GN hr1 rfl pass0 (pa_cons (pe_ix (r := rIxT K) ix_tup (pv 0) pe_int (fun _ _ => rfl)) pa_nil)))) (pw_or1 (pt_not (pt_val (pe_callB call_isi (by rfl) T.n_isinstance bb_isinstance (pa_cons (pe_ix (r := rIxT K) ix_tup (pv 0) pe_int (fun _ _ => rfl)) (pa_cons (pe_bltn (v := .ty "tuple") (by rfl) T.n_tuple bb_tuple rfl) pa_nil))))))))))
  (pss_one (ps_ret pe_bl))
  pss_nil)
  (pss_one (ps_ret (pe_and (pe_callB (cr_all rfl) (by rfl) T.n_all bb_all (pa_cons (pe_lc (own := [("one", 1)]) (g := gName 1) (tt := tYes) rfl scIsFun.nd (pi_tup (pe_ix (r := rIxT K) ix_tup (pv 0) pe_int (fun _ _ => rfl))) (blkOk_by (own := [("one", 1)]) (N := NIsFun) (sc := (defScope sIsFun)) (by decide +kernel)) (fun _ _ _ _ _ => (pg_name (i := 1) scIsFun.nd rfl (Or.inl rfl))) (fun _ _ _ _ _ => pts_nil) (fun _ _ _ _ _ => (pe_callH GP hr2 rfl pass0 (pa_cons (pv 1) pa_nil)))) pa_nil)) (pe_one (pe_callH GB hr rfl pass0 (pa_cons (pe_ix (r := rIxT K) ix_tup (pv 0) pe_int (fun _ _ => rfl)) (pa_cons (pe_globE rfl cD) pa_nil)))))))), ?_⟩
    have hv : Dp K H v (.tuple [.str p.name, .tuple (p.ps.map prD), blD p.b]) := hv
    obtain ⟨a, xs, rfl, hq, hd⟩ := hv.tupInv
    obtain ⟨x, y, z, rfl, hx, hy, hz⟩ := hd.three
    obtain ⟨b, ys, rfl, hb, hyd⟩ := hy.tupInv
    have pt := DpAll.map hyd
    have ok1 : p.ps.length ≤ 900 := ok.2.1.1
    have ly : ys.length = p.ps.length := Paired.length pt
    rw [hx.strInv] at hq
    refine ⟨_, rfl, _, _, _, _, _, rfl, .ty _, ty_tup hq, kit_ty (r := true) (by decide +kernel), _, rfl, iteE rfl ?_⟩
    refine ⟨_, rfl, a, _, rfl, .inr hq, rfl, _, rfl, iteE rfl ?_⟩
    refine ⟨_, rfl, a, _, _, _, rfl, rfl, hq, rfl, _, rfl, .inl ⟨_, rfl, Nat.le_trans ok.1.2 (by decide), ?_⟩⟩
    rw [ok.1.1]
    refine ⟨_, rfl, iteE rfl ?_⟩
    refine ⟨_, rfl, a, _, _, _, rfl, rfl, hq, rfl, _, _, _, _, _, rfl, .ty _, ty_tup hb, kit_ty (r := true) (by decide +kernel), _, rfl, iteE rfl ?_⟩
    refine ⟨_, rfl, a, _, _, _, rfl, rfl, hq, rfl, b, rfl, ⟨_, hb⟩, fun D hD => ?_⟩
    refine lc_tup (K := K) (a := b) (xs := ys) (fun i H' => Same H H' ∧ H' D = some (.lst ((List.replicate i true).map V.bl))) ⟨same_new hD, upd_same⟩ (fun i H' _ h' => SqT.same h'.1 hb) ?_ ?_
    · rintro i v H1 hz ⟨s1, e1⟩
      obtain ⟨z, hza, hzd⟩ := Paired.at pt hz
      have hi : i < ys.length := (List.getElem?_eq_some_iff.mp hz).1
      refine ⟨rfl, _, rfl, v, z, rfl, hzd.same s1, ok.2.1.2 z (List.mem_of_getElem? hza), fun H2 s2 => ?_⟩
      refine ⟨_, s2 _ _ e1, small1000 (by rw [List.length_map, List.length_replicate]; omega), fun c o e => ?_, ?_⟩
      · rw [upd_ne (ne_of_none e hD)]
        exact s2 _ _ (s1 _ _ e)
      · rw [upd_same, List.replicate_succ', List.map_append]
        rfl
    · rintro H1 ⟨s1, e1⟩
      refine ⟨D, _, rfl, SqL.of e1, ?_⟩
      rw [show (List.replicate ys.length true).all id = true by rw [List.all_replicate]; split <;> rfl]
      refine ⟨_, rfl, iteS rfl ?_⟩
      exact ⟨_, rfl, a, _, _, _, rfl, rfl, SqT.same s1 hq, rfl, z, p.b, 30, rfl, hz.same s1, ok.2.2.2.1, ok.2.2.2.2, ok.2.2.1, fun H' s' => k _ (s1.trans s')⟩
theorem ok_IsTree {n : Nat} {f : Addr} {fd : FuncData} (F : Fun K "is_tree" "is_tree" sIsTree f fd) (T : TxShape mg) (GR : Has P w K mg base CX0 2 "is_row_of_names" PRowN (spRowN K)) (GE : Has P w K mg base CX0 2 "is_expression" PIsExp (spIsExp K)) (GF : Has P w K mg base CX0 (6 + 3 * n) "is_function" PIsFun (spIsFun K n)) : FnOk P w K mg base CX0 (6 + 3 * n + 1) f fd PIsTree (spIsTree K n) := by
  refine F.ok scIsTree (fun vs H Q E h => ?_) (fun cdv A outer s H vs Q E hr h => ?_)
  · obtain ⟨v, e, rfl, _⟩ := h
    rfl
  · obtain ⟨v, p, rfl, hv, ok, k⟩ := h
    have hr2 := hr.mono (j := 2) (by omega)
    refine ⟨_, (pss_cons (ps_if (PW.pt (pw_or (pt_not (pt_val (pe_callB call_isi (by rfl) T.n_isinstance bb_isinstance (pa_cons (pv 0) (pa_cons (pe_bltn (v := .ty "tuple") (by rfl) T.n_tuple bb_tuple rfl) pa_nil))))) (pw_or1 (pt_cmpR op_ne (pe_callB call_len_seq (by rfl) T.n_len bb_len (pa_cons (pv 0) pa_nil)) pe_int (nomark _)))))
  (pss_one (ps_ret pe_bl))
  pss_nil)
  (pss_cons (ps_asg (pv 0) (pg_tup (by rfl) (pgs_cons (pg_name (i := 1) scIsTree.nd rfl (Or.inl rfl)) (pgs_cons (pg_name (i := 2) scIsTree.nd rfl (Or.inl rfl)) (pgs_cons (pg_name (i := 3) scIsTree.nd rfl (Or.inl rfl)) (pgs_cons (pg_name (i := 4) scIsTree.nd rfl (Or.inl rfl)) pgs_nil))))))
  (pss_cons (ps_if (PW.pt (pw_or (pt_not (pt_val (pe_callH GR hr2 rfl pass0 (pa_cons (pv 1) pa_nil)))) (pw_or1 (pt_not (pt_val (pe_callH GR hr2 rfl pass0 (pa_cons (pv 2) pa_nil)))))))
  (pss_one (ps_ret pe_bl))
  pss_nil)
  (pss_cons (ps_if (PW.pt (pw_or (pt_not (pt_val (pe_callB call_isi (by rfl) T.n_isinstance bb_isinstance (pa_cons (pv 3) (pa_cons (pe_bltn (v := .ty "tuple") (by rfl) T.n_tuple bb_tuple rfl) pa_nil))))) (pw_or1 (pt_not (pt_val (pe_callB (cr_all rfl) (by rfl) T.n_all bb_all (pa_cons (pe_lc (own := [("one", 5)]) (g := gName 5) (tt := tYes) rfl scIsTree.nd (pi_tup (pv 3)) (blkOk_by (own := [("one", 5)]) (N := NIsTree) (sc := (defScope sIsTree)) (by decide +kernel)) (fun _ _ _ _ _ => (pg_name (i := 5) scIsTree.nd rfl (Or.inl rfl))) (fun _ _ _ _ _ => pts_nil) (fun _ _ _ _ _ => (pe_and (pe_callH GE hr2 rfl pass0 (pa_cons (pv 5) pa_nil)) (pe_one (pe_cmpR op_eq (pe_ix (r := rIxT K) ix_tup (pv 5) pe_int (fun _ _ => rfl)) pe_int (nomark _)))))) pa_nil)))))))
  (pss_one (ps_ret pe_bl))
  pss_nil)
  (pss_one (ps_ret (pe_and (pe_callB call_isi (by rfl) T.n_isinstance bb_isinstance (pa_cons (pv 4) (pa_cons (pe_bltn (v := .ty "tuple") (by rfl) T.n_tuple bb_tuple rfl) pa_nil))) (pe_one (pe_callB (cr_all rfl) (by rfl) T.n_all bb_all (pa_cons (pe_lc (own := [("one", 5)]) (g := gName 5) (tt := tYes) rfl scIsTree.nd (pi_tup (pv 4)) (blkOk_by (own := [("one", 5)]) (N := NIsTree) (sc := (defScope sIsTree)) (by decide +kernel)) (fun _ _ _ _ _ => (pg_name (i := 5) scIsTree.nd rfl (Or.inl rfl))) (fun _ _ _ _ _ => pts_nil) (fun _ _ _ _ _ => (pe_callH GF hr rfl pass0 (pa_cons (pv 5) pa_nil)))) pa_nil)))))))))), ?_⟩
    have hv : Dp K H v (.tuple [nmD p.names, nmD p.kinds, .tuple (p.keeps.map exD), .tuple (p.fns.map fnD)]) := hv
    obtain ⟨okn, okk, oke, lf, okf⟩ := ok
    obtain ⟨a, xs, rfl, hq, hd⟩ := hv.tupInv
    obtain ⟨x, y, z, u, rfl, hx, hy, hz, hu⟩ := hd.four
    obtain ⟨b, ys, rfl, hb, hyd⟩ := hz.tupInv
    obtain ⟨c, zs, rfl, hc, hzd⟩ := hu.tupInv
    have pt := DpAll.map hyd
    have pf := DpAll.map hzd
    have ly : ys.length = p.keeps.length := Paired.length pt
    have lz : zs.length = p.fns.length := Paired.length pf
    have ok1 := oke.1
    refine ⟨_, rfl, _, _, _, _, _, rfl, .ty _, ty_tup hq, kit_ty (r := true) (by decide +kernel), _, rfl, iteE rfl ?_⟩
    refine ⟨_, rfl, a, _, rfl, .inr hq, rfl, _, rfl, iteE rfl ?_⟩
    refine ⟨_, rfl, a, _, rfl, hq, rfl, _, _, rfl, _, _, rfl, _, _, rfl, _, _, rfl, rfl, ?_⟩
    refine ⟨_, rfl, x, _, rfl, hx, okn, fun H1 s1 => ?_⟩
    refine ⟨_, rfl, iteE rfl ?_⟩
    refine ⟨_, rfl, y, _, rfl, hy.same s1, okk, fun H2 s2 => ?_⟩
    have s3 := s1.trans s2
    refine ⟨_, rfl, iteE rfl ?_⟩
    refine ⟨_, rfl, _, _, _, _, _, rfl, .ty _, ty_tup (SqT.same s3 hb), kit_ty (r := true) (by decide +kernel), _, rfl, iteE rfl ?_⟩
    refine ⟨_, rfl, b, rfl, ⟨_, SqT.same s3 hb⟩, fun D hD => ?_⟩
    refine lc_tup (K := K) (a := b) (xs := ys) (fun i H' => Same H2 H' ∧ H' D = some (.lst ((List.replicate i true).map V.bl))) ⟨same_new hD, upd_same⟩ (fun i H' _ h' => SqT.same (s3.trans h'.1) hb) ?_ ?_
    · rintro i v H4 hz ⟨s5, e1⟩
      obtain ⟨e, hza, hzd⟩ := Paired.at pt hz
      have hi : i < ys.length := (List.getElem?_eq_some_iff.mp hz).1
      have oe := oke.2 e (List.mem_of_getElem? hza)
      refine ⟨rfl, _, rfl, v, e, rfl, hzd.same (s3.trans s5), oe.1, fun H5 s6 => ?_⟩
      refine ⟨_, rfl, iteS rfl ?_⟩
      obtain ⟨d, us, rfl, hd5, hdd⟩ := Dp.tupInv (hzd.same ((s3.trans s5).trans s6))
      obtain ⟨q, r, rfl, hq5, _⟩ := hdd.two
      rw [hq5.intInv, oe.2] at hd5
      refine ⟨_, rfl, d, _, _, _, rfl, rfl, hd5, rfl, rfl, ?_⟩
      refine ⟨_, s6 _ _ e1, small1000 (by rw [List.length_map, List.length_replicate]; omega), fun c o e => ?_, ?_⟩
      · rw [upd_ne (ne_of_none e hD)]
        exact s6 _ _ (s5 _ _ e)
      · rw [upd_same, List.replicate_succ', List.map_append]
        rfl
    · rintro H4 ⟨s5, e1⟩
      have s6 := s3.trans s5
      refine ⟨D, _, rfl, SqL.of e1, ?_⟩
      rw [show (List.replicate ys.length true).all id = true by rw [List.all_replicate]; split <;> rfl]
      refine ⟨_, rfl, iteE rfl ?_⟩
      refine ⟨_, rfl, _, _, _, _, _, rfl, .ty _, ty_tup (SqT.same s6 hc), kit_ty (r := true) (by decide +kernel), _, rfl, iteS rfl ?_⟩
      refine ⟨_, rfl, c, rfl, ⟨_, SqT.same s6 hc⟩, fun D hD => ?_⟩
      refine lc_tup (K := K) (a := c) (xs := zs) (fun i H' => Same H4 H' ∧ H' D = some (.lst ((List.replicate i true).map V.bl))) ⟨same_new hD, upd_same⟩ (fun i H' _ h' => SqT.same (s6.trans h'.1) hc) ?_ ?_
      · rintro i v H5 hz ⟨s7, e1⟩
        obtain ⟨z, hza, hzd⟩ := Paired.at pf hz
        have hi : i < zs.length := (List.getElem?_eq_some_iff.mp hz).1
        refine ⟨rfl, _, rfl, v, z, rfl, hzd.same (s6.trans s7), okf z (List.mem_of_getElem? hza), fun H6 s8 => ?_⟩
        refine ⟨_, s8 _ _ e1, small1000 (by rw [List.length_map, List.length_replicate]; omega), fun c o e => ?_, ?_⟩
        · rw [upd_ne (ne_of_none e hD)]
          exact s8 _ _ (s7 _ _ e)
        · rw [upd_same, List.replicate_succ', List.map_append]
          rfl
      · rintro H5 ⟨s7, e1⟩
        refine ⟨D, _, rfl, SqL.of e1, ?_⟩
        rw [show (List.replicate zs.length true).all id = true by rw [List.all_replicate]; split <;> rfl]
        exact k _ (s6.trans s7)
end

/-! ### assigned_names, own_names -/
abbrev sAsg : Stmt := topS 19
abbrev NAsg : List Str := ["block", "found", "number", "statement"]
abbrev PAsg : List Str := ["block"]
theorem scAsg : FnScope NAsg PAsg (defScope sAsg) := ⟨rfl, rfl, rfl, by decide +kernel, rfl, by decide +kernel, by decide +kernel⟩
def asgS : St → Option Str
  | .set t _ => some t
  | .input t => some t
  | .call t _ _ => t
  | _ => none
def asgB (b : List St) : List Str := (allB b 0).filterMap fun p => asgS p.2
def spAsg (K : PySem.W.Frag) (n : Nat) : Sp := fun vs H Q _ => ∃ (v : V) (b : List St), vs = [v] ∧ Dp K H v (blD b) ∧ dpB b ≤ n ∧ okB b ∧ szB b ≤ 900 ∧ ∀ (q : Addr) (H' : Hp), Same H H' → H q = none → H' q = some (.lst ((asgB b).map V.str)) → Q (.ref q) H'
theorem filterMap_snoc {α β : Type} {f : α → Option β} {l : List α} {j : Nat} {x : α} (h : l[j]? = some x) : (l.take (j + 1)).filterMap f = (l.take j).filterMap f ++ (f x).toList := by
  rw [take_snoc h, List.filterMap_append]
  congr 1
section
variable {P : Program} {w : World} {K : PySem.W.Frag} {mg : Str → Option Value} {base : Heap}
theorem ok_Asg {n : Nat} {f : Addr} {fd : FuncData} (F : Fun K "assigned_names" "assigned_names" sAsg f fd) (GA : Has P w K mg base CX0 (4 + n) "all_numbered" PAllN (spAllN K n)) : FnOk P w K mg base CX0 (4 + n + 1) f fd PAsg (spAsg K n) := by
  refine F.ok scAsg (fun vs H Q E h => ?_) (fun cdv A outer s H vs Q E hr h => ?_)
  · obtain ⟨v, e, rfl, _⟩ := h
    rfl
  · obtain ⟨v, b, rfl, hv, hn, ok, sz, k⟩ := h
    refine ⟨_, (pss_cons (ps_set (i := 1) scAsg.nd rfl (Or.inl rfl) (pe_lst pa_nil))
  (pss_cons (ps_for PassesOwn.never rfl (pi_list (pe_callH GA hr rfl pass0 (pa_cons (pv 0) (pa_cons pe_int pa_nil)))) (pg_tup (by rfl) (pgs_cons (pg_name (i := 2) scAsg.nd rfl (Or.inl rfl)) (pgs_cons (pg_name (i := 3) scAsg.nd rfl (Or.inl rfl)) pgs_nil)))
  (pss_one (ps_if (PW.pt (pw_and (pt_cmpR op_in_seq (pe_ix (r := rIxT K) ix_tup (pv 3) pe_int (fun _ _ => rfl)) (pe_tup (pa_cons pe_str (pa_cons pe_str (pa_cons pe_str pa_nil)))) (by rfl)) (pw_and1 (pt_cmpR op_notN (pe_ix (r := rIxT K) ix_tup (pv 3) pe_int (fun _ _ => rfl)) pe_non (nomark _)))))
  (pss_one (ps_expr (pe_bm PySem.F.plainAttrs_list PySem.F.slot_list_append PySem.F.type_list_append mt_append (pv 1) (pa_cons (pe_ix (r := rIxT K) ix_tup (pv 3) pe_int (fun _ _ => rfl)) pa_nil))))
  pss_nil)))
  (pss_one (ps_ret (pv 1))))), ?_⟩
    refine ⟨(by show 0 ≤ sizeLine; decide), fun q hq => ?_⟩
    have s1 := same_new (o := .lst []) hq
    refine ⟨_, rfl, v, b, 0, rfl, hv.same s1, hn, ok, sz, fun L xs H2 s2 fL eL pL => ?_⟩
    have t2 := s1.trans s2
    have qL : q ≠ L := ne_of_none upd_same fL
    have tot : (allB b 0).length ≤ 900 := by rw [allB_len]; exact sz
    refine ⟨L, rfl, ⟨_, SqL.of eL⟩, ?_⟩
    refine for_list (K := K) (a := L) (xs := xs) (fun j σ H' => ∃ x2 x3 : Option V, σ = [some v, some (.ref q), x2, x3] ∧ Same H H' ∧ Tps H2 H' ∧ H' L = some (.lst xs) ∧ H' q = some (.lst ((((allB b 0).take j).filterMap fun p => asgS p.2).map V.str))) ⟨_, _, rfl, t2, Tps.refl, eL, s2 _ _ upd_same⟩ (fun j σ H' _ h' => by obtain ⟨_, _, _, _, _, z, _⟩ := h'; exact SqL.of z) ?_ ?_
    · rintro j x σ H3 hx ⟨x2, x3, rfl, s3, t3, eL3, eq⟩
      obtain ⟨⟨num, st⟩, hp, hpd⟩ := Paired.at pL hx
      have hj : j < xs.length := (List.getElem?_eq_some_iff.mp hx).1
      obtain ⟨a, u, rfl, hqa, hd⟩ := hpd.tps t3
      obtain ⟨c, ys, rfl, hc, hcd⟩ := stInv hd
      refine ⟨a, _, rfl, hqa, rfl, _, _, rfl, _, _, rfl, rfl, ?_⟩
      refine ⟨_, rfl, c, _, _, _, rfl, rfl, hc, atI_nat (j := 0) rfl, (by show 3 ≤ sizeLine; decide), fun t ht => ?_⟩
      have s4 := same_new (o := .tup [.str "set", .str "input", .str "call"]) ht
      have hc4 := SqT.same s4 hc
      have eq4 := s4 _ _ eq
      have hcd4 := DpAll.same s4 hcd
      have hpre : ((allB b 0).take (j + 1)).filterMap (fun p => asgS p.2) = ((allB b 0).take j).filterMap (fun p => asgS p.2) ++ (asgS st).toList := filterMap_snoc (f := fun p : Nat × St => asgS p.2) hp
      have lq : ((((allB b 0).take j).filterMap fun p => asgS p.2).map V.str).length < 1000 := by
        rw [List.length_map]
        have l1 := List.length_filterMap_le (fun p : Nat × St => asgS p.2) ((allB b 0).take j)
        rw [List.length_take] at l1
        omega
      have finN : asgS st = none → Same H (upd H3 t (.tup [.str "set", .str "input", .str "call"])) ∧ Tps H2 (upd H3 t (.tup [.str "set", .str "input", .str "call"])) ∧ upd H3 t (.tup [.str "set", .str "input", .str "call"]) L = some (.lst xs) ∧ upd H3 t (.tup [.str "set", .str "input", .str "call"]) q = some (.lst ((((allB b 0).take (j + 1)).filterMap fun p => asgS p.2).map V.str)) := fun e => by
        rw [hpre, e]
        refine ⟨s3.trans s4, t3.trans (Tps.of s4), s4 _ _ eL3, ?_⟩
        rw [Option.toList_none, List.append_nil]
        exact eq4
      have et : upd H3 t (.tup [.str "set", .str "input", .str "call"]) t = some (.tup [.str "set", .str "input", .str "call"]) := upd_same
      generalize upd H3 t (.tup [.str "set", .str "input", .str "call"]) = H4 at *
      have fin : ∀ nm, asgS st = some nm → Same H (upd H4 q (.lst ((((allB b 0).take j).filterMap fun p => asgS p.2).map V.str ++ [.str nm]))) ∧ Tps H2 (upd H4 q (.lst ((((allB b 0).take j).filterMap fun p => asgS p.2).map V.str ++ [.str nm]))) ∧ (upd H4 q (.lst ((((allB b 0).take j).filterMap fun p => asgS p.2).map V.str ++ [.str nm]))) L = some (.lst xs) ∧ (upd H4 q (.lst ((((allB b 0).take j).filterMap fun p => asgS p.2).map V.str ++ [.str nm]))) q = some (.lst ((((allB b 0).take (j + 1)).filterMap fun p => asgS p.2).map V.str)) := fun nm e => by
        refine ⟨fun c o z => ?_, t3.trans ((Tps.of s4).trans (Tps.lst eq4)), ?_, ?_⟩
        · rw [upd_ne (ne_of_none z hq)]
          exact s4 _ _ (s3 _ _ z)
        · rw [upd_ne qL.symm]
          exact s4 _ _ eL3
        · rw [upd_same, hpre, e, List.map_append]
          rfl
      clear hpre hp hpd hd hc hcd hqa
      cases st <;> simp only [wordS] at hc4
      case set g e =>
        obtain ⟨x, y, rfl, h1, h2⟩ := hcd4.two
        rw [h1.strInv] at hc4
        refine ⟨t, _, rfl, .inr (SqT.of et), rfl, rfl, _, rfl, iteS (by simp only [wordS]; decide +kernel) ?_⟩
        refine ⟨_, rfl, c, _, _, _, rfl, rfl, hc4, atI_nat (j := 1) rfl, rfl, _, rfl, iteS (by rw [decide_eq_false (fun z => by cases z)]; rfl) ?_⟩
        refine ⟨_, rfl, .inl ⟨rfl, _, SqL.of eq4⟩, _, rfl, c, _, _, _, rfl, rfl, hc4, atI_nat (j := 1) rfl, q, _, _, rfl, rfl, eq4, small1000 (Nat.le_of_lt lq), ?_⟩
        exact ⟨_, _, rfl, fin g rfl⟩
      case input g =>
        obtain ⟨x, rfl, h1⟩ := hcd4.one
        rw [h1.strInv] at hc4
        refine ⟨t, _, rfl, .inr (SqT.of et), rfl, rfl, _, rfl, iteS (by simp only [wordS]; decide +kernel) ?_⟩
        refine ⟨_, rfl, c, _, _, _, rfl, rfl, hc4, atI_nat (j := 1) rfl, rfl, _, rfl, iteS (by rw [decide_eq_false (fun z => by cases z)]; rfl) ?_⟩
        refine ⟨_, rfl, .inl ⟨rfl, _, SqL.of eq4⟩, _, rfl, c, _, _, _, rfl, rfl, hc4, atI_nat (j := 1) rfl, q, _, _, rfl, rfl, eq4, small1000 (Nat.le_of_lt lq), ?_⟩
        exact ⟨_, _, rfl, fin g rfl⟩
      case call g gg as =>
        obtain ⟨x, y, z, rfl, h1, h2, h3⟩ := hcd4.three
        refine ⟨t, _, rfl, .inr (SqT.of et), rfl, rfl, _, rfl, iteS (by simp only [wordS]; decide +kernel) ?_⟩
        cases g with
        | none =>
          cases h1
          refine ⟨_, rfl, c, _, _, _, rfl, rfl, hc4, atI_nat (j := 1) rfl, rfl, _, rfl, iteE (by rw [decide_eq_true rfl]; rfl) ?_⟩
          exact ⟨_, _, rfl, finN rfl⟩
        | some g =>
          rw [show optD (some g) = .str g from rfl] at h1
          rw [h1.strInv] at hc4
          refine ⟨_, rfl, c, _, _, _, rfl, rfl, hc4, atI_nat (j := 1) rfl, rfl, _, rfl, iteS (by rw [decide_eq_false (fun z => by cases z)]; rfl) ?_⟩
          refine ⟨_, rfl, .inl ⟨rfl, _, SqL.of eq4⟩, _, rfl, c, _, _, _, rfl, rfl, hc4, atI_nat (j := 1) rfl, q, _, _, rfl, rfl, eq4, small1000 (Nat.le_of_lt lq), ?_⟩
          exact ⟨_, _, rfl, fin g rfl⟩
      all_goals
        refine ⟨t, _, rfl, .inr (SqT.of et), rfl, rfl, _, rfl, iteE (by simp only [wordS]; decide +kernel) ?_⟩
        exact ⟨_, _, rfl, finN rfl⟩
    · rintro σ H3 ⟨x2, x3, rfl, s3, t3, eL3, eq⟩
      rw [Paired.length pL, List.take_length] at eq
      exact ⟨_, rfl, k q H3 s3 hq eq⟩
end

/-! ### own_names -/
abbrev sOwn : Stmt := topS 50
abbrev NOwn : List Str := ["tree", "function", "name", "params", "block", "found", "one", "by_place", "size"]
abbrev POwn : List Str := ["tree", "function"]
theorem scOwn : FnScope NOwn POwn (defScope sOwn) := ⟨rfl, rfl, rfl, by decide +kernel, rfl, by decide +kernel, by decide +kernel⟩
theorem inV_mem {n : Str} {l : List Str} : inV (.str n) (l.map V.str) = decide (n ∈ l) := by
  rw [Bool.eq_iff_iff, decide_eq_true_eq]
  unfold inV
  rw [List.any_eq_true]
  constructor
  · rintro ⟨v, hv, e⟩
    obtain ⟨o, ho, rfl⟩ := List.mem_map.mp hv
    have e : o = n := by unfold eqV at e; simpa using e
    exact e ▸ ho
  · intro h
    exact ⟨.str n, List.mem_map.mpr ⟨n, h, rfl⟩, by unfold eqV; simp⟩
theorem dp_strs {K : PySem.W.Frag} {H : Hp} : ∀ {gs : List V} {l : List Str}, DpAll K H gs (l.map PyData.str) → gs = l.map V.str
  | _, [], h => DpAll.nilInv h
  | _, x :: r, h => by
    obtain ⟨v, vr, rfl, h1, h2⟩ := DpAll.consInv h
    rw [h1.strInv, dp_strs h2]
    rfl
theorem flat_strs (l : List Str) : (l.map V.str).all flatV = true := by
  rw [List.all_map, List.all_eq_true]
  intro x _
  rfl
theorem cut_take {xs : List V} {k : Nat} : cutV xs none (some (k : Int)) = xs.take k := by
  unfold cutV
  rw [HT.sIx_none, HT.sIx_nat, List.drop_zero]
  rw [Nat.sub_zero, List.take_eq_take_iff]
  omega
theorem cut_drop {xs : List V} {k : Nat} : cutV xs (some (k : Int)) none = xs.drop k := by
  unfold cutV
  rw [HT.sIx_none, HT.sIx_nat]
  rcases Nat.le_or_ge k xs.length with h | h
  · rw [Nat.min_eq_left h, List.take_of_length_le]
    rw [List.length_drop]
    exact Nat.le_refl _
  · rw [Nat.min_eq_right h, List.drop_of_length_le (Nat.le_refl _), List.drop_of_length_le h]
    simp
theorem none_same {H H' : Hp} {q : Addr} (s : Same H H') (h : H' q = none) : H q = none := by
  cases e : H q with
  | none => rfl
  | some o => rw [s _ _ e] at h; cases h
/-- a name joins those found -/
def stepO (gl acc : List Str) (x : Str) : List Str := if x ∈ acc ∨ x ∈ gl then acc else acc ++ [x]
def ownF (gl ps : List Str) (b : List St) : List Str := (asgB b).foldl (stepO gl) ps
theorem ownF_len {gl : List Str} : ∀ {l acc : List Str}, acc.length ≤ (l.foldl (stepO gl) acc).length ∧ (l.foldl (stepO gl) acc).length ≤ acc.length + l.length
  | [], acc => ⟨Nat.le_refl _, Nat.le_refl _⟩
  | x :: r, acc => by
    have ih := ownF_len (gl := gl) (l := r) (acc := stepO gl acc x)
    have e : (stepO gl acc x).length = acc.length ∨ (stepO gl acc x).length = acc.length + 1 := by
      unfold stepO
      split
      · exact .inl rfl
      · exact .inr (by rw [List.length_append]; rfl)
    rw [List.foldl_cons, List.length_cons]
    omega
theorem ownF_pre {gl : List Str} : ∀ {l acc : List Str}, (l.foldl (stepO gl) acc).take acc.length = acc
  | [], acc => List.take_length
  | x :: r, acc => by
    have ih := ownF_pre (gl := gl) (l := r) (acc := stepO gl acc x)
    rw [List.foldl_cons]
    have e : stepO gl acc x = acc ∨ stepO gl acc x = acc ++ [x] := by
      unfold stepO
      split
      · exact .inl rfl
      · exact .inr rfl
    rcases e with e | e
    · rw [e] at ih ⊢
      exact ih
    · rw [e] at ih ⊢
      have h2 := congrArg (List.take acc.length) ih
      rw [List.take_take, List.length_append, Nat.min_eq_left (Nat.le_add_right _ _)] at h2
      rw [h2, List.take_append_of_le_length (Nat.le_refl _), List.take_length]
def innerF (gl ps : List Str) (b : List St) : List Str := (ownF gl ps b).drop ps.length
def prs (f : Fn) : List Str := f.ps.map Prod.fst
def spOwn (K : PySem.W.Frag) (n : Nat) : Sp := fun vs H Q _ => ∃ (v u : V) (t : Tr) (f : Fn), vs = [v, u] ∧ Dp K H v (trD t) ∧ t.names.length ≤ 900 ∧ Dp K H u (fnD f) ∧ okFn n f ∧ szB f.b ≤ 900 ∧ f.ps.length ≤ 50 ∧ ∀ (r a c : Addr) (H' : Hp), Same H H' → H r = none → H a = none → H c = none → a ≠ c → H' r = some (.tup [.ref a, .ref c]) → H' a = some (.lst ((prs f).map V.str)) → H' c = some (.lst ((innerF t.names (prs f) f.b).map V.str)) → Q (.ref r) H'
section
variable {P : Program} {w : World} {K : PySem.W.Frag} {mg : Str → Option Value} {base : Heap}
theorem ok_Own {n : Nat} {f : Addr} {fd : FuncData} (F : Fun K "own_names" "own_names" sOwn f fd) (T : TxShape mg) (GA : Has P w K mg base CX0 (4 + n + 1) "assigned_names" PAsg (spAsg K n)) : FnOk P w K mg base CX0 (4 + n + 1 + 1) f fd POwn (spOwn K n) := by
  refine F.ok scOwn (fun vs H Q E h => ?_) (fun cdv A outer s H vs Q E hr h => ?_)
  · obtain ⟨v, u, t, e, rfl, _⟩ := h
    rfl
  · obtain ⟨v, u, t, e, rfl, hv, ln, hu, ok, sz, lps, k⟩ := h
    refine ⟨_, (pss_cons (ps_asg (pv 1) (pg_tup (by rfl) (pgs_cons (pg_name (i := 2) scOwn.nd rfl (Or.inl rfl)) (pgs_cons (pg_name (i := 3) scOwn.nd rfl (Or.inl rfl)) (pgs_cons (pg_name (i := 4) scOwn.nd rfl (Or.inl rfl)) pgs_nil)))))
  (pss_cons (ps_setLc (i := 5) (own := [("one", 6), ("by_place", 7)]) (g := gTup K 2 (gCons (gName 6) (gCons (gName 7) gNil))) (tt := tYes) rfl scOwn.nd rfl rfl (sw_true rfl rfl rfl (by decide +kernel)) (pi_tup (pv 3)) (blkOk_by (own := [("one", 6), ("by_place", 7)]) (N := NOwn) (sc := (defScope sOwn)) (by decide +kernel)) (fun _ _ _ _ _ => (pg_tup (by rfl) (pgs_cons (pg_name (i := 6) scOwn.nd rfl (Or.inl rfl)) (pgs_cons (pg_name (i := 7) scOwn.nd rfl (Or.inl rfl)) pgs_nil)))) (fun _ _ _ _ _ => pts_nil) (fun _ _ _ _ _ => (pv 6)))
  (pss_cons (ps_set (i := 8) scOwn.nd rfl (Or.inl rfl) (pe_callB call_len_seq (by rfl) T.n_len bb_len (pa_cons (pv 5) pa_nil)))
  (pss_cons (ps_for PassesOwn.never rfl (pi_list (pe_callH GA hr rfl pass0 (pa_cons (pv 4) pa_nil))) (pg_name (i := 6) scOwn.nd rfl (Or.inl rfl))
  (pss_one (ps_if (PW.pt (pw_and (pt_cmpR op_notIn_seq (pv 6) (pv 5) (by rfl)) (pw_and1 (pt_cmpR op_notIn_seq (pv 6) (pe_ix (r := rIxT K) ix_tup (pv 0) pe_int (fun _ _ => rfl)) (by rfl)))))
  (pss_one (ps_expr (pe_bm PySem.F.plainAttrs_list PySem.F.slot_list_append PySem.F.type_list_append mt_append (pv 5) (pa_cons (pv 6) pa_nil))))
  pss_nil)))
  (pss_one (ps_ret (pe_tup (pa_cons (pe_slice sl_list (pv 5) po_none (po_some (pv 8))) (pa_cons (pe_slice sl_list (pv 5) (po_some (pv 8)) po_none) pa_nil))))))))), ?_⟩
    have hv : Dp K H v (.tuple [nmD t.names, nmD t.kinds, .tuple (t.keeps.map exD), .tuple (t.fns.map fnD)]) := hv
    have hu : Dp K H u (.tuple [.str e.name, .tuple (e.ps.map prD), blD e.b]) := hu
    obtain ⟨a, xs, rfl, hq, hd⟩ := hv.tupInv
    obtain ⟨x, y, z, uu, rfl, hx, _, _, _⟩ := hd.four
    obtain ⟨g, gs, rfl, hg, hgd⟩ := hx.tupInv
    obtain ⟨c, ys, rfl, hc, hcd⟩ := hu.tupInv
    obtain ⟨x1, x2, x3, rfl, h1, h2, h3⟩ := hcd.three
    obtain ⟨p, ps, rfl, hp, hpd⟩ := h2.tupInv
    have pp := DpAll.map hpd
    have lp : ps.length = e.ps.length := Paired.length pp
    have egs : gs = t.names.map V.str := dp_strs hgd
    subst egs
    refine ⟨_, rfl, c, _, rfl, hc, rfl, _, _, rfl, _, _, rfl, _, _, rfl, rfl, ?_⟩
    refine ⟨_, rfl, p, rfl, ⟨_, hp⟩, fun D hD => ?_⟩
    refine lc_tup (K := K) (a := p) (xs := ps) (fun i H' => Same H H' ∧ H' D = some (.lst ((e.ps.take i).map fun p => V.str p.1))) ⟨same_new hD, upd_same⟩ (fun i H' _ h' => SqT.same h'.1 hp) ?_ ?_
    · rintro i z H2 hz ⟨s2, eD⟩
      obtain ⟨pr, ht, htd⟩ := Paired.at pp hz
      have htd : Dp K H z (.tuple [.str pr.1, .bool pr.2]) := htd
      obtain ⟨c, zs, rfl, hc, hcd⟩ := htd.tupInv
      obtain ⟨u, w, rfl, hu, hw⟩ := hcd.two
      rw [hu.strInv] at hc
      have hi : i < ps.length := (List.getElem?_eq_some_iff.mp hz).1
      refine ⟨c, _, rfl, SqT.same s2 hc, rfl, _, _, rfl, _, _, rfl, rfl, rfl, _, rfl, _, eD, small1000 (by rw [List.length_map, List.length_take]; omega), fun c o z => ?_, ?_⟩
      · rw [upd_ne (ne_of_none z hD)]
        exact s2 _ _ z
      · rw [upd_same, take_snoc ht, List.map_append]
        rfl
    · rintro H2 ⟨s2, eD⟩
      rw [lp, List.take_length] at eD
      have eD : H2 D = some (.lst ((prs e).map V.str)) := by rw [eD]; unfold prs; rw [List.map_map]; rfl
      refine ⟨_, rfl, D, _, rfl, .inl (SqL.of eD), ?_⟩
      refine ⟨_, rfl, x3, e.b, rfl, h3.same s2, ok.2.2.2.1, ok.2.2.1, sz, fun L H3 s3 fL eL => ?_⟩
      have DL : D ≠ L := ne_of_none eD fL
      have s4 := s2.trans s3
      have la : (asgB e.b).length ≤ 900 := by
        have l1 := List.length_filterMap_le (fun p : Nat × St => asgS p.2) (allB e.b 0)
        rw [allB_len] at l1
        exact Nat.le_trans l1 sz
      have lpr : (prs e).length = e.ps.length := by unfold prs; rw [List.length_map]
      refine ⟨L, rfl, ⟨_, SqL.of eL⟩, ?_⟩
      refine for_list (K := K) (a := L) (xs := (asgB e.b).map V.str) (fun j σ H' => ∃ x6 : Option V, σ = [some (.ref a), some (.ref c), some x1, some (.ref p), some x3, some (.ref D), x6, none, some (.int (((prs e).map V.str).length : Nat))] ∧ Same H H' ∧ H' L = some (.lst ((asgB e.b).map V.str)) ∧ H' D = some (.lst ((((asgB e.b).take j).foldl (stepO t.names) (prs e)).map V.str))) ⟨_, rfl, s4, eL, s3 _ _ eD⟩ (fun j σ H' _ h' => by obtain ⟨_, _, _, z, _⟩ := h'; exact SqL.of z) ?_ ?_
      · rintro j x σ H4 hx ⟨x6, rfl, s5, eL4, eD4⟩
        have hj : j < (asgB e.b).length := by
          have := (List.getElem?_eq_some_iff.mp hx).1
          rwa [List.length_map] at this
        obtain ⟨nm, hnm⟩ : ∃ nm, (asgB e.b)[j]? = some nm := ⟨_, List.getElem?_eq_getElem hj⟩
        rw [List.getElem?_map, hnm] at hx
        simp only [Option.map_some, Option.some.injEq] at hx
        subst hx
        have step : ((asgB e.b).take (j + 1)).foldl (stepO t.names) (prs e) = stepO t.names (((asgB e.b).take j).foldl (stepO t.names) (prs e)) nm := by
          rw [take_snoc hnm, List.foldl_append]
          rfl
        have lacc := (ownF_len (gl := t.names) (l := (asgB e.b).take j) (acc := prs e)).2
        rw [List.length_take, lpr] at lacc
        generalize ((asgB e.b).take j).foldl (stepO t.names) (prs e) = acc at *
        refine ⟨_, rfl, _, rfl, D, _, rfl, .inl (SqL.of eD4), rfl, flat_strs _, _, rfl, ?_⟩
        by_cases h1 : nm ∈ acc
        · refine iteE (by rw [if_pos rfl, inV_mem, decide_eq_true h1]; rfl) ?_
          exact ⟨_, rfl, s5, eL4, by rw [step]; unfold stepO; rw [if_pos (.inl h1)]; exact eD4⟩
        · refine iteS (by rw [if_pos rfl, inV_mem, decide_eq_false h1]; rfl) ?_
          refine ⟨_, rfl, _, rfl, a, _, _, _, rfl, rfl, SqT.same s5 hq, rfl, g, _, rfl, .inr (SqT.same s5 hg), rfl, flat_strs _, _, rfl, ?_⟩
          by_cases h2 : nm ∈ t.names
          · refine iteE (by rw [if_pos rfl, inV_mem, decide_eq_true h2]; rfl) ?_
            exact ⟨_, rfl, s5, eL4, by rw [step]; unfold stepO; rw [if_pos (.inr h2)]; exact eD4⟩
          · refine iteS (by rw [if_pos rfl, inV_mem, decide_eq_false h2]; rfl) ?_
            refine ⟨_, rfl, .inl ⟨rfl, _, SqL.of eD4⟩, _, rfl, D, _, _, rfl, rfl, eD4, small1000 (by rw [List.length_map]; omega), ?_⟩
            refine ⟨_, rfl, fun c o z => ?_, ?_, ?_⟩
            · rw [upd_ne (ne_of_none z hD)]
              exact s5 _ _ z
            · rw [upd_ne DL.symm]
              exact eL4
            · rw [upd_same, step]
              unfold stepO
              rw [if_neg (fun z => z.elim h1 h2), List.map_append]
              rfl
      · rintro σ H4 ⟨x6, rfl, s5, eL4, eD4⟩
        rw [List.length_map, List.take_length] at eD4
        refine ⟨_, rfl, _, rfl, _, rfl, D, _, rfl, SqL.of eD4, fun q1 h1 => ?_⟩
        rw [cut_take]
        have s6 := same_new (o := .lst ((((asgB e.b).foldl (stepO t.names) (prs e)).map V.str).take ((prs e).map V.str).length)) h1
        have eD5 := s6 _ _ eD4
        have e1 : (((asgB e.b).foldl (stepO t.names) (prs e)).map V.str).take ((prs e).map V.str).length = (prs e).map V.str := by rw [← List.map_take, List.length_map, ownF_pre]
        have eq1 : upd H4 q1 (.lst ((((asgB e.b).foldl (stepO t.names) (prs e)).map V.str).take ((prs e).map V.str).length)) q1 = some (.lst ((prs e).map V.str)) := by rw [upd_same, e1]
        have n1 : H q1 = none := none_same s5 h1
        have s7 := s5.trans s6
        clear s6
        generalize upd H4 q1 (.lst ((((asgB e.b).foldl (stepO t.names) (prs e)).map V.str).take ((prs e).map V.str).length)) = H5 at *
        refine ⟨_, rfl, _, rfl, _, rfl, D, _, rfl, SqL.of eD5, fun q2 h2 => ?_⟩
        rw [cut_drop]
        have s8 := same_new (o := .lst ((((asgB e.b).foldl (stepO t.names) (prs e)).map V.str).drop ((prs e).map V.str).length)) h2
        have eq2 : upd H5 q2 (.lst ((((asgB e.b).foldl (stepO t.names) (prs e)).map V.str).drop ((prs e).map V.str).length)) q2 = some (.lst ((innerF t.names (prs e) e.b).map V.str)) := by
          rw [upd_same, ← List.map_drop, List.length_map]
          rfl
        have eq18 := s8 _ _ eq1
        have n2 : H q2 = none := none_same s7 h2
        have ne : q1 ≠ q2 := ne_of_none eq1 h2
        have s9 := s7.trans s8
        clear s8
        generalize upd H5 q2 (.lst ((((asgB e.b).foldl (stepO t.names) (prs e)).map V.str).drop ((prs e).map V.str).length)) = H6 at *
        refine ⟨(by show 2 ≤ sizeLine; decide), fun r hr => ?_⟩
        have s10 := same_new (o := .tup [.ref q1, .ref q2]) hr
        exact k r q1 q2 _ (s9.trans s10) (none_same s9 hr) n1 n2 ne upd_same (s10 _ _ eq18) (s10 _ _ eq2)
end

/-! ### check_unlike, names_of_args, fits -/
abbrev sUnl : Stmt := topS 55
abbrev NUnl : List Str := ["names", "at", "one"]
abbrev PUnl : List Str := ["names"]
theorem scUnl : FnScope NUnl PUnl (defScope sUnl) := ⟨rfl, rfl, rfl, by decide +kernel, rfl, by decide +kernel, by decide +kernel⟩
def spUnl (K : PySem.W.Frag) : Sp := fun vs H Q _ => ∃ (q : Addr) (l : List Str), vs = [.ref q] ∧ SqL K H q (l.map V.str) ∧ l.Nodup ∧ ∀ H', Same H H' → Q .non H'
structure TxChk (mg : Str → Option Value) : Prop where
  n_enumerate : mg "enumerate" = none
  n_sum : mg "sum" = none
  n_max : mg "max" = none
  n_len : mg "len" = none
  n_any : mg "any" = none
  n_list : mg "list" = none
  n_abs : mg "abs" = none
theorem nodup_take : ∀ {l : List Str}, l.Nodup → ∀ {i : Nat} {x : Str}, l[i]? = some x → x ∉ l.take i
  | a :: r, h, 0, x, hx => by simp
  | a :: r, h, i + 1, x, hx => by
    have hx : r[i]? = some x := by simpa using hx
    rw [List.nodup_cons] at h
    rw [List.take_succ_cons, List.mem_cons]
    rintro (z | z)
    · exact h.1 (z ▸ List.mem_of_getElem? hx)
    · exact nodup_take h.2 hx z
section
variable {P : Program} {w : World} {K : PySem.W.Frag} {mg : Str → Option Value} {base : Heap}
theorem ok_Unl {f : Addr} {fd : FuncData} (F : Fun K "check_unlike" "check_unlike" sUnl f fd) (T : TxChk mg) : FnOk P w K mg base CX0 1 f fd PUnl (spUnl K) := by
  refine F.ok scUnl (fun vs H Q E h => ?_) (fun cdv A outer s H vs Q E hr h => ?_)
  · obtain ⟨q, l, rfl, _⟩ := h
    rfl
  · obtain ⟨q, l, rfl, hq, nd, k⟩ := h
    refine ⟨_, (pss_one (ps_for PassesOwn.never rfl (pi_enum (by rfl) T.n_enumerate (pa_cons (pv 0) pa_nil)) (pg_tup (by rfl) (pgs_cons (pg_name (i := 1) scUnl.nd rfl (Or.inl rfl)) (pgs_cons (pg_name (i := 2) scUnl.nd rfl (Or.inl rfl)) pgs_nil)))
  (pss_one (ps_if (pt_cmpR op_in_seq (pv 2) (pe_slice sl_list (pv 0) po_none (po_some (pv 1))) (by rfl))
  (pss_one ps_never)
  pss_nil)))), ?_⟩
    refine ⟨_, rfl, q, _, rfl, hq, ?_⟩
    refine for_it (walk_enum (K := K) (a := q) (xs := l.map V.str)) (fun j σ H' => ∃ x1 x2 : Option V, σ = [some (.ref q), x1, x2] ∧ Same H H') ⟨_, _, rfl, Same.refl _⟩ (fun j σ H' _ h' => by obtain ⟨_, _, _, s'⟩ := h'; exact s'.seq hq) ?_ ?_
    · rintro j x σ H1 H2 hj ⟨x1, x2, rfl, s1⟩ ⟨T, x, y, rfl, hT, rfl, gx, gy⟩
      have hj : j < l.length := by rwa [List.length_map] at hj
      obtain ⟨nm, hnm⟩ : ∃ nm, l[j]? = some nm := ⟨_, List.getElem?_eq_getElem hj⟩
      simp only at gx gy
      rw [List.getElem?_map, hnm] at gy
      simp only [Option.map_some, Option.some.injEq] at gx gy
      subst gx gy
      have s2 := s1.trans (same_new (o := .tup [V.int (j : Nat), V.str nm]) hT)
      refine ⟨T, _, rfl, SqT.of upd_same, rfl, _, _, rfl, _, _, rfl, rfl, ?_⟩
      refine ⟨_, rfl, _, rfl, _, rfl, _, rfl, q, _, rfl, s2.seq hq, fun p hp => ?_⟩
      rw [cut_take]
      have s3 := s2.trans (same_new (o := .lst ((l.map V.str).take j)) hp)
      refine ⟨p, _, rfl, .inl (SqL.of upd_same), rfl, by rw [← List.map_take]; exact flat_strs _, _, rfl, iteE (by rw [← List.map_take, inV_mem]; exact decide_eq_false (nodup_take nd hnm)) ?_⟩
      exact ⟨_, _, rfl, s3⟩
    · rintro σ H1 ⟨x1, x2, rfl, s1⟩
      exact k _ s1
end

/-! ### names_of_args -/
abbrev sNoA : Stmt := topS 56
abbrev NNoA : List Str := ["args", "found", "word", "one", "name", "factor"]
abbrev PNoA : List Str := ["args"]
theorem scNoA : FnScope NNoA PNoA (defScope sNoA) := ⟨rfl, rfl, rfl, by decide +kernel, rfl, by decide +kernel, by decide +kernel⟩
def argN : Arg → List Str
  | .place n => [n]
  | .value e => e.ts.map Prod.fst
def argsN (as : List Arg) : List Str := as.flatMap argN
def spNoA (K : PySem.W.Frag) : Sp := fun vs H Q _ => ∃ (v : V) (as : List Arg), vs = [v] ∧ Dp K H v (.tuple (as.map argD)) ∧ (argsN as).length ≤ 900 ∧ ∀ (q : Addr) (H' : Hp), Same H H' → H q = none → H' q = some (.lst ((argsN as).map V.str)) → Q (.ref q) H'
section
variable {P : Program} {w : World} {K : PySem.W.Frag} {mg : Str → Option Value} {base : Heap}
theorem ok_NoA {f : Addr} {fd : FuncData} (F : Fun K "names_of_args" "names_of_args" sNoA f fd) : FnOk P w K mg base CX0 1 f fd PNoA (spNoA K) := by
  refine F.ok scNoA (fun vs H Q E h => ?_) (fun cdv A outer s H vs Q E hr h => ?_)
  · obtain ⟨q, l, rfl, _⟩ := h
    rfl
  · obtain ⟨v, as, rfl, hv, tot, k⟩ := h
    refine ⟨_, (pss_cons (ps_set (i := 1) scNoA.nd rfl (Or.inl rfl) (pe_lst pa_nil))
  (pss_cons (ps_for PassesOwn.never rfl (pi_tup (pv 0)) (pg_tup (by rfl) (pgs_cons (pg_name (i := 2) scNoA.nd rfl (Or.inl rfl)) (pgs_cons (pg_name (i := 3) scNoA.nd rfl (Or.inl rfl)) pgs_nil)))
  (pss_one (ps_expr (pe_bm PySem.F.plainAttrs_list PySem.F.slot_list_extend PySem.F.type_list_extend mt_extend (pv 1) (pa_cons (pe_ifExp (pt_cmpR op_eq (pv 2) pe_str (nomark _)) (pe_lst (pa_cons (pv 3) pa_nil)) (pe_lc (own := [("name", 4), ("factor", 5)]) (g := gTup K 2 (gCons (gName 4) (gCons (gName 5) gNil))) (tt := tYes) rfl scNoA.nd (pi_tup (pe_ix (r := rIxT K) ix_tup (pv 3) pe_int (fun _ _ => rfl))) (blkOk_by (own := [("name", 4), ("factor", 5)]) (N := NNoA) (sc := (defScope sNoA)) (by decide +kernel)) (fun _ _ _ _ _ => (pg_tup (by rfl) (pgs_cons (pg_name (i := 4) scNoA.nd rfl (Or.inl rfl)) (pgs_cons (pg_name (i := 5) scNoA.nd rfl (Or.inl rfl)) pgs_nil)))) (fun _ _ _ _ _ => pts_nil) (fun _ _ _ _ _ => (pv 4)))) pa_nil)))))
  (pss_one (ps_ret (pv 1))))), ?_⟩
    obtain ⟨a, xs, rfl, hq, hd⟩ := hv.tupInv
    have pa := DpAll.map hd
    refine ⟨(by show 0 ≤ sizeLine; decide), fun q hq1 => ?_⟩
    have s1 := same_new (o := .lst []) hq1
    refine ⟨_, rfl, a, rfl, ⟨_, SqT.same s1 hq⟩, ?_⟩
    refine for_tup (K := K) (a := a) (xs := xs) (fun j σ H' => ∃ x2 x3 : Option V, σ = [some (.ref a), some (.ref q), x2, x3, none, none] ∧ Same H H' ∧ H' q = some (.lst (((as.take j).flatMap argN).map V.str))) ⟨_, _, rfl, s1, upd_same⟩ (fun j σ H' _ h' => by obtain ⟨_, _, _, z, _⟩ := h'; exact SqT.same z hq) ?_ ?_
    · rintro j x σ H3 hx ⟨x2, x3, rfl, s3, eq⟩
      obtain ⟨g, hg, hgd⟩ := Paired.at pa hx
      have lall := flat_len (f := argN) (l := as) (j + 1)
      have st := flat_snoc (f := argN) hg
      have lall : (((as.take (j + 1)).flatMap argN)).length ≤ 900 := Nat.le_trans lall tot
      rw [st, List.length_append] at lall
      have fin : ∀ H4 p, Same H3 H4 → H3 p = none → H4 p = some (.lst ((argN g).map V.str)) → p ≠ q ∧ H4 q = some (.lst (((as.take j).flatMap argN).map V.str)) ∧ (((as.take j).flatMap argN).map V.str ++ (argN g).map V.str).length < sizeLine ∧ Same H (upd H4 q (.lst (((as.take j).flatMap argN).map V.str ++ (argN g).map V.str))) ∧ upd H4 q (.lst (((as.take j).flatMap argN).map V.str ++ (argN g).map V.str)) q = some (.lst (((as.take (j + 1)).flatMap argN).map V.str)) := fun H4 p s4 hp e4 => by
        refine ⟨fun z => ?_, s4 _ _ eq, small1000 ?_, fun c o z => ?_, ?_⟩
        · rw [z, eq] at hp; cases hp
        · rw [List.length_append, List.length_map, List.length_map]; omega
        · rw [upd_ne (ne_of_none z hq1)]
          exact s4 _ _ (s3 _ _ z)
        · rw [upd_same, st, List.map_append]
      cases g with
      | place n =>
        have hgd : Dp K H x (.tuple [.str "place", .str n]) := hgd
        obtain ⟨c, ys, rfl, hc, hcd⟩ := hgd.tupInv
        obtain ⟨y, z, rfl, h1, h2⟩ := hcd.two
        rw [h1.strInv, h2.strInv] at hc
        refine ⟨c, _, rfl, SqT.same s3 hc, rfl, _, _, rfl, _, _, rfl, rfl, ?_⟩
        refine ⟨_, rfl, .inl ⟨rfl, _, SqL.of eq⟩, ?_⟩
        refine ⟨_, rfl, rfl, _, rfl, iteS rfl ⟨_, rfl, (by show 1 ≤ sizeLine; decide), fun p hp => ?_⟩⟩
        obtain ⟨f1, f2, f3, f4, f5⟩ := fin _ p (same_new (o := .lst [.str n]) hp) hp upd_same
        refine ⟨q, p, _, _, rfl, rfl, f2, upd_same, Nat.le_of_lt (by rw [List.length_append] at f3; exact f3), ?_⟩
        exact ⟨_, _, rfl, f4, f5⟩
      | value e =>
        have hgd : Dp K H x (.tuple [.str "value", exD e]) := hgd
        obtain ⟨c, ys, rfl, hc, hcd⟩ := hgd.tupInv
        obtain ⟨y, z, rfl, h1, h2⟩ := hcd.two
        rw [h1.strInv] at hc
        refine ⟨c, _, rfl, SqT.same s3 hc, rfl, _, _, rfl, _, _, rfl, rfl, ?_⟩
        refine ⟨_, rfl, .inl ⟨rfl, _, SqL.of eq⟩, ?_⟩
        refine ⟨_, rfl, rfl, _, rfl, iteE (by decide +kernel) ?_⟩
        obtain ⟨z1, zs, rfl, hz, hzd⟩ := h2.tupInv
        obtain ⟨w1, w2, rfl, h4, h5⟩ := hzd.two
        obtain ⟨b, ts, rfl, hb, hbd⟩ := h5.tupInv
        have pt := DpAll.map hbd
        have lt : ts.length = e.ts.length := Paired.length pt
        have le : e.ts.length ≤ 900 := by
          have : (argN (.value e)).length = e.ts.length := by show (e.ts.map Prod.fst).length = _; rw [List.length_map]
          omega
        refine ⟨_, rfl, z1, _, _, _, rfl, rfl, SqT.same s3 hz, rfl, b, rfl, ⟨_, SqT.same s3 hb⟩, fun D hD => ?_⟩
        refine lc_tup (K := K) (a := b) (xs := ts) (fun i H' => Same H3 H' ∧ H' D = some (.lst ((e.ts.take i).map fun p => V.str p.1))) ⟨same_new hD, upd_same⟩ (fun i H' _ h' => SqT.same (s3.trans h'.1) hb) ?_ ?_
        · rintro i z H2 hz ⟨s2, eD⟩
          obtain ⟨pr, ht, htd⟩ := Paired.at pt hz
          obtain ⟨c, zs, rfl, hc, hcd⟩ := htd.tupInv
          obtain ⟨u, w, rfl, hu, hw⟩ := hcd.two
          rw [hu.strInv] at hc
          have hi : i < ts.length := (List.getElem?_eq_some_iff.mp hz).1
          refine ⟨c, _, rfl, SqT.same (s3.trans s2) hc, rfl, _, _, rfl, _, _, rfl, rfl, rfl, _, rfl, _, eD, small1000 (by rw [List.length_map, List.length_take]; omega), fun c o z => ?_, ?_⟩
          · rw [upd_ne (ne_of_none z hD)]
            exact s2 _ _ z
          · rw [upd_same, take_snoc ht, List.map_append]
            rfl
        · rintro H2 ⟨s2, eD⟩
          rw [lt, List.take_length] at eD
          have eD : H2 D = some (.lst ((argN (.value e)).map V.str)) := by rw [eD]; show _ = some (HO.lst ((e.ts.map Prod.fst).map V.str)); rw [List.map_map]; rfl
          obtain ⟨f1, f2, f3, f4, f5⟩ := fin _ D s2 hD eD
          refine ⟨q, D, _, _, rfl, rfl, f2, eD, Nat.le_of_lt (by rw [List.length_append] at f3; exact f3), ?_⟩
          exact ⟨_, _, rfl, f4, f5⟩
    · rintro σ H3 ⟨x2, x3, rfl, s3, eq⟩
      rw [Paired.length pa, List.take_length] at eq
      exact ⟨_, rfl, k q H3 s3 hq1 eq⟩
end

/-! ### expressions_of -/
abbrev sExs : Stmt := topS 52
abbrev NExs : List Str := ["statement", "target", "expression", "name", "args", "word", "one", "enter", "leave", "kinds", "block"]
abbrev PExs : List Str := ["statement"]
theorem scExs : FnScope NExs PExs (defScope sExs) := ⟨rfl, rfl, rfl, by decide +kernel, rfl, by decide +kernel, by decide +kernel⟩
def valE : Arg → Option Ex
  | .value e => some e
  | _ => none
def exprS : St → List Ex
  | .set _ e => [e]
  | .ret e => [e]
  | .call _ _ as => as.filterMap valE
  | .with_ e l _ _ => (e.2 ++ l.2).filterMap valE
  | _ => []
def spExs (K : PySem.W.Frag) : Sp := fun vs H Q _ => ∃ (v : V) (s : St), vs = [v] ∧ Dp K H v (stD s) ∧ okS s ∧ ∀ (q : Addr) (xs : List V) (H' : Hp), Same H H' → H q = none → H' q = some (.lst xs) → Paired (fun x e => Dp K H' x (exD e)) xs (exprS s) → Q (.ref q) H'
section
variable {P : Program} {w : World} {K : PySem.W.Frag} {mg : Str → Option Value} {base : Heap}
theorem sizeBig {n : Nat} (h : n ≤ 5000) : n < sizeLine := Nat.lt_of_le_of_lt h (by decide)
/-- the reading of [one for word, one in args if word == 'value'] -/
theorem filterMap_snoc2 {α β : Type} {f : α → Option β} {l : List α} {j : Nat} {x : α} (h : l[j]? = some x) : (l.take (j + 1)).filterMap f = (l.take j).filterMap f ++ (f x).toList := filterMap_snoc h
theorem ok_Exs {f : Addr} {fd : FuncData} (F : Fun K "expressions_of" "expressions_of" sExs f fd) : FnOk P w K mg base CX0 1 f fd PExs (spExs K) := by
  refine F.ok scExs (fun vs H Q E h => ?_) (fun cdv A outer s H vs Q E hr h => ?_)
  · obtain ⟨q, l, rfl, _⟩ := h
    rfl
  · obtain ⟨v, st, rfl, hv, ok, k⟩ := h
    refine ⟨_, (pss_one (ps_match (pv 0) (pcs_cons scExs.nd (pm_seq rfl (pms_cons pm_str (pms_cons (pm_as (i := 1) rfl (Or.inl rfl)) (pms_cons (pm_as (i := 2) rfl (Or.inl rfl)) pms_nil))))
  (pss_one (ps_ret (pe_lst (pa_cons (pv 2) pa_nil))))
  (pcs_cons scExs.nd (pm_seq rfl (pms_cons pm_str (pms_cons (pm_as (i := 2) rfl (Or.inl rfl)) pms_nil)))
  (pss_one (ps_ret (pe_lst (pa_cons (pv 2) pa_nil))))
  (pcs_cons scExs.nd (pm_seq rfl (pms_cons pm_str (pms_cons (pm_as (i := 1) rfl (Or.inl rfl)) (pms_cons (pm_as (i := 3) rfl (Or.inl rfl)) (pms_cons (pm_as (i := 4) rfl (Or.inl rfl)) pms_nil)))))
  (pss_one (ps_ret (pe_lc (own := [("word", 5), ("one", 6)]) (g := gTup K 2 (gCons (gName 5) (gCons (gName 6) gNil))) rfl scExs.nd (pi_tup (pv 4)) (blkOk_by (own := [("word", 5), ("one", 6)]) (N := NExs) (sc := (defScope sExs)) (by decide +kernel)) (fun _ _ _ _ _ => (pg_tup (by rfl) (pgs_cons (pg_name (i := 5) scExs.nd rfl (Or.inl rfl)) (pgs_cons (pg_name (i := 6) scExs.nd rfl (Or.inl rfl)) pgs_nil)))) (fun _ _ _ _ _ => (pts_one (pt_cmpR op_eq (pv 5) pe_str (nomark _)))) (fun _ _ _ _ _ => (pv 6)))))
  (pcs_cons scExs.nd (pm_seq rfl (pms_cons pm_str (pms_cons (pm_as (i := 7) rfl (Or.inl rfl)) (pms_cons (pm_as (i := 8) rfl (Or.inl rfl)) (pms_cons (pm_as (i := 9) rfl (Or.inl rfl)) (pms_cons (pm_as (i := 10) rfl (Or.inl rfl)) pms_nil))))))
  (pss_one (ps_ret (pe_lc (own := [("word", 5), ("one", 6)]) (g := gTup K 2 (gCons (gName 5) (gCons (gName 6) gNil))) rfl scExs.nd (pi_tup (pe_op op_catA (pe_ix (r := rIxT K) ix_tup (pv 7) pe_int (fun _ _ => rfl)) (pe_ix (r := rIxT K) ix_tup (pv 8) pe_int (fun _ _ => rfl)))) (blkOk_by (own := [("word", 5), ("one", 6)]) (N := NExs) (sc := (defScope sExs)) (by decide +kernel)) (fun _ _ _ _ _ => (pg_tup (by rfl) (pgs_cons (pg_name (i := 5) scExs.nd rfl (Or.inl rfl)) (pgs_cons (pg_name (i := 6) scExs.nd rfl (Or.inl rfl)) pgs_nil)))) (fun _ _ _ _ _ => (pts_one (pt_cmpR op_eq (pv 5) pe_str (nomark _)))) (fun _ _ _ _ _ => (pv 6)))))
  (pcs_cons scExs.nd pm_wild
  (pss_one (ps_ret (pe_lst pa_nil)))
  pcs_nil))))))), ?_⟩
    obtain ⟨a, xs, rfl, hq, hd⟩ := stInv hv
    refine ⟨_, rfl, ?_⟩
    cases st <;> simp only [wordS] at hq
    case set t e =>
      obtain ⟨x, y, rfl, h1, h2⟩ := DpAll.two hd
      refine case_hit hq rfl ⟨_, _, rfl, _, _, rfl, ?_⟩
      refine ⟨_, rfl, (by show 1 ≤ sizeLine; decide), fun q hq1 => ?_⟩
      have s1 := same_new (o := .lst [y]) hq1
      exact k q _ _ s1 hq1 upd_same (.cons (h2.same s1) .nil)
    case ret e =>
      obtain ⟨y, rfl, h2⟩ := DpAll.one hd
      repeat (first | refine case_len hq (Nat.ne_of_beq_eq_false rfl) ?_ | refine case_word hq rfl (by decide +kernel) ?_)
      refine case_hit hq rfl ⟨_, _, rfl, ?_⟩
      refine ⟨_, rfl, (by show 1 ≤ sizeLine; decide), fun q hq1 => ?_⟩
      have s1 := same_new (o := .lst [y]) hq1
      exact k q _ _ s1 hq1 upd_same (.cons (h2.same s1) .nil)
    case call t g as =>
      have ok : (∀ x, t = some x → okN1 x) ∧ okN1 g ∧ okAs as := ok
      obtain ⟨x, y, z, rfl, h1, h2, h3⟩ := DpAll.three hd
      obtain ⟨b, ys, rfl, hb, hbd⟩ := h3.tupInv
      have pa := DpAll.map hbd
      have la : ys.length = as.length := Paired.length pa
      have l9 : as.length ≤ 900 := ok.2.2.1
      repeat (first | refine case_len hq (Nat.ne_of_beq_eq_false rfl) ?_ | refine case_word hq rfl (by decide +kernel) ?_)
      refine case_hit hq rfl ⟨_, _, rfl, _, _, rfl, _, _, rfl, ?_⟩
      refine ⟨_, rfl, b, rfl, ⟨_, hb⟩, fun D hD => ?_⟩
      refine lc_tup (K := K) (a := b) (xs := ys) (fun i H' => Same H H' ∧ ∃ us, H' D = some (.lst us) ∧ us.length ≤ i ∧ Paired (fun x e => Dp K H x (exD e)) us ((as.take i).filterMap valE)) ⟨same_new hD, [], upd_same, Nat.le_refl _, .nil⟩ (fun i H' _ h' => SqT.same h'.1 hb) ?_ ?_
      · rintro i z H2 hz ⟨s2, us, eD, lu, pu⟩
        obtain ⟨g2, hg, hgd⟩ := Paired.at pa hz
        have hi : i < ys.length := (List.getElem?_eq_some_iff.mp hz).1
        have fm := filterMap_snoc (f := valE) hg
        cases g2 with
        | place n =>
          have hgd : Dp K H z (.tuple [.str "place", .str n]) := hgd
          obtain ⟨c, zs, rfl, hc, hcd⟩ := hgd.tupInv
          obtain ⟨u, w, rfl, hu, hw⟩ := hcd.two
          rw [hu.strInv] at hc
          refine ⟨c, _, rfl, SqT.same s2 hc, rfl, _, _, rfl, _, _, rfl, rfl, rfl, ?_⟩
          refine ⟨_, rfl, rfl, _, rfl, iteE (by decide +kernel) ?_⟩
          exact ⟨s2, us, eD, by omega, by rw [fm]; show Paired _ us (_ ++ []); rw [List.append_nil]; exact pu⟩
        | value e =>
          have hgd : Dp K H z (.tuple [.str "value", exD e]) := hgd
          obtain ⟨c, zs, rfl, hc, hcd⟩ := hgd.tupInv
          obtain ⟨u, w, rfl, hu, hw⟩ := hcd.two
          rw [hu.strInv] at hc
          refine ⟨c, _, rfl, SqT.same s2 hc, rfl, _, _, rfl, _, _, rfl, rfl, rfl, ?_⟩
          refine ⟨_, rfl, rfl, _, rfl, iteS rfl ?_⟩
          refine ⟨_, rfl, _, eD, small1000 (by omega), fun c o z => ?_, _, upd_same, by rw [List.length_append]; show us.length + 1 ≤ _; omega, ?_⟩
          · rw [upd_ne (ne_of_none z hD)]
            exact s2 _ _ z
          · rw [fm]
            exact Paired.snoc pu hw
      · rintro H2 ⟨s2, us, eD, lu, pu⟩
        rw [la, List.take_length] at pu
        exact k D us H2 s2 hD eD (Paired.mapP pu fun _ _ z => z.same s2)
    case with_ e l ks p =>
      have ok : (okCal e ∧ okCal l ∧ okNs ks) ∧ (p.length ≤ 900 ∧ okL p) := ok
      obtain ⟨x, y, z, u, rfl, h1, h2, h3, h4⟩ := DpAll.four hd
      have h1 : Dp K H x (.tuple [.str e.1, .tuple (e.2.map argD)]) := h1
      have h2 : Dp K H y (.tuple [.str l.1, .tuple (l.2.map argD)]) := h2
      obtain ⟨x0, ex, rfl, hx0, hxd⟩ := h1.tupInv
      obtain ⟨e1, e2, rfl, _, he2⟩ := hxd.two
      obtain ⟨y0, ey, rfl, hy0, hyd⟩ := h2.tupInv
      obtain ⟨l1, l2, rfl, _, hl2⟩ := hyd.two
      obtain ⟨b1, ys1, rfl, hb1, hbd1⟩ := he2.tupInv
      obtain ⟨b2, ys2, rfl, hb2, hbd2⟩ := hl2.tupInv
      have pa1 := DpAll.map hbd1
      have pa2 := DpAll.map hbd2
      have m1 : ys1.length = e.2.length := Paired.length pa1
      have m2 : ys2.length = l.2.length := Paired.length pa2
      have n1 : e.2.length ≤ 900 := ok.1.1.2.1
      have n2 : l.2.length ≤ 900 := ok.1.2.1.2.1
      have pal := Paired.app pa1 pa2
      have ll : (ys1 ++ ys2).length = (e.2 ++ l.2).length := Paired.length pal
      have s0 := Same.refl H
      repeat (first | refine case_len hq (Nat.ne_of_beq_eq_false rfl) ?_ | refine case_word hq rfl (by decide +kernel) ?_)
      refine case_hit hq rfl ⟨_, _, rfl, _, _, rfl, _, _, rfl, _, _, rfl, ?_⟩
      refine ⟨_, rfl, x0, _, _, _, rfl, rfl, hx0, rfl, _, rfl, y0, _, _, _, rfl, rfl, hy0, rfl, ?_⟩
      refine ⟨b1, b2, ys1, ys2, rfl, rfl, hb1, hb2, Nat.le_of_lt (sizeBig (by omega)), fun en => ?_, fun _ en => ?_, fun _ _ q hq1 => ?_⟩
      · have hbb : SqT K H b2 (ys1 ++ ys2) := by rw [en]; exact hb2
        refine ⟨_, rfl, ⟨_, hbb⟩, fun D hD => ?_⟩
        refine lc_tup (K := K) (a := b2) (xs := ys1 ++ ys2) (fun i H' => Same H H' ∧ ∃ us, H' D = some (.lst us) ∧ us.length ≤ i ∧ Paired (fun x e => Dp K H x (exD e)) us (((e.2 ++ l.2).take i).filterMap valE)) ⟨same_new hD, [], upd_same, Nat.le_refl _, .nil⟩ (fun i H' _ h' => SqT.same h'.1 hbb) ?_ ?_
        · rintro i z H2 hz ⟨s2, us, eD, lu, pu⟩
          obtain ⟨g2, hg, hgd⟩ := Paired.at pal hz
          have hi : i < (ys1 ++ ys2).length := (List.getElem?_eq_some_iff.mp hz).1
          rw [List.length_append] at hi
          have fm := filterMap_snoc (f := valE) hg
          cases g2 with
          | place n =>
            have hgd : Dp K H z (.tuple [.str "place", .str n]) := hgd
            obtain ⟨c, zs, rfl, hc, hcd⟩ := hgd.tupInv
            obtain ⟨u, w, rfl, hu, hw⟩ := hcd.two
            rw [hu.strInv] at hc
            refine ⟨c, _, rfl, SqT.same (s0.trans s2) hc, rfl, _, _, rfl, _, _, rfl, rfl, rfl, ?_⟩
            refine ⟨_, rfl, rfl, _, rfl, iteE (by decide +kernel) ?_⟩
            exact ⟨s2, us, eD, by omega, by rw [fm]; show Paired _ us (_ ++ []); rw [List.append_nil]; exact pu⟩
          | value e =>
            have hgd : Dp K H z (.tuple [.str "value", exD e]) := hgd
            obtain ⟨c, zs, rfl, hc, hcd⟩ := hgd.tupInv
            obtain ⟨u, w, rfl, hu, hw⟩ := hcd.two
            rw [hu.strInv] at hc
            refine ⟨c, _, rfl, SqT.same (s0.trans s2) hc, rfl, _, _, rfl, _, _, rfl, rfl, rfl, ?_⟩
            refine ⟨_, rfl, rfl, _, rfl, iteS rfl ?_⟩
            refine ⟨_, rfl, _, eD, sizeBig (by omega), fun c o z => ?_, _, upd_same, by rw [List.length_append]; show us.length + 1 ≤ _; omega, ?_⟩
            · rw [upd_ne (ne_of_none z hD)]
              exact s2 _ _ z
            · rw [fm]
              exact Paired.snoc pu hw
        · rintro H2 ⟨s2, us, eD, lu, pu⟩
          rw [ll, List.take_length] at pu
          exact k D us H2 (s0.trans s2) (none_same s0 hD) eD (Paired.mapP pu fun _ _ z => z.same (s0.trans s2))
      · have hbb : SqT K H b1 (ys1 ++ ys2) := by rw [en, List.append_nil]; exact hb1
        refine ⟨_, rfl, ⟨_, hbb⟩, fun D hD => ?_⟩
        refine lc_tup (K := K) (a := b1) (xs := ys1 ++ ys2) (fun i H' => Same H H' ∧ ∃ us, H' D = some (.lst us) ∧ us.length ≤ i ∧ Paired (fun x e => Dp K H x (exD e)) us (((e.2 ++ l.2).take i).filterMap valE)) ⟨same_new hD, [], upd_same, Nat.le_refl _, .nil⟩ (fun i H' _ h' => SqT.same h'.1 hbb) ?_ ?_
        · rintro i z H2 hz ⟨s2, us, eD, lu, pu⟩
          obtain ⟨g2, hg, hgd⟩ := Paired.at pal hz
          have hi : i < (ys1 ++ ys2).length := (List.getElem?_eq_some_iff.mp hz).1
          rw [List.length_append] at hi
          have fm := filterMap_snoc (f := valE) hg
          cases g2 with
          | place n =>
            have hgd : Dp K H z (.tuple [.str "place", .str n]) := hgd
            obtain ⟨c, zs, rfl, hc, hcd⟩ := hgd.tupInv
            obtain ⟨u, w, rfl, hu, hw⟩ := hcd.two
            rw [hu.strInv] at hc
            refine ⟨c, _, rfl, SqT.same (s0.trans s2) hc, rfl, _, _, rfl, _, _, rfl, rfl, rfl, ?_⟩
            refine ⟨_, rfl, rfl, _, rfl, iteE (by decide +kernel) ?_⟩
            exact ⟨s2, us, eD, by omega, by rw [fm]; show Paired _ us (_ ++ []); rw [List.append_nil]; exact pu⟩
          | value e =>
            have hgd : Dp K H z (.tuple [.str "value", exD e]) := hgd
            obtain ⟨c, zs, rfl, hc, hcd⟩ := hgd.tupInv
            obtain ⟨u, w, rfl, hu, hw⟩ := hcd.two
            rw [hu.strInv] at hc
            refine ⟨c, _, rfl, SqT.same (s0.trans s2) hc, rfl, _, _, rfl, _, _, rfl, rfl, rfl, ?_⟩
            refine ⟨_, rfl, rfl, _, rfl, iteS rfl ?_⟩
            refine ⟨_, rfl, _, eD, sizeBig (by omega), fun c o z => ?_, _, upd_same, by rw [List.length_append]; show us.length + 1 ≤ _; omega, ?_⟩
            · rw [upd_ne (ne_of_none z hD)]
              exact s2 _ _ z
            · rw [fm]
              exact Paired.snoc pu hw
        · rintro H2 ⟨s2, us, eD, lu, pu⟩
          rw [ll, List.take_length] at pu
          exact k D us H2 (s0.trans s2) (none_same s0 hD) eD (Paired.mapP pu fun _ _ z => z.same (s0.trans s2))
      · have s1 := same_new (o := .tup (ys1 ++ ys2)) hq1
        have hbb : SqT K (upd H q (.tup (ys1 ++ ys2))) q (ys1 ++ ys2) := SqT.of upd_same
        refine ⟨_, rfl, ⟨_, hbb⟩, fun D hD => ?_⟩
        refine lc_tup (K := K) (a := q) (xs := ys1 ++ ys2) (fun i H' => Same (upd H q (.tup (ys1 ++ ys2))) H' ∧ ∃ us, H' D = some (.lst us) ∧ us.length ≤ i ∧ Paired (fun x e => Dp K H x (exD e)) us (((e.2 ++ l.2).take i).filterMap valE)) ⟨same_new hD, [], upd_same, Nat.le_refl _, .nil⟩ (fun i H' _ h' => SqT.same h'.1 hbb) ?_ ?_
        · rintro i z H2 hz ⟨s2, us, eD, lu, pu⟩
          obtain ⟨g2, hg, hgd⟩ := Paired.at pal hz
          have hi : i < (ys1 ++ ys2).length := (List.getElem?_eq_some_iff.mp hz).1
          rw [List.length_append] at hi
          have fm := filterMap_snoc (f := valE) hg
          cases g2 with
          | place n =>
            have hgd : Dp K H z (.tuple [.str "place", .str n]) := hgd
            obtain ⟨c, zs, rfl, hc, hcd⟩ := hgd.tupInv
            obtain ⟨u, w, rfl, hu, hw⟩ := hcd.two
            rw [hu.strInv] at hc
            refine ⟨c, _, rfl, SqT.same (s1.trans s2) hc, rfl, _, _, rfl, _, _, rfl, rfl, rfl, ?_⟩
            refine ⟨_, rfl, rfl, _, rfl, iteE (by decide +kernel) ?_⟩
            exact ⟨s2, us, eD, by omega, by rw [fm]; show Paired _ us (_ ++ []); rw [List.append_nil]; exact pu⟩
          | value e =>
            have hgd : Dp K H z (.tuple [.str "value", exD e]) := hgd
            obtain ⟨c, zs, rfl, hc, hcd⟩ := hgd.tupInv
            obtain ⟨u, w, rfl, hu, hw⟩ := hcd.two
            rw [hu.strInv] at hc
            refine ⟨c, _, rfl, SqT.same (s1.trans s2) hc, rfl, _, _, rfl, _, _, rfl, rfl, rfl, ?_⟩
            refine ⟨_, rfl, rfl, _, rfl, iteS rfl ?_⟩
            refine ⟨_, rfl, _, eD, sizeBig (by omega), fun c o z => ?_, _, upd_same, by rw [List.length_append]; show us.length + 1 ≤ _; omega, ?_⟩
            · rw [upd_ne (ne_of_none z hD)]
              exact s2 _ _ z
            · rw [fm]
              exact Paired.snoc pu hw
        · rintro H2 ⟨s2, us, eD, lu, pu⟩
          rw [ll, List.take_length] at pu
          exact k D us H2 (s1.trans s2) (none_same s1 hD) eD (Paired.mapP pu fun _ _ z => z.same (s1.trans s2))
    all_goals
      first
        | obtain ⟨_, rfl, _⟩ := DpAll.one hd
        | obtain ⟨_, _, rfl, _, _⟩ := DpAll.two hd
        | obtain ⟨_, _, _, rfl, _⟩ := DpAll.three hd
      repeat (first | refine case_len hq (Nat.ne_of_beq_eq_false rfl) ?_ | refine case_word hq rfl (by decide +kernel) ?_)
      refine ⟨(by show 0 ≤ sizeLine; decide), fun q hq1 => ?_⟩
      exact k q _ _ (same_new hq1) hq1 upd_same .nil
end

/-! ### fits -/
abbrev sFits : Stmt := topS 58
abbrev NFits : List Str := ["tree", "callee", "args", "name", "params", "block", "one", "by_place", "word"]
abbrev PFits : List Str := ["tree", "callee", "args"]
theorem scFits : FnScope NFits PFits (defScope sFits) := ⟨rfl, rfl, rfl, by decide +kernel, rfl, by decide +kernel, by decide +kernel⟩
def isPl : Arg → Bool
  | .place _ => true
  | _ => false
def Fit (t : Tr) (callee : Str) (as : List Arg) : Prop := (∃ f ∈ t.fns, f.name = callee) ∧ ∀ f ∈ t.fns, f.name = callee → f.ps.map Prod.snd = as.map isPl
def spFits (K : PySem.W.Frag) : Sp := fun vs H Q _ => ∃ (v u : V) (t : Tr) (c : Str) (as : List Arg), vs = [v, .str c, u] ∧ Dp K H v (trD t) ∧ Dp K H u (.tuple (as.map argD)) ∧ as.length ≤ 900 ∧ Fit t c as ∧ ∀ H', Same H H' → Q (.bl true) H'
theorem shaped_bools (l : List Bool) : SeqAt.shaped (.list (l.map PyData.bool)) = true := by
  have h1 : ∀ l : List Bool, PyData.canLayAll0 (l.map PyData.bool) = true := fun l => by
    induction l with
    | nil => simp [PyData.canLayAll0]
    | cons b r ih => simp only [List.map_cons, PyData.canLayAll0, PyData.canLay0, Bool.true_and]; exact ih
  have h2 : ∀ l : List Bool, PyData.depthAll (l.map PyData.bool) = 0 := fun l => by
    induction l with
    | nil => simp [PyData.depthAll]
    | cons b r ih => simp only [List.map_cons, PyData.depthAll, PyData.depth, ih]; rfl
  unfold SeqAt.shaped
  simp only [PyData.canLay0, PyData.depth, h1, h2, Bool.true_and]
  decide
theorem eqv_bools (l : List Bool) : PyData.eqv (.list (l.map PyData.bool)) (.list (l.map PyData.bool)) = true := SeqAt.eqv_refl _ (by
  have h := shaped_bools l
  unfold SeqAt.shaped at h
  rw [Bool.and_eq_true] at h
  exact h.1)
theorem dp_bools {K : PySem.W.Frag} {H : Hp} : ∀ l : List Bool, DpAll K H (l.map V.bl) (l.map PyData.bool)
  | [] => .nil
  | b :: r => .cons (.bl b) (dp_bools r)
section
variable {P : Program} {w : World} {K : PySem.W.Frag} {mg : Str → Option Value} {base : Heap}
theorem ok_Fits {f : Addr} {fd : FuncData} (F : Fun K "fits" "fits" sFits f fd) : FnOk P w K mg base CX0 1 f fd PFits (spFits K) := by
  refine F.ok scFits (fun vs H Q E h => ?_) (fun cdv A outer s H vs Q E hr h => ?_)
  · obtain ⟨q, l, _, _, _, rfl, _⟩ := h
    rfl
  · obtain ⟨v, u, t, cl, as, rfl, hv, hu, la, ⟨⟨g0, hg0, hg1⟩, uni⟩, k⟩ := h
    refine ⟨_, (pss_cons (ps_for PassesOwn.never rfl (pi_tup (pe_ix (r := rIxT K) ix_tup (pv 0) pe_int (fun _ _ => rfl))) (pg_tup (by rfl) (pgs_cons (pg_name (i := 3) scFits.nd rfl (Or.inl rfl)) (pgs_cons (pg_name (i := 4) scFits.nd rfl (Or.inl rfl)) (pgs_cons (pg_name (i := 5) scFits.nd rfl (Or.inl rfl)) pgs_nil))))
  (pss_one (ps_if (pt_cmpR op_eq (pv 3) (pv 1) (nomark _))
  (pss_one (ps_ret (pe_cmpR (op_eqD hr.units) (pe_lc (own := [("one", 6), ("by_place", 7)]) (g := gTup K 2 (gCons (gName 6) (gCons (gName 7) gNil))) (tt := tYes) rfl scFits.nd (pi_tup (pv 4)) (blkOk_by (own := [("one", 6), ("by_place", 7)]) (N := NFits) (sc := (defScope sFits)) (by decide +kernel)) (fun _ _ _ _ _ => (pg_tup (by rfl) (pgs_cons (pg_name (i := 6) scFits.nd rfl (Or.inl rfl)) (pgs_cons (pg_name (i := 7) scFits.nd rfl (Or.inl rfl)) pgs_nil)))) (fun _ _ _ _ _ => pts_nil) (fun _ _ _ _ _ => (pv 7))) (pe_lc (own := [("word", 8), ("one", 6)]) (g := gTup K 2 (gCons (gName 8) (gCons (gName 6) gNil))) (tt := tYes) rfl scFits.nd (pi_tup (pv 2)) (blkOk_by (own := [("word", 8), ("one", 6)]) (N := NFits) (sc := (defScope sFits)) (by decide +kernel)) (fun _ _ _ _ _ => (pg_tup (by rfl) (pgs_cons (pg_name (i := 8) scFits.nd rfl (Or.inl rfl)) (pgs_cons (pg_name (i := 6) scFits.nd rfl (Or.inl rfl)) pgs_nil)))) (fun _ _ _ _ _ => pts_nil) (fun _ _ _ _ _ => (pe_cmpR op_eq (pv 8) pe_str (nomark _)))) (nomark _))))
  pss_nil)))
  (pss_one (ps_ret pe_bl))), ?_⟩
    have hv : Dp K H v (.tuple [nmD t.names, nmD t.kinds, .tuple (t.keeps.map exD), .tuple (t.fns.map fnD)]) := hv
    obtain ⟨a, xs, rfl, hq, hd⟩ := hv.tupInv
    obtain ⟨x0, x1, x2, uu, rfl, _, _, _, hx⟩ := hd.four
    obtain ⟨g, gs, rfl, hg, hgd⟩ := hx.tupInv
    have pf := DpAll.map hgd
    obtain ⟨b, ys, rfl, hb, hbd⟩ := hu.tupInv
    have pa := DpAll.map hbd
    have ly : ys.length = as.length := Paired.length pa
    refine ⟨_, rfl, a, _, _, _, rfl, rfl, hq, rfl, g, rfl, ⟨_, hg⟩, ?_⟩
    refine for_tup (K := K) (a := g) (xs := gs) (fun j σ H' => (∃ i0, j ≤ i0 ∧ t.fns[i0]? = some g0) ∧ Same H H' ∧ ∃ x3 x4 x5 : Option V, σ = [some (.ref a), some (.str cl), some (.ref b), x3, x4, x5, none, none, none]) ⟨?_, Same.refl _, none, none, none, rfl⟩ (fun j σ H' _ h' => SqT.same h'.2.1 hg) ?_ ?_
    · obtain ⟨i0, hi0⟩ := List.mem_iff_getElem?.mp hg0
      exact ⟨i0, Nat.zero_le _, hi0⟩
    · rintro j x σ H1 hx ⟨⟨i0, hj, hi0⟩, s1, x3, x4, x5, rfl⟩
      obtain ⟨fn, hfn, hfd⟩ := Paired.at pf hx
      have hfd : Dp K H x (.tuple [.str fn.name, .tuple (fn.ps.map prD), blD fn.b]) := hfd
      obtain ⟨c, zs, rfl, hc, hcd⟩ := hfd.tupInv
      obtain ⟨u1, u2, u3, rfl, h1, h2, h3⟩ := hcd.three
      obtain ⟨p, ps, rfl, hp, hpd⟩ := h2.tupInv
      have pp := DpAll.map hpd
      have lp : ps.length = fn.ps.length := Paired.length pp
      rw [h1.strInv] at hc
      refine ⟨c, _, rfl, SqT.same s1 hc, rfl, _, _, rfl, _, _, rfl, _, _, rfl, rfl, ?_⟩
      refine ⟨_, rfl, _, rfl, rfl, _, rfl, ?_⟩
      by_cases e : fn.name = cl
      · refine iteS (decide_eq_true (by rw [e])) ?_
        have ef := uni fn (List.mem_of_getElem? hfn) e
        have lf : fn.ps.length = as.length := by
          have := congrArg List.length ef
          simpa using this
        refine ⟨_, rfl, p, rfl, ⟨_, SqT.same s1 hp⟩, fun D hD => ?_⟩
        refine lc_tup (K := K) (a := p) (xs := ps) (fun i H' => Same H1 H' ∧ H' D = some (.lst (((fn.ps.take i).map Prod.snd).map V.bl))) ⟨same_new hD, upd_same⟩ (fun i H' _ h' => SqT.same (s1.trans h'.1) hp) ?_ ?_
        · rintro i z H2 hz ⟨s2, eD⟩
          obtain ⟨pr, ht, htd⟩ := Paired.at pp hz
          have htd : Dp K H z (.tuple [.str pr.1, .bool pr.2]) := htd
          obtain ⟨d, zs, rfl, hd, hdd⟩ := htd.tupInv
          obtain ⟨u, w, rfl, hu, hw⟩ := hdd.two
          rw [hu.strInv, Dp.blInv hw] at hd
          have hi : i < ps.length := (List.getElem?_eq_some_iff.mp hz).1
          refine ⟨d, _, rfl, SqT.same (s1.trans s2) hd, rfl, _, _, rfl, _, _, rfl, rfl, rfl, _, rfl, _, eD, small1000 (by rw [List.length_map, List.length_map, List.length_take]; omega), fun c o z => ?_, ?_⟩
          · rw [upd_ne (ne_of_none z hD)]
            exact s2 _ _ z
          · rw [upd_same, take_snoc ht, List.map_append, List.map_append]
            rfl
        · rintro H2 ⟨s2, eD⟩
          rw [lp, List.take_length] at eD
          have s3 := s1.trans s2
          refine ⟨_, rfl, b, rfl, ⟨_, SqT.same s3 hb⟩, fun D2 hD2 => ?_⟩
          refine lc_tup (K := K) (a := b) (xs := ys) (fun i H' => Same H2 H' ∧ H' D2 = some (.lst (((as.take i).map isPl).map V.bl))) ⟨same_new hD2, upd_same⟩ (fun i H' _ h' => SqT.same (s3.trans h'.1) hb) ?_ ?_
          · rintro i z H4 hz ⟨s4, eD2⟩
            obtain ⟨g2, hg, hgd⟩ := Paired.at pa hz
            have hi : i < ys.length := (List.getElem?_eq_some_iff.mp hz).1
            have fin : (((as.take i).map isPl).map V.bl).length < sizeLine ∧ Same H2 (upd H4 D2 (.lst (((as.take i).map isPl).map V.bl ++ [.bl (isPl g2)]))) ∧ upd H4 D2 (.lst (((as.take i).map isPl).map V.bl ++ [.bl (isPl g2)])) D2 = some (.lst (((as.take (i + 1)).map isPl).map V.bl)) := by
              refine ⟨small1000 (by rw [List.length_map, List.length_map, List.length_take]; omega), fun c o z => ?_, ?_⟩
              · rw [upd_ne (ne_of_none z hD2)]
                exact s4 _ _ z
              · rw [upd_same, take_snoc hg, List.map_append, List.map_append]
                rfl
            cases g2 with
            | place n =>
              have hgd : Dp K H z (.tuple [.str "place", .str n]) := hgd
              obtain ⟨d, zs, rfl, hd, hdd⟩ := hgd.tupInv
              obtain ⟨u, w, rfl, hu, hw⟩ := hdd.two
              rw [hu.strInv] at hd
              refine ⟨d, _, rfl, SqT.same (s3.trans s4) hd, rfl, _, _, rfl, _, _, rfl, rfl, rfl, _, rfl, rfl, _, eD2, fin.1, ?_⟩
              rw [decide_eq_true rfl]
              exact fin.2
            | value n =>
              have hgd : Dp K H z (.tuple [.str "value", exD n]) := hgd
              obtain ⟨d, zs, rfl, hd, hdd⟩ := hgd.tupInv
              obtain ⟨u, w, rfl, hu, hw⟩ := hdd.two
              rw [hu.strInv] at hd
              refine ⟨d, _, rfl, SqT.same (s3.trans s4) hd, rfl, _, _, rfl, _, _, rfl, rfl, rfl, _, rfl, rfl, _, eD2, fin.1, ?_⟩
              rw [decide_eq_false (by decide +kernel)]
              exact fin.2
          · rintro H4 ⟨s4, eD2⟩
            rw [ly, List.take_length, ← ef] at eD2
            refine ⟨_, _, .lst (SqL.of (s4 _ _ eD)) (dp_bools _), .lst (SqL.of eD2) (dp_bools _), shaped_bools _, shaped_bools _, ?_⟩
            rw [eqv_bools]
            exact k _ (s3.trans s4)
      · refine iteE (decide_eq_false (fun z => e (by injection z))) ?_
        refine ⟨⟨i0, ?_, hi0⟩, s1, _, _, _, rfl⟩
        rcases Nat.lt_or_ge j i0 with z | z
        · exact z
        · exfalso
          have : j = i0 := by omega
          subst this
          rw [hi0] at hfn
          injection hfn with hfn
          exact e (by rw [← hfn]; exact hg1)
    · rintro σ H1 ⟨⟨i0, hj, hi0⟩, s1, x3, x4, x5, rfl⟩
      exfalso
      have := (List.getElem?_eq_some_iff.mp hi0).1
      have := Paired.length pf
      omega
end

/-! ### two `for`s in a comprehension -/
theorem walkB {K : PySem.W.Frag} {a : Addr} {xs : List V} {B : (Hp → Prop) → V → Hp → Prop} {H0 : Hp} {Qd : Hp → Prop} (Pv : Nat → Hp → Prop) (h0 : Pv 0 H0) (hl : ∀ i H, i ≤ xs.length → Pv i H → SqT K H a xs)
    (hs : ∀ i x H, xs[i]? = some x → Pv i H → B (Pv (i + 1)) x H) (hd : ∀ H, Pv xs.length H → Qd H) :
    ∃ W : Nat → Nat → Hp → Prop, (∃ m, W 0 m H0) ∧ ∀ i m H, W i m H →
      ((Itt K a).stop i H ∧ Qd H) ∨ ((Itt K a).go i H ∧ ∃ Nx : Hp → Prop, (∀ H', Nx H' → ∃ m', m' < m ∧ W (i + 1) m' H') ∧ ∀ x H', (Itt K a).yld i H x H' → B Nx x H') := by
  refine ⟨fun i m H => m = xs.length - i ∧ i ≤ xs.length ∧ Pv i H, ⟨xs.length, by simp, Nat.zero_le _, h0⟩, ?_⟩
  rintro i m H ⟨rfl, hi, p⟩
  have q := hl i H hi p
  by_cases hlt : i < xs.length
  · refine .inr ⟨⟨xs, xs[i], q, by simp [hlt]⟩, Pv (i + 1), fun H' p' => ⟨xs.length - (i + 1), by omega, rfl, hlt, p'⟩, fun x H' y => ?_⟩
    obtain ⟨e, y⟩ := y
    subst e
    exact hs i x _ (y xs q) p
  · have e : i = xs.length := by omega
    subst e
    exact .inl ⟨⟨xs, q, Nat.le_refl _⟩, hd H p⟩

/-! ### named_in -/
abbrev sNmI : Stmt := topS 57
abbrev NNmI : List Str := ["statement", "target", "expression", "name", "factor", "callee", "args", "kinds", "kind", "block", "handlers", "final", "words", "inner", "names", "enter", "leave", "found"]
abbrev PNmI : List Str := ["statement"]
theorem scNmI : FnScope NNmI PNmI (defScope sNmI) := ⟨rfl, rfl, rfl, by decide +kernel, rfl, by decide +kernel, by decide +kernel⟩
def wv : Str := "variable"
def wf : Str := "function"
def wk : Str := "kind"
def namedS : St → List (Str × Str)
  | .set _ e => e.ts.map fun p => (wv, p.1)
  | .ret e => e.ts.map fun p => (wv, p.1)
  | .call _ g as => (wf, g) :: (argsN as).map fun n => (wv, n)
  | .risk ks => ks.map fun n => (wk, n)
  | .raise k => [(wk, k)]
  | .try_ _ hs _ => hs.flatMap fun h => h.ks.map fun n => (wk, n)
  | .undo ns _ => ns.map fun n => (wv, n)
  | .with_ e l ks _ => (((wf, e.1) :: (argsN e.2).map fun n => (wv, n)) ++ ((wf, l.1) :: (argsN l.2).map fun n => (wv, n))) ++ ks.map fun n => (wk, n)
  | _ => []
def rkS : St → Nat
  | .with_ _ _ _ _ => 2
  | _ => 1
def PrAt (K : PySem.W.Frag) (H : Hp) (x : V) (p : Str × Str) : Prop := ∃ a, x = .ref a ∧ SqT K H a [.str p.1, .str p.2]
theorem PrAt.same {K : PySem.W.Frag} {H H' : Hp} (s : Same H H') {x : V} {p : Str × Str} (h : PrAt K H x p) : PrAt K H' x p := let ⟨a, e, q⟩ := h; ⟨a, e, SqT.same s q⟩
def spNmI (K : PySem.W.Frag) (n : Nat) : Sp := fun vs H Q _ => ∃ (v : V) (s : St), vs = [v] ∧ Dp K H v (stD s) ∧ okS s ∧ rkS s ≤ n ∧ (namedS s).length ≤ 900 ∧ ∀ (q : Addr) (xs : List V) (H' : Hp), Same H H' → H q = none → H' q = some (.lst xs) → Paired (PrAt K H') xs (namedS s) → Q (.ref q) H'
section
variable {P : Program} {w : World} {K : PySem.W.Frag} {mg : Str → Option Value} {base : Heap}
theorem ok_NmI {f : Addr} {fd : FuncData} (F : Fun K "named_in" "named_in" sNmI f fd) (GA : Has P w K mg base CX0 1 "names_of_args" PNoA (spNoA K)) (m : mg "named_in" = some (.ref f)) (kp : PySem.W.keepIn K (.ref f) = true) (bd : Binds K fd PNmI []) : ∀ n, FnOk P w K mg base CX0 (1 + n) f fd PNmI (spNmI K n) := by
  intro n
  induction n with
  | zero => exact ⟨fun vs H Q E h => by obtain ⟨_, s, _, _, _, h, _⟩ := h; cases s <;> exact absurd h (by simp [rkS]), fun _ _ _ _ _ _ _ _ _ _ _ _ _ h => by obtain ⟨_, s, _, _, _, h, _⟩ := h; cases s <;> exact absurd h (by simp [rkS])⟩
  | succ n ih =>
  have GS : Has P w K mg base CX0 (1 + n) "named_in" PNmI (spNmI K n) := ⟨f, fd, ih, m, kp, bd⟩
  refine F.ok scNmI (fun vs H Q E h => ?_) (fun cdv A outer s H vs Q E hr h => ?_)
  · obtain ⟨q, l, rfl, _⟩ := h
    rfl
  · obtain ⟨v, st, rfl, hv, ok, rk, tot, k⟩ := h
    have hr1 := hr.mono (j := 1) (show 1 ≤ 1 + n by omega)
    refine ⟨_, (pss_one (ps_match (pv 0) (pcs_cons scNmI.nd (pm_seq rfl (pms_cons pm_str (pms_cons (pm_as (i := 1) rfl (Or.inl rfl)) (pms_cons (pm_as (i := 2) rfl (Or.inl rfl)) pms_nil))))
  (pss_one (ps_ret (pe_lc (own := [("name", 3), ("factor", 4)]) (g := gTup K 2 (gCons (gName 3) (gCons (gName 4) gNil))) (tt := tYes) rfl scNmI.nd (pi_tup (pe_ix (r := rIxT K) ix_tup (pv 2) pe_int (fun _ _ => rfl))) (blkOk_by (own := [("name", 3), ("factor", 4)]) (N := NNmI) (sc := (defScope sNmI)) (by decide +kernel)) (fun _ _ _ _ _ => (pg_tup (by rfl) (pgs_cons (pg_name (i := 3) scNmI.nd rfl (Or.inl rfl)) (pgs_cons (pg_name (i := 4) scNmI.nd rfl (Or.inl rfl)) pgs_nil)))) (fun _ _ _ _ _ => pts_nil) (fun _ _ _ _ _ => (pe_tup (pa_cons pe_str (pa_cons (pv 3) pa_nil)))))))
  (pcs_cons scNmI.nd (pm_seq rfl (pms_cons pm_str (pms_cons (pm_as (i := 2) rfl (Or.inl rfl)) pms_nil)))
  (pss_one (ps_ret (pe_lc (own := [("name", 3), ("factor", 4)]) (g := gTup K 2 (gCons (gName 3) (gCons (gName 4) gNil))) (tt := tYes) rfl scNmI.nd (pi_tup (pe_ix (r := rIxT K) ix_tup (pv 2) pe_int (fun _ _ => rfl))) (blkOk_by (own := [("name", 3), ("factor", 4)]) (N := NNmI) (sc := (defScope sNmI)) (by decide +kernel)) (fun _ _ _ _ _ => (pg_tup (by rfl) (pgs_cons (pg_name (i := 3) scNmI.nd rfl (Or.inl rfl)) (pgs_cons (pg_name (i := 4) scNmI.nd rfl (Or.inl rfl)) pgs_nil)))) (fun _ _ _ _ _ => pts_nil) (fun _ _ _ _ _ => (pe_tup (pa_cons pe_str (pa_cons (pv 3) pa_nil)))))))
  (pcs_cons scNmI.nd (pm_seq rfl (pms_cons pm_str (pms_cons (pm_as (i := 1) rfl (Or.inl rfl)) (pms_cons (pm_as (i := 5) rfl (Or.inl rfl)) (pms_cons (pm_as (i := 6) rfl (Or.inl rfl)) pms_nil)))))
  (pss_one (ps_ret (pe_op op_cat (pe_lst (pa_cons (pe_tup (pa_cons pe_str (pa_cons (pv 5) pa_nil))) pa_nil)) (pe_lc (own := [("name", 3)]) (g := gName 3) (tt := tYes) rfl scNmI.nd (pi_list (pe_callH GA hr1 rfl pass0 (pa_cons (pv 6) pa_nil))) (blkOk_by (own := [("name", 3)]) (N := NNmI) (sc := (defScope sNmI)) (by decide +kernel)) (fun _ _ _ _ _ => (pg_name (i := 3) scNmI.nd rfl (Or.inl rfl))) (fun _ _ _ _ _ => pts_nil) (fun _ _ _ _ _ => (pe_tup (pa_cons pe_str (pa_cons (pv 3) pa_nil))))))))
  (pcs_cons scNmI.nd (pm_seq rfl (pms_cons pm_str (pms_cons (pm_as (i := 7) rfl (Or.inl rfl)) pms_nil)))
  (pss_one (ps_ret (pe_lc (own := [("name", 3)]) (g := gName 3) (tt := tYes) rfl scNmI.nd (pi_tup (pv 7)) (blkOk_by (own := [("name", 3)]) (N := NNmI) (sc := (defScope sNmI)) (by decide +kernel)) (fun _ _ _ _ _ => (pg_name (i := 3) scNmI.nd rfl (Or.inl rfl))) (fun _ _ _ _ _ => pts_nil) (fun _ _ _ _ _ => (pe_tup (pa_cons pe_str (pa_cons (pv 3) pa_nil)))))))
  (pcs_cons scNmI.nd (pm_seq rfl (pms_cons pm_str (pms_cons (pm_as (i := 8) rfl (Or.inl rfl)) pms_nil)))
  (pss_one (ps_ret (pe_lst (pa_cons (pe_tup (pa_cons pe_str (pa_cons (pv 8) pa_nil))) pa_nil))))
  (pcs_cons scNmI.nd (pm_seq rfl (pms_cons pm_str (pms_cons (pm_as (i := 9) rfl (Or.inl rfl)) (pms_cons (pm_as (i := 10) rfl (Or.inl rfl)) (pms_cons (pm_as (i := 11) rfl (Or.inl rfl)) pms_nil)))))
  (pss_one (ps_ret (pe_lc2 (own := [("words", 12), ("inner", 13), ("name", 3)]) (vs1 := [3]) (wi1 := iTup K (tVar 12)) (g := gTup K 2 (gCons (gName 12) (gCons (gName 13) gNil))) (g1 := gName 3) (tt := tYes) (tt1 := tYes) rfl scNmI.nd (pi_tup (pv 10)) (blkOk_by (own := [("words", 12), ("inner", 13), ("name", 3)]) (N := NNmI) (sc := (defScope sNmI)) (by decide +kernel)) (by decide) (fun _ _ _ _ _ => (pg_tup (by rfl) (pgs_cons (pg_name (i := 12) scNmI.nd rfl (Or.inl rfl)) (pgs_cons (pg_name (i := 13) scNmI.nd rfl (Or.inl rfl)) pgs_nil)))) (fun _ _ _ _ _ => pts_nil) (fun _ _ _ _ _ => (pi_tup (pv 12))) (fun _ _ _ _ _ => (pg_name (i := 3) scNmI.nd rfl (Or.inl rfl))) (fun _ _ _ _ _ => pts_nil) (fun _ _ _ _ _ => (pe_tup (pa_cons pe_str (pa_cons (pv 3) pa_nil)))))))
  (pcs_cons scNmI.nd (pm_seq rfl (pms_cons pm_str (pms_cons (pm_as (i := 14) rfl (Or.inl rfl)) (pms_cons (pm_as (i := 9) rfl (Or.inl rfl)) pms_nil))))
  (pss_one (ps_ret (pe_lc (own := [("name", 3)]) (g := gName 3) (tt := tYes) rfl scNmI.nd (pi_tup (pv 14)) (blkOk_by (own := [("name", 3)]) (N := NNmI) (sc := (defScope sNmI)) (by decide +kernel)) (fun _ _ _ _ _ => (pg_name (i := 3) scNmI.nd rfl (Or.inl rfl))) (fun _ _ _ _ _ => pts_nil) (fun _ _ _ _ _ => (pe_tup (pa_cons pe_str (pa_cons (pv 3) pa_nil)))))))
  (pcs_cons scNmI.nd (pm_seq rfl (pms_cons pm_str (pms_cons (pm_as (i := 15) rfl (Or.inl rfl)) (pms_cons (pm_as (i := 16) rfl (Or.inl rfl)) (pms_cons (pm_as (i := 7) rfl (Or.inl rfl)) (pms_cons (pm_as (i := 9) rfl (Or.inl rfl)) pms_nil))))))
  (pss_cons (ps_set (i := 17) scNmI.nd rfl (Or.inl rfl) (pe_op op_cat (pe_callH GS hr rfl pass0 (pa_cons (pe_tup (pa_cons pe_str (pa_cons pe_non (pa_cons (pe_ix (r := rIxT K) ix_tup (pv 15) pe_int (fun _ _ => rfl)) (pa_cons (pe_ix (r := rIxT K) ix_tup (pv 15) pe_int (fun _ _ => rfl)) pa_nil))))) pa_nil)) (pe_callH GS hr rfl pass0 (pa_cons (pe_tup (pa_cons pe_str (pa_cons pe_non (pa_cons (pe_ix (r := rIxT K) ix_tup (pv 16) pe_int (fun _ _ => rfl)) (pa_cons (pe_ix (r := rIxT K) ix_tup (pv 16) pe_int (fun _ _ => rfl)) pa_nil))))) pa_nil))))
  (pss_one (ps_ret (pe_op op_cat (pv 17) (pe_lc (own := [("name", 3)]) (g := gName 3) (tt := tYes) rfl scNmI.nd (pi_tup (pv 7)) (blkOk_by (own := [("name", 3)]) (N := NNmI) (sc := (defScope sNmI)) (by decide +kernel)) (fun _ _ _ _ _ => (pg_name (i := 3) scNmI.nd rfl (Or.inl rfl))) (fun _ _ _ _ _ => pts_nil) (fun _ _ _ _ _ => (pe_tup (pa_cons pe_str (pa_cons (pv 3) pa_nil)))))))))
  (pcs_cons scNmI.nd pm_wild
  (pss_one (ps_ret (pe_lst pa_nil)))
  pcs_nil))))))))))), ?_⟩
    obtain ⟨a, xs, rfl, hq, hd⟩ := stInv hv
    refine ⟨_, rfl, ?_⟩
    cases st <;> simp only [wordS] at hq
    case set g e =>
      obtain ⟨x, y, rfl, h1, h2⟩ := DpAll.two hd
      refine case_hit hq rfl ⟨_, _, rfl, _, _, rfl, ?_⟩
      have he : Dp K H y (.tuple [.int e.c, .tuple (e.ts.map fun p => .tuple [.str p.1, .int p.2])]) := h2
      obtain ⟨z1, zs, rfl, hz, hzd⟩ := he.tupInv
      obtain ⟨w1, w2, rfl, h4, h5⟩ := hzd.two
      obtain ⟨b, ts, rfl, hb, hbd⟩ := h5.tupInv
      have pt := DpAll.map hbd
      have lt : ts.length = e.ts.length := Paired.length pt
      have le : e.ts.length ≤ 900 := by rw [show namedS _ = e.ts.map fun p => (wv, p.1) from rfl, List.length_map] at tot; exact tot
      refine ⟨_, rfl, z1, _, _, _, rfl, rfl, hz, rfl, b, rfl, ⟨_, hb⟩, fun D hD => ?_⟩
      refine lc_tup (K := K) (a := b) (xs := ts) (fun i H' => Same H H' ∧ ∃ us, H' D = some (.lst us) ∧ us.length = i ∧ Paired (PrAt K H') us ((e.ts.take i).map fun p => (wv, p.1))) ⟨same_new hD, [], upd_same, rfl, .nil⟩ (fun i H' _ h' => SqT.same h'.1 hb) ?_ ?_
      · rintro i z H2 hz ⟨s2, us, eD, lu, pu⟩
        obtain ⟨pr, ht, htd⟩ := Paired.at pt hz
        obtain ⟨c, zs, rfl, hc, hcd⟩ := htd.tupInv
        obtain ⟨u, w, rfl, hu, hw⟩ := hcd.two
        rw [hu.strInv] at hc
        have hi : i < ts.length := (List.getElem?_eq_some_iff.mp hz).1
        refine ⟨c, _, rfl, SqT.same s2 hc, rfl, _, _, rfl, _, _, rfl, rfl, rfl, ?_⟩
        refine ⟨_, rfl, (by show 2 ≤ sizeLine; decide), fun t ht2 => ?_⟩
        have s3 := same_new (o := .tup [.str wv, .str pr.1]) ht2
        have eD3 := s3 _ _ eD
        refine ⟨_, eD3, small1000 (by omega), fun c o z => ?_, _, upd_same, by rw [List.length_append, lu]; rfl, ?_⟩
        · rw [upd_ne (ne_of_none z hD)]
          exact s3 _ _ (s2 _ _ z)
        · rw [take_snoc ht, List.map_append]
          have tp := (Tps.of s3).trans (Tps.lst (o := .lst (us ++ [.ref t])) eD3)
          exact Paired.snoc (Paired.mapP pu fun _ _ ⟨a, e, q⟩ => ⟨a, e, tp.sqt q⟩) ⟨t, rfl, (Tps.lst (o := .lst (us ++ [.ref t])) eD3).sqt (SqT.of upd_same)⟩
      · rintro H2 ⟨s2, us, eD, lu, pu⟩
        rw [lt, List.take_length] at pu
        exact k D us H2 s2 hD eD pu
    case ret e =>
      obtain ⟨y, rfl, h2⟩ := DpAll.one hd
      repeat (first | refine case_len hq (Nat.ne_of_beq_eq_false rfl) ?_ | refine case_word hq rfl (by decide +kernel) ?_)
      refine case_hit hq rfl ⟨_, _, rfl, ?_⟩
      have he : Dp K H y (.tuple [.int e.c, .tuple (e.ts.map fun p => .tuple [.str p.1, .int p.2])]) := h2
      obtain ⟨z1, zs, rfl, hz, hzd⟩ := he.tupInv
      obtain ⟨w1, w2, rfl, h4, h5⟩ := hzd.two
      obtain ⟨b, ts, rfl, hb, hbd⟩ := h5.tupInv
      have pt := DpAll.map hbd
      have lt : ts.length = e.ts.length := Paired.length pt
      have le : e.ts.length ≤ 900 := by rw [show namedS _ = e.ts.map fun p => (wv, p.1) from rfl, List.length_map] at tot; exact tot
      refine ⟨_, rfl, z1, _, _, _, rfl, rfl, hz, rfl, b, rfl, ⟨_, hb⟩, fun D hD => ?_⟩
      refine lc_tup (K := K) (a := b) (xs := ts) (fun i H' => Same H H' ∧ ∃ us, H' D = some (.lst us) ∧ us.length = i ∧ Paired (PrAt K H') us ((e.ts.take i).map fun p => (wv, p.1))) ⟨same_new hD, [], upd_same, rfl, .nil⟩ (fun i H' _ h' => SqT.same h'.1 hb) ?_ ?_
      · rintro i z H2 hz ⟨s2, us, eD, lu, pu⟩
        obtain ⟨pr, ht, htd⟩ := Paired.at pt hz
        obtain ⟨c, zs, rfl, hc, hcd⟩ := htd.tupInv
        obtain ⟨u, w, rfl, hu, hw⟩ := hcd.two
        rw [hu.strInv] at hc
        have hi : i < ts.length := (List.getElem?_eq_some_iff.mp hz).1
        refine ⟨c, _, rfl, SqT.same s2 hc, rfl, _, _, rfl, _, _, rfl, rfl, rfl, ?_⟩
        refine ⟨_, rfl, (by show 2 ≤ sizeLine; decide), fun t ht2 => ?_⟩
        have s3 := same_new (o := .tup [.str wv, .str pr.1]) ht2
        have eD3 := s3 _ _ eD
        refine ⟨_, eD3, small1000 (by omega), fun c o z => ?_, _, upd_same, by rw [List.length_append, lu]; rfl, ?_⟩
        · rw [upd_ne (ne_of_none z hD)]
          exact s3 _ _ (s2 _ _ z)
        · rw [take_snoc ht, List.map_append]
          have tp := (Tps.of s3).trans (Tps.lst (o := .lst (us ++ [.ref t])) eD3)
          exact Paired.snoc (Paired.mapP pu fun _ _ ⟨a, e, q⟩ => ⟨a, e, tp.sqt q⟩) ⟨t, rfl, (Tps.lst (o := .lst (us ++ [.ref t])) eD3).sqt (SqT.of upd_same)⟩
      · rintro H2 ⟨s2, us, eD, lu, pu⟩
        rw [lt, List.take_length] at pu
        exact k D us H2 s2 hD eD pu
    case risk ks =>
      obtain ⟨y, rfl, h2⟩ := DpAll.one hd
      repeat (first | refine case_len hq (Nat.ne_of_beq_eq_false rfl) ?_ | refine case_word hq rfl (by decide +kernel) ?_)
      refine case_hit hq rfl ⟨_, _, rfl, ?_⟩
      obtain ⟨b, ts, rfl, hb, hbd⟩ := (h2).tupInv
      have pt := DpAll.map hbd
      have lt : ts.length = ks.length := Paired.length pt
      have le : ks.length ≤ 900 := by rw [show namedS _ = ks.map fun n => (wk, n) from rfl, List.length_map] at tot; exact tot
      refine ⟨_, rfl, b, rfl, ⟨_, hb⟩, fun D hD => ?_⟩
      refine lc_tup (K := K) (a := b) (xs := ts) (fun i H' => Same H H' ∧ ∃ us, H' D = some (.lst us) ∧ us.length = i ∧ Paired (PrAt K H') us ((ks.take i).map fun n => (wk, n))) ⟨same_new hD, [], upd_same, rfl, .nil⟩ (fun i H' _ h' => SqT.same h'.1 hb) ?_ ?_
      · rintro i z H2 hz ⟨s2, us, eD, lu, pu⟩
        obtain ⟨nm, ht, htd⟩ := Paired.at pt hz
        rw [htd.strInv]
        have hi : i < ts.length := (List.getElem?_eq_some_iff.mp hz).1
        refine ⟨rfl, _, rfl, (by show 2 ≤ sizeLine; decide), fun t ht2 => ?_⟩
        have s3 := same_new (o := .tup [.str wk, .str nm]) ht2
        have eD3 := s3 _ _ eD
        refine ⟨_, eD3, small1000 (by omega), fun c o z => ?_, _, upd_same, by rw [List.length_append, lu]; rfl, ?_⟩
        · rw [upd_ne (ne_of_none z hD)]
          exact s3 _ _ (s2 _ _ z)
        · rw [take_snoc ht, List.map_append]
          have tp := (Tps.of s3).trans (Tps.lst (o := .lst (us ++ [.ref t])) eD3)
          exact Paired.snoc (Paired.mapP pu fun _ _ ⟨a, e, q⟩ => ⟨a, e, tp.sqt q⟩) ⟨t, rfl, (Tps.lst (o := .lst (us ++ [.ref t])) eD3).sqt (SqT.of upd_same)⟩
      · rintro H2 ⟨s2, us, eD, lu, pu⟩
        rw [lt, List.take_length] at pu
        exact k D us H2 s2 hD eD pu
    case undo ns p =>
      obtain ⟨y, y2, rfl, h2, _⟩ := DpAll.two hd
      repeat (first | refine case_len hq (Nat.ne_of_beq_eq_false rfl) ?_ | refine case_word hq rfl (by decide +kernel) ?_)
      refine case_hit hq rfl ⟨_, _, rfl, _, _, rfl, ?_⟩
      obtain ⟨b, ts, rfl, hb, hbd⟩ := (h2).tupInv
      have pt := DpAll.map hbd
      have lt : ts.length = ns.length := Paired.length pt
      have le : ns.length ≤ 900 := by rw [show namedS _ = ns.map fun n => (wv, n) from rfl, List.length_map] at tot; exact tot
      refine ⟨_, rfl, b, rfl, ⟨_, hb⟩, fun D hD => ?_⟩
      refine lc_tup (K := K) (a := b) (xs := ts) (fun i H' => Same H H' ∧ ∃ us, H' D = some (.lst us) ∧ us.length = i ∧ Paired (PrAt K H') us ((ns.take i).map fun n => (wv, n))) ⟨same_new hD, [], upd_same, rfl, .nil⟩ (fun i H' _ h' => SqT.same h'.1 hb) ?_ ?_
      · rintro i z H2 hz ⟨s2, us, eD, lu, pu⟩
        obtain ⟨nm, ht, htd⟩ := Paired.at pt hz
        rw [htd.strInv]
        have hi : i < ts.length := (List.getElem?_eq_some_iff.mp hz).1
        refine ⟨rfl, _, rfl, (by show 2 ≤ sizeLine; decide), fun t ht2 => ?_⟩
        have s3 := same_new (o := .tup [.str wv, .str nm]) ht2
        have eD3 := s3 _ _ eD
        refine ⟨_, eD3, small1000 (by omega), fun c o z => ?_, _, upd_same, by rw [List.length_append, lu]; rfl, ?_⟩
        · rw [upd_ne (ne_of_none z hD)]
          exact s3 _ _ (s2 _ _ z)
        · rw [take_snoc ht, List.map_append]
          have tp := (Tps.of s3).trans (Tps.lst (o := .lst (us ++ [.ref t])) eD3)
          exact Paired.snoc (Paired.mapP pu fun _ _ ⟨a, e, q⟩ => ⟨a, e, tp.sqt q⟩) ⟨t, rfl, (Tps.lst (o := .lst (us ++ [.ref t])) eD3).sqt (SqT.of upd_same)⟩
      · rintro H2 ⟨s2, us, eD, lu, pu⟩
        rw [lt, List.take_length] at pu
        exact k D us H2 s2 hD eD pu
    case raise g =>
      obtain ⟨y, rfl, h2⟩ := DpAll.one hd
      rw [h2.strInv] at hq
      repeat (first | refine case_len hq (Nat.ne_of_beq_eq_false rfl) ?_ | refine case_word hq rfl (by decide +kernel) ?_)
      refine case_hit hq rfl ⟨_, _, rfl, ?_⟩
      refine ⟨_, rfl, (by show 2 ≤ sizeLine; decide), fun t ht => ?_⟩
      have s1 := same_new (o := .tup [.str wk, .str g]) ht
      refine ⟨(by show 1 ≤ sizeLine; decide), fun q hq1 => ?_⟩
      have s2 := same_new (o := .lst [.ref t]) hq1
      exact k q _ _ (s1.trans s2) (none_same s1 hq1) upd_same (.cons ⟨t, rfl, SqT.of (s2 _ _ upd_same)⟩ .nil)
    case call g gg as =>
      obtain ⟨x, y, z, rfl, h1, h2, h3⟩ := DpAll.three hd
      rw [h2.strInv] at hq
      repeat (first | refine case_len hq (Nat.ne_of_beq_eq_false rfl) ?_ | refine case_word hq rfl (by decide +kernel) ?_)
      refine case_hit hq rfl ⟨_, _, rfl, _, _, rfl, _, _, rfl, ?_⟩
      have tot2 : (argsN as).length + 1 ≤ 900 := by rw [show namedS _ = (wf, gg) :: (argsN as).map fun n => (wv, n) from rfl, List.length_cons, List.length_map] at tot; exact tot
      refine ⟨_, rfl, (by show 2 ≤ sizeLine; decide), fun t ht => ?_⟩
      have s1 := same_new (o := .tup [.str wf, .str gg]) ht
      have et : upd H t (.tup [.str wf, .str gg]) t = some (.tup [.str wf, .str gg]) := upd_same
      refine ⟨(by show 1 ≤ sizeLine; decide), fun q hq1 => ?_⟩
      have s2 := same_new (o := .lst [.ref t]) hq1
      have eq0 : upd (upd H t (.tup [.str wf, .str gg])) q (.lst [.ref t]) q = some (.lst [.ref t]) := upd_same
      have s3 := s1.trans s2
      have et2 := s2 _ _ et
      refine ⟨_, rfl, z, as, rfl, h3.same s3, by omega, fun L H2 s4 nL eL => ?_⟩
      have s5 := s3.trans s4
      refine ⟨L, rfl, ⟨_, SqL.of eL⟩, fun D hD => ?_⟩
      refine lc_it (walk_list (K := K) (a := L) (xs := (argsN as).map V.str)) (fun i H' => Same H2 H' ∧ ∃ us, H' D = some (.lst us) ∧ us.length = i ∧ Paired (PrAt K H') us (((argsN as).take i).map fun n => (wv, n))) ⟨same_new hD, [], upd_same, rfl, .nil⟩ (fun i H' _ h' => SqL.of (h'.1 _ _ eL)) ?_ ?_
      · rintro i z H4 H5 hi ⟨s6, us, eD, lu, pu⟩ ⟨rfl, hz⟩
        have hi : i < (argsN as).length := by rwa [List.length_map] at hi
        obtain ⟨nm, hnm⟩ : ∃ nm, (argsN as)[i]? = some nm := ⟨_, List.getElem?_eq_getElem hi⟩
        rw [List.getElem?_map, hnm] at hz
        simp only [Option.map_some, Option.some.injEq] at hz
        subst hz
        refine ⟨rfl, _, rfl, (by show 2 ≤ sizeLine; decide), fun t ht2 => ?_⟩
        have s3 := same_new (o := .tup [.str wv, .str nm]) ht2
        have eD3 := s3 _ _ eD
        refine ⟨_, eD3, small1000 (by omega), fun c o z => ?_, _, upd_same, by rw [List.length_append, lu]; rfl, ?_⟩
        · rw [upd_ne (ne_of_none z hD)]
          exact s3 _ _ (s6 _ _ z)
        · rw [take_snoc hnm, List.map_append]
          have tp := (Tps.of s3).trans (Tps.lst (o := .lst (us ++ [.ref t])) eD3)
          exact Paired.snoc (Paired.mapP pu fun _ _ ⟨a, e, q⟩ => ⟨a, e, tp.sqt q⟩) ⟨t, rfl, (Tps.lst (o := .lst (us ++ [.ref t])) eD3).sqt (SqT.of upd_same)⟩
      · rintro H3 ⟨s6, us, eD, lu, pu⟩
        rw [List.length_map, List.take_length] at pu
        rw [List.length_map] at lu
        have s7 := s4.trans s6
        refine ⟨q, D, _, _, rfl, rfl, s7 _ _ eq0, eD, Nat.le_of_lt (sizeBig (by rw [lu]; show 1 + _ ≤ _; omega)), fun r hr => ?_⟩
        have s8 := same_new (o := .lst ([.ref t] ++ us)) hr
        exact k r _ _ (((s3.trans s7)).trans s8) (none_same (s3.trans s7) hr) upd_same (.cons ⟨t, rfl, SqT.of (s8 _ _ (s7 _ _ et2))⟩ (Paired.mapP pu fun _ _ z => z.same s8))
    case try_ p hs q =>
      obtain ⟨x, y, z, rfl, _, h2, _⟩ := DpAll.three hd
      repeat (first | refine case_len hq (Nat.ne_of_beq_eq_false rfl) ?_ | refine case_word hq rfl (by decide +kernel) ?_)
      refine case_hit hq rfl ⟨_, _, rfl, _, _, rfl, _, _, rfl, ?_⟩
      obtain ⟨b, ys, rfl, hb, hdb⟩ := h2.tupInv
      rw [hdsD_map] at hdb
      have ph := hdb.map
      have lh : ys.length = hs.length := Paired.length ph
      refine ⟨_, rfl, b, rfl, ⟨_, hb⟩, fun D hD => ?_⟩
      refine walkB (K := K) (a := b) (xs := ys) (fun i H' => Same H H' ∧ ∃ us, H' D = some (.lst us) ∧ Paired (PrAt K H') us ((hs.take i).flatMap fun h => h.ks.map fun n => (wk, n))) ⟨same_new hD, [], upd_same, .nil⟩ (fun i H' _ h' => SqT.same h'.1 hb) ?_ ?_
      · rintro i z H2 hz ⟨s2, us, eD, pu⟩
        obtain ⟨hdl, hh, hdp⟩ := Paired.at ph hz
        cases hdl with
        | mk ks bb =>
          have hdp : Dp K H z (.tuple [nmD ks, blD bb]) := hdp
          obtain ⟨c, zs, rfl, hc, hcd⟩ := hdp.tupInv
          obtain ⟨u, w, rfl, hu, hw⟩ := hcd.two
          obtain ⟨d, ws, rfl, hd1, hdd⟩ := hu.tupInv
          have pt := DpAll.map hdd
          have lt : ws.length = ks.length := Paired.length pt
          refine ⟨c, _, rfl, SqT.same s2 hc, rfl, _, _, rfl, _, _, rfl, rfl, rfl, ?_⟩
          refine ⟨_, rfl, d, rfl, ⟨_, SqT.same s2 hd1⟩, ?_⟩
          have efl : (hs.take (i + 1)).flatMap (fun h => h.ks.map fun n => (wk, n)) = ((hs.take i).flatMap fun h => h.ks.map fun n => (wk, n)) ++ ks.map fun n => (wk, n) := flat_snoc (f := fun h : Hd => h.ks.map fun n => (wk, n)) hh
          have lfl := flat_len (f := fun h : Hd => h.ks.map fun n => (wk, n)) (l := hs) (i + 1)
          rw [efl, List.length_append, List.length_map, ← Paired.length pu] at lfl
          have tot2 : (hs.flatMap fun h => h.ks.map fun n => (wk, n)).length ≤ 900 := tot
          refine walkB (K := K) (a := d) (xs := ws) (fun j H' => Same H H' ∧ ∃ vs, H' D = some (.lst vs) ∧ vs.length = us.length + j ∧ Paired (PrAt K H') vs (((hs.take i).flatMap fun h => h.ks.map fun n => (wk, n)) ++ (ks.take j).map fun n => (wk, n))) ⟨s2, us, eD, rfl, by rw [List.take_zero, List.map_nil, List.append_nil]; exact pu⟩ (fun i H' _ h' => SqT.same h'.1 hd1) ?_ ?_
          · rintro j y H3 hy ⟨s3, vs, eD3, lv, pv⟩
            obtain ⟨nm, hnm, hnd⟩ := Paired.at pt hy
            rw [hnd.strInv]
            have hj : j < ws.length := (List.getElem?_eq_some_iff.mp hy).1
            refine ⟨rfl, _, rfl, (by show 2 ≤ sizeLine; decide), fun t ht2 => ?_⟩
            have s4 := same_new (o := .tup [.str wk, .str nm]) ht2
            have eD4 := s4 _ _ eD3
            refine ⟨_, eD4, small1000 (by omega), fun c o z => ?_, _, upd_same, by rw [List.length_append, lv]; rfl, ?_⟩
            · rw [upd_ne (ne_of_none z hD)]
              exact s4 _ _ (s3 _ _ z)
            · rw [take_snoc hnm, List.map_append, ← List.append_assoc]
              have tp := (Tps.of s4).trans (Tps.lst (o := .lst (vs ++ [.ref t])) eD4)
              exact Paired.snoc (Paired.mapP pv fun _ _ ⟨a, e, q⟩ => ⟨a, e, tp.sqt q⟩) ⟨t, rfl, (Tps.lst (o := .lst (vs ++ [.ref t])) eD4).sqt (SqT.of upd_same)⟩
          · rintro H3 ⟨s3, vs, eD3, lv, pv⟩
            rw [lt, List.take_length, ← efl] at pv
            exact ⟨s3, vs, eD3, pv⟩
      · rintro H2 ⟨s2, us, eD, pu⟩
        rw [lh, List.take_length] at pu
        exact k D us H2 s2 hD eD pu
    case with_ e l ks p =>
      have ok : (okCal e ∧ okCal l ∧ okNs ks) ∧ (p.length ≤ 900 ∧ okL p) := ok
      have rk : 2 ≤ n + 1 := rk
      have tot : ((namedS (.call none e.1 e.2) ++ namedS (.call none l.1 l.2)) ++ ks.map fun n => (wk, n)).length ≤ 900 := tot
      rw [List.length_append, List.length_append, List.length_map] at tot
      obtain ⟨x, y, z, u, rfl, h1, h2, h3, h4⟩ := DpAll.four hd
      have h1 : Dp K H x (.tuple [.str e.1, .tuple (e.2.map argD)]) := h1
      have h2 : Dp K H y (.tuple [.str l.1, .tuple (l.2.map argD)]) := h2
      obtain ⟨x0, ex, rfl, hx0, hxd⟩ := h1.tupInv
      obtain ⟨e1, e2, rfl, he1, he2⟩ := hxd.two
      obtain ⟨y0, ey, rfl, hy0, hyd⟩ := h2.tupInv
      obtain ⟨l1, l2, rfl, hl1, hl2⟩ := hyd.two
      obtain ⟨b, ts, rfl, hb, hbd⟩ := h3.tupInv
      have pt := DpAll.map hbd
      have lt : ts.length = ks.length := Paired.length pt
      repeat (first | refine case_len hq (Nat.ne_of_beq_eq_false rfl) ?_ | refine case_word hq rfl (by decide +kernel) ?_)
      refine case_hit hq rfl ⟨_, _, rfl, _, _, rfl, _, _, rfl, _, _, rfl, ?_⟩
      refine ⟨_, rfl, x0, _, _, _, rfl, rfl, hx0, rfl, _, rfl, x0, _, _, _, rfl, rfl, hx0, rfl, (by show 4 ≤ sizeLine; decide), fun t1 ht1 => ?_⟩
      have s1 := same_new (o := .tup [.str "call", .non, e1, e2]) ht1
      refine ⟨_, .call none e.1 e.2, rfl, .tup (SqT.of upd_same) (.cons (.str _) (.cons .non (.cons (he1.same s1) (.cons (he2.same s1) .nil)))), ⟨fun _ z => (by cases z), ok.1.1.1, ok.1.1.2⟩, (by show 1 ≤ n; omega), by omega, fun q1 xs1 H1 s2 n1 eq1 p1 => ?_⟩
      have s3 := s1.trans s2
      refine ⟨_, rfl, y0, _, _, _, rfl, rfl, SqT.same s3 hy0, rfl, _, rfl, y0, _, _, _, rfl, rfl, SqT.same s3 hy0, rfl, (by show 4 ≤ sizeLine; decide), fun t2 ht2 => ?_⟩
      have s4 := same_new (o := .tup [.str "call", .non, l1, l2]) ht2
      have s5 := s3.trans s4
      refine ⟨_, .call none l.1 l.2, rfl, .tup (SqT.of upd_same) (.cons (.str _) (.cons .non (.cons (hl1.same s5) (.cons (hl2.same s5) .nil)))), ⟨fun _ z => (by cases z), ok.1.2.1.1, ok.1.2.1.2⟩, (by show 1 ≤ n; omega), by omega, fun q2 xs2 H2 s6 n2 eq2 p2 => ?_⟩
      have s7 := s5.trans s6
      have m1 := Paired.length p1
      have m2 := Paired.length p2
      refine ⟨q1, q2, _, _, rfl, rfl, (s4.trans s6) _ _ eq1, eq2, Nat.le_of_lt (sizeBig (by omega)), fun q3 hq3 => ?_⟩
      have s8 := same_new (o := .lst (xs1 ++ xs2)) hq3
      have s9 := s7.trans s8
      refine ⟨_, rfl, _, rfl, b, rfl, ⟨_, SqT.same s9 hb⟩, fun D hD => ?_⟩
      refine lc_tup (K := K) (a := b) (xs := ts) (fun i H' => Same (upd H2 q3 (.lst (xs1 ++ xs2))) H' ∧ ∃ us, H' D = some (.lst us) ∧ us.length = i ∧ Paired (PrAt K H') us ((ks.take i).map fun n => (wk, n))) ⟨same_new hD, [], upd_same, rfl, .nil⟩ (fun i H' _ h' => SqT.same (s9.trans h'.1) hb) ?_ ?_
      · rintro i z H4 hz ⟨s10, us, eD, lu, pu⟩
        obtain ⟨nm, ht, htd⟩ := Paired.at pt hz
        rw [htd.strInv]
        have hi : i < ts.length := (List.getElem?_eq_some_iff.mp hz).1
        refine ⟨rfl, _, rfl, (by show 2 ≤ sizeLine; decide), fun t ht2 => ?_⟩
        have s3 := same_new (o := .tup [.str wk, .str nm]) ht2
        have eD3 := s3 _ _ eD
        refine ⟨_, eD3, small1000 (by omega), fun c o z => ?_, _, upd_same, by rw [List.length_append, lu]; rfl, ?_⟩
        · rw [upd_ne (ne_of_none z hD)]
          exact s3 _ _ (s10 _ _ z)
        · rw [take_snoc ht, List.map_append]
          have tp := (Tps.of s3).trans (Tps.lst (o := .lst (us ++ [.ref t])) eD3)
          exact Paired.snoc (Paired.mapP pu fun _ _ ⟨a, e, q⟩ => ⟨a, e, tp.sqt q⟩) ⟨t, rfl, (Tps.lst (o := .lst (us ++ [.ref t])) eD3).sqt (SqT.of upd_same)⟩
      · rintro H4 ⟨s10, us, eD, lu, pu⟩
        rw [lt, List.take_length] at pu
        have ea : H4 q3 = some (.lst (xs1 ++ xs2)) := s10 _ _ upd_same
        refine ⟨q3, D, _, _, rfl, rfl, ea, eD, Nat.le_of_lt (sizeBig (by rw [List.length_append, lu]; omega)), fun r hr => ?_⟩
        have s11 := same_new (o := .lst ((xs1 ++ xs2) ++ us)) hr
        have s12 := s9.trans s10
        have s13 := (((s4.trans s6).trans s8).trans s10).trans s11
        have s14 := (s8.trans s10).trans s11
        exact k r _ _ (s12.trans s11) (none_same s12 hr) upd_same (Paired.app (Paired.app (Paired.mapP p1 fun _ _ z => z.same s13) (Paired.mapP p2 fun _ _ z => z.same s14)) (Paired.mapP pu fun _ _ z => z.same s11))
    all_goals
      first
        | obtain ⟨_, rfl, _⟩ := DpAll.one hd
        | obtain ⟨_, _, rfl, _, _⟩ := DpAll.two hd
      repeat (first | refine case_len hq (Nat.ne_of_beq_eq_false rfl) ?_ | refine case_word hq rfl (by decide +kernel) ?_)
      refine ⟨(by show 0 ≤ sizeLine; decide), fun q hq1 => ?_⟩
      exact k q _ _ (same_new hq1) hq1 upd_same .nil
end

/-! ### every statement within a good block is good -/
mutual
theorem ok_allS : ∀ (s : St) (n : Nat), okS s → ∀ p ∈ allS s n, okS p.2
  | .ite a b, n, h, p, hp => by
    have h : (a.length ≤ 900 ∧ okL a) ∧ (b.length ≤ 900 ∧ okL b) := h
    rcases List.mem_append.mp (show p ∈ allB a n ++ allB b (n + szB a) from hp) with z | z
    · exact ok_allB a _ h.1.2 p z
    · exact ok_allB b _ h.2.2 p z
  | .whl b, n, h, p, hp => ok_allB b n (show b.length ≤ 900 ∧ okL b from h).2 p hp
  | .try_ b hs f, n, h, p, hp => by
    have h : (b.length ≤ 900 ∧ okL b) ∧ (hs.length ≤ 900 ∧ okHs hs) ∧ (f.length ≤ 900 ∧ okL f) := h
    rcases List.mem_append.mp (show p ∈ allB b n ++ (allHs hs (n + szB b) ++ allB f (n + szB b + szHs hs)) from hp) with z | z
    · exact ok_allB b _ h.1.2 p z
    · rcases List.mem_append.mp z with z | z
      · exact ok_allHs hs _ h.2.1.2 p z
      · exact ok_allB f _ h.2.2.2 p z
  | .undo ns b, n, h, p, hp => ok_allB b n (show (ns ≠ [] ∧ okNs ns) ∧ (b.length ≤ 900 ∧ okL b) from h).2.2 p hp
  | .with_ e l ks b, n, h, p, hp => ok_allB b n (show (okCal e ∧ okCal l ∧ okNs ks) ∧ (b.length ≤ 900 ∧ okL b) from h).2.2 p hp
  | .set _ _, _, _, p, hp => nomatch hp
  | .input _, _, _, p, hp => nomatch hp
  | .call _ _ _, _, _, p, hp => nomatch hp
  | .risk _, _, _, p, hp => nomatch hp
  | .raise _, _, _, p, hp => nomatch hp
  | .ret _, _, _, p, hp => nomatch hp
theorem ok_allB : ∀ (b : List St) (n : Nat), okL b → ∀ p ∈ allB b n, okS p.2
  | [], _, _, p, hp => nomatch hp
  | s :: r, n, h, p, hp => by
    have h : okS s ∧ okL r := h
    rcases List.mem_cons.mp (show p ∈ (n, s) :: (allS s (n + 1) ++ allB r (n + 1 + szS s)) from hp) with z | z
    · rw [z]; exact h.1
    · rcases List.mem_append.mp z with z | z
      · exact ok_allS s _ h.1 p z
      · exact ok_allB r _ h.2 p z
theorem ok_allH : ∀ (x : Hd) (n : Nat), okH x → ∀ p ∈ allH x n, okS p.2
  | .mk ks b, n, h, p, hp => ok_allB b n (show (ks ≠ [] ∧ okNs ks) ∧ (b.length ≤ 900 ∧ okL b) from h).2.2 p hp
theorem ok_allHs : ∀ (hs : List Hd) (n : Nat), okHs hs → ∀ p ∈ allHs hs n, okS p.2
  | [], _, _, p, hp => nomatch hp
  | x :: r, n, h, p, hp => by
    have h : okH x ∧ okHs r := h
    rcases List.mem_append.mp (show p ∈ allH x n ++ allHs r (n + szH x) from hp) with z | z
    · exact ok_allH x _ h.1 p z
    · exact ok_allHs r _ h.2 p z
end

/-! ### has_great_number -/
abbrev sGrt : Stmt := topS 53
abbrev NGrt : List Str := ["tree", "found", "name", "params", "block", "place", "statement", "constant", "terms", "word", "factor"]
abbrev PGrt : List Str := ["tree"]
theorem scGrt : FnScope NGrt PGrt (defScope sGrt) := ⟨rfl, rfl, rfl, by decide +kernel, rfl, by decide +kernel, by decide +kernel⟩
def LIM : Int := 1000000000000
def exsF (f : Fn) : List Ex := (allB f.b 0).flatMap fun p => exprS p.2
def exsT (t : Tr) : List Ex := t.keeps ++ t.fns.flatMap exsF
def smallE (e : Ex) : Prop := (e.c.natAbs : Int) < LIM ∧ ∀ p ∈ e.ts, (p.2.natAbs : Int) < LIM
def spGrt (K : PySem.W.Frag) (n : Nat) : Sp := fun vs H Q _ => ∃ (v : V) (t : Tr), vs = [v] ∧ Dp K H v (trD t) ∧ okTr n t ∧ (∀ f ∈ t.fns, szB f.b ≤ 900) ∧ (exsT t).length ≤ 900 ∧ (∀ e ∈ exsT t, smallE e ∧ e.ts.length ≤ 900) ∧ ∀ H', Same H H' → Q (.bl false) H'
section
variable {P : Program} {w : World} {K : PySem.W.Frag} {mg : Str → Option Value} {base : Heap}
def ab (x : Int) : Int := if x < 0 then -x else x
theorem ab_lt {x : Int} (h : (x.natAbs : Int) < LIM) : ab x < LIM := by
  unfold ab
  split <;> omega
theorem bb_max : bootBuiltins "max" = some (.builtin "max") := by decide +kernel
theorem bb_abs : bootBuiltins "abs" = some (.builtin "abs") := by decide +kernel
theorem ok_Grt {n : Nat} {f : Addr} {fd : FuncData} (F : Fun K "has_great_number" "has_great_number" sGrt f fd) (T : TxChk mg) (cL : ∃ u, mg "LIMIT" = some u ∧ RelV (.int LIM) u) (GA : Has P w K mg base CX0 (4 + n) "all_numbered" PAllN (spAllN K n)) (GE : Has P w K mg base CX0 1 "expressions_of" PExs (spExs K)) : FnOk P w K mg base CX0 (4 + n + 1) f fd PGrt (spGrt K n) := by
  refine F.ok scGrt (fun vs H Q E h => ?_) (fun cdv A outer s H vs Q E hr h => ?_)
  · obtain ⟨q, l, rfl, _⟩ := h
    rfl
  · obtain ⟨v, t, rfl, hv, ok, sz, tot, sm, k⟩ := h
    have hr1 := hr.mono (j := 1) (show 1 ≤ 4 + n by omega)
    refine ⟨_, (pss_cons (ps_set (i := 1) scGrt.nd rfl (Or.inl rfl) (pe_callTy call_list_of (by rfl) T.n_list bb_list (pa_cons (pe_ix (r := rIxT K) ix_tup (pv 0) pe_int (fun _ _ => rfl)) pa_nil)))
  (pss_cons (ps_for PassesOwn.never rfl (pi_tup (pe_ix (r := rIxT K) ix_tup (pv 0) pe_int (fun _ _ => rfl))) (pg_tup (by rfl) (pgs_cons (pg_name (i := 2) scGrt.nd rfl (Or.inl rfl)) (pgs_cons (pg_name (i := 3) scGrt.nd rfl (Or.inl rfl)) (pgs_cons (pg_name (i := 4) scGrt.nd rfl (Or.inl rfl)) pgs_nil))))
  (pss_one (ps_for PassesOwn.never rfl (pi_list (pe_callH GA hr rfl pass0 (pa_cons (pv 4) (pa_cons pe_int pa_nil)))) (pg_tup (by rfl) (pgs_cons (pg_name (i := 5) scGrt.nd rfl (Or.inl rfl)) (pgs_cons (pg_name (i := 6) scGrt.nd rfl (Or.inl rfl)) pgs_nil)))
  (pss_one (ps_expr (pe_bm PySem.F.plainAttrs_list PySem.F.slot_list_extend PySem.F.type_list_extend mt_extend (pv 1) (pa_cons (pe_callH GE hr1 rfl pass0 (pa_cons (pv 6) pa_nil)) pa_nil)))))))
  (pss_cons (ps_for PassesOwn.never rfl (pi_list (pv 1)) (pg_tup (by rfl) (pgs_cons (pg_name (i := 7) scGrt.nd rfl (Or.inl rfl)) (pgs_cons (pg_name (i := 8) scGrt.nd rfl (Or.inl rfl)) pgs_nil)))
  (pss_one (ps_if (pt_cmpR op_ge (pe_callB (cr_max rfl) (by rfl) T.n_max bb_max (pa_cons (pe_op op_cat (pe_lst (pa_cons (pe_callB call_abs (by rfl) T.n_abs bb_abs (pa_cons (pv 7) pa_nil)) pa_nil)) (pe_lc (own := [("word", 9), ("factor", 10)]) (g := gTup K 2 (gCons (gName 9) (gCons (gName 10) gNil))) (tt := tYes) rfl scGrt.nd (pi_tup (pv 8)) (blkOk_by (own := [("word", 9), ("factor", 10)]) (N := NGrt) (sc := (defScope sGrt)) (by decide +kernel)) (fun _ _ _ _ _ => (pg_tup (by rfl) (pgs_cons (pg_name (i := 9) scGrt.nd rfl (Or.inl rfl)) (pgs_cons (pg_name (i := 10) scGrt.nd rfl (Or.inl rfl)) pgs_nil)))) (fun _ _ _ _ _ => pts_nil) (fun _ _ _ _ _ => (pe_callB call_abs (by rfl) T.n_abs bb_abs (pa_cons (pv 10) pa_nil))))) pa_nil)) (pe_globE rfl cL) (nomark _))
  (pss_one (ps_ret pe_bl))
  pss_nil)))
  (pss_one (ps_ret pe_bl))))), ?_⟩
    obtain ⟨okn, okk, oke, lf, okf⟩ := ok
    have hv : Dp K H v (.tuple [nmD t.names, nmD t.kinds, .tuple (t.keeps.map exD), .tuple (t.fns.map fnD)]) := hv
    obtain ⟨a, xs, rfl, hq, hd⟩ := hv.tupInv
    obtain ⟨x0, x1, x2, x3, rfl, _, _, h2, h3⟩ := hd.four
    obtain ⟨b, ys, rfl, hb, hbd⟩ := h2.tupInv
    obtain ⟨c, zs, rfl, hc, hcd⟩ := h3.tupInv
    have pk := DpAll.map hbd
    have pf := DpAll.map hcd
    refine ⟨_, rfl, a, _, _, _, rfl, rfl, hq, rfl, b, _, rfl, .inr hb, fun q hq1 => ?_⟩
    have s1 := same_new (o := .lst ys) hq1
    refine ⟨_, rfl, a, _, _, _, rfl, rfl, SqT.same s1 hq, rfl, c, rfl, ⟨_, SqT.same s1 hc⟩, ?_⟩
    refine for_tup (K := K) (a := c) (xs := zs) (fun j σ H' => (∃ x2 x3 x4 x5 x6 x7 : Option V, σ = [some (.ref a), some (.ref q), x2, x3, x4, x5, x6, x7, none, none, none]) ∧ Same H H' ∧ ∃ us, H' q = some (.lst us) ∧ Paired (fun x e => Dp K H' x (exD e)) us (t.keeps ++ (t.fns.take j).flatMap exsF)) ⟨⟨_, _, _, _, _, _, rfl⟩, s1, ys, upd_same, by rw [List.take_zero, List.flatMap_nil, List.append_nil]; exact Paired.mapP pk fun _ _ z => z.same s1⟩ (fun j σ H' _ h' => SqT.same h'.2.1 hc) ?_ ?_
    · rintro j x σ H1 hx ⟨⟨x2, x3, x4, x5, x6, x7, rfl⟩, s2, us, eq, pu⟩
      obtain ⟨fn, hfn, hfd⟩ := Paired.at pf hx
      have mf := List.mem_of_getElem? hfn
      have okn := okf fn mf
      have hfd : Dp K H x (.tuple [.str fn.name, .tuple (fn.ps.map prD), blD fn.b]) := hfd
      obtain ⟨d, ds, rfl, hd1, hdd⟩ := hfd.tupInv
      obtain ⟨u1, u2, u3, rfl, g1, g2, g3⟩ := hdd.three
      refine ⟨d, _, rfl, SqT.same s2 hd1, rfl, _, _, rfl, _, _, rfl, _, _, rfl, rfl, ?_⟩
      refine ⟨_, rfl, u3, fn.b, 0, rfl, g3.same s2, okn.2.2.2.1, okn.2.2.1, sz fn mf, fun L ls H2 s3 nL eL pL => ?_⟩
      have qL : q ≠ L := ne_of_none eq nL
      have efl : (t.fns.take (j + 1)).flatMap exsF = (t.fns.take j).flatMap exsF ++ exsF fn := flat_snoc (f := exsF) hfn
      have lfl := flat_len (f := exsF) (l := t.fns) (j + 1)
      rw [efl, List.length_append] at lfl
      have tot2 : t.keeps.length + (t.fns.flatMap exsF).length ≤ 900 := by rw [← List.length_append]; exact tot
      refine ⟨L, rfl, ⟨_, SqL.of eL⟩, ?_⟩
      refine for_list (K := K) (a := L) (xs := ls) (fun i σ H' => (∃ x5 x6 x7 : Option V, σ = [some (.ref a), some (.ref q), some u1, some u2, some u3, x5, x6, x7, none, none, none]) ∧ Same H H' ∧ H' L = some (.lst ls) ∧ Tps H2 H' ∧ ∃ us, H' q = some (.lst us) ∧ Paired (fun x e => Dp K H' x (exD e)) us ((t.keeps ++ (t.fns.take j).flatMap exsF) ++ ((allB fn.b 0).take i).flatMap fun p => exprS p.2)) ⟨⟨_, _, _, rfl⟩, s2.trans s3, eL, Tps.refl, us, s3 _ _ eq, by rw [List.take_zero, List.flatMap_nil, List.append_nil]; exact Paired.mapP pu fun _ _ z => z.same s3⟩ (fun j σ H' _ h' => SqL.of h'.2.2.1) ?_ ?_
      · rintro i y σ H3 hy ⟨⟨x5, x6, x7, rfl⟩, s4, eL3, t3, ws, eq3, pw⟩
        obtain ⟨⟨num, st⟩, hp, hpd⟩ := Paired.at pL hy
        obtain ⟨e, u, rfl, hqe, hde⟩ := hpd.tps t3
        have oks := ok_allB fn.b 0 okn.2.2.1.2 _ (List.mem_of_getElem? hp)
        refine ⟨e, _, rfl, hqe, rfl, _, _, rfl, _, _, rfl, rfl, ?_⟩
        refine ⟨_, rfl, .inl ⟨rfl, _, SqL.of eq3⟩, _, rfl, u, st, rfl, hde, oks, fun M ms H4 s5 nM eM pM => ?_⟩
        have e2 : ((allB fn.b 0).take (i + 1)).flatMap (fun p => exprS p.2) = (((allB fn.b 0).take i).flatMap fun p => exprS p.2) ++ exprS st := flat_snoc (f := fun p : Nat × St => exprS p.2) hp
        have l2 := flat_len (f := fun p : Nat × St => exprS p.2) (l := allB fn.b 0) (i + 1)
        rw [e2, List.length_append, ← Paired.length pM] at l2
        have lw := Paired.length pw
        rw [List.length_append, List.length_append] at lw
        have l3 : (exsF fn).length = ((allB fn.b 0).flatMap fun p => exprS p.2).length := rfl
        have eq4 := s5 _ _ eq3
        refine ⟨q, M, _, _, rfl, rfl, eq4, eM, Nat.le_of_lt (sizeBig (by omega)), ?_⟩
        have t5 : Tps H4 (upd H4 q (.lst (ws ++ ms))) := Tps.lst eq4
        have t6 := (Tps.of s5).trans t5
        refine ⟨⟨_, _, _, rfl⟩, fun c o z => ?_, ?_, t3.trans t6, _, upd_same, ?_⟩
        · rw [upd_ne (ne_of_none z hq1)]
          exact s5 _ _ (s4 _ _ z)
        · rw [upd_ne qL.symm]
          exact s5 _ _ eL3
        · rw [e2, ← List.append_assoc]
          exact Paired.app (Paired.mapP pw fun _ e z => z.tps t6 (noL_ex e)) (Paired.mapP pM fun _ e z => z.tps t5 (noL_ex e))
      · rintro σ H3 ⟨⟨x5, x6, x7, rfl⟩, s4, eL3, t3, ws, eq3, pw⟩
        rw [Paired.length pL, List.take_length] at pw
        refine ⟨⟨_, _, _, _, _, _, rfl⟩, s4, ws, eq3, ?_⟩
        rw [efl, ← List.append_assoc]
        exact pw
    · rintro σ H1 ⟨⟨x2, x3, x4, x5, x6, x7, rfl⟩, s2, us, eq, pu⟩
      rw [Paired.length pf, List.take_length] at pu
      have pu : Paired (fun x e => Dp K H1 x (exD e)) us (exsT t) := pu
      refine ⟨_, rfl, q, rfl, ⟨_, SqL.of eq⟩, ?_⟩
      refine for_list (K := K) (a := q) (xs := us) (fun i σ H' => (∃ x7 x8 : Option V, σ = [some (.ref a), some (.ref q), x2, x3, x4, x5, x6, x7, x8, none, none]) ∧ Same H1 H') ⟨⟨_, _, rfl⟩, Same.refl _⟩ (fun j σ H' _ h' => SqL.of (h'.2 _ _ eq)) ?_ ?_
      · rintro j x σ H2 hx ⟨⟨x7, x8, rfl⟩, s3⟩
        obtain ⟨e, he, hed⟩ := Paired.at pu hx
        have ⟨sme, le⟩ := sm e (List.mem_of_getElem? he)
        have hed : Dp K H1 x (.tuple [.int e.c, .tuple (e.ts.map fun p => .tuple [.str p.1, .int p.2])]) := hed
        obtain ⟨d, ds, rfl, hd1, hdd⟩ := hed.tupInv
        obtain ⟨u1, u2, rfl, g1, g2⟩ := hdd.two
        rw [g1.intInv] at hd1
        obtain ⟨b2, ts, rfl, hb2, hbd2⟩ := g2.tupInv
        have pt := DpAll.map hbd2
        have lt : ts.length = e.ts.length := Paired.length pt
        refine ⟨d, _, rfl, SqT.same s3 hd1, rfl, _, _, rfl, _, _, rfl, rfl, ?_⟩
        refine ⟨_, rfl, _, rfl, (by show 1 ≤ sizeLine; decide), fun p hp => ?_⟩
        have s4 := same_new (o := .lst [V.int (ab e.c)]) hp
        have ep : upd H2 p (.lst [V.int (ab e.c)]) p = some (.lst [V.int (ab e.c)]) := upd_same
        have s5 := s3.trans s4
        refine ⟨_, rfl, b2, rfl, ⟨_, SqT.same s5 hb2⟩, fun D hD => ?_⟩
        refine lc_tup (K := K) (a := b2) (xs := ts) (fun i H' => Same (upd H2 p (.lst [V.int (ab e.c)])) H' ∧ H' D = some (.lst (((e.ts.take i).map fun p => ab p.2).map V.int))) ⟨same_new hD, upd_same⟩ (fun i H' _ h' => SqT.same (s5.trans h'.1) hb2) ?_ ?_
        · rintro i z H4 hz ⟨s6, eD⟩
          obtain ⟨pr, ht, htd⟩ := Paired.at pt hz
          obtain ⟨c3, zs3, rfl, hc3, hcd3⟩ := htd.tupInv
          obtain ⟨u, w, rfl, hu, hw⟩ := hcd3.two
          rw [hu.strInv, hw.intInv] at hc3
          have hi : i < ts.length := (List.getElem?_eq_some_iff.mp hz).1
          refine ⟨c3, _, rfl, SqT.same (s5.trans s6) hc3, rfl, _, _, rfl, _, _, rfl, rfl, rfl, ?_⟩
          refine ⟨_, rfl, _, rfl, _, eD, small1000 (by rw [List.length_map, List.length_map, List.length_take]; omega), fun c o z => ?_, ?_⟩
          · rw [upd_ne (ne_of_none z hD)]
            exact s6 _ _ z
          · rw [upd_same, take_snoc ht, List.map_append, List.map_append]
            rfl
        · rintro H4 ⟨s6, eD⟩
          rw [lt, List.take_length] at eD
          refine ⟨p, D, _, _, rfl, rfl, s6 _ _ ep, eD, Nat.le_of_lt (sizeBig (by rw [List.length_map, List.length_map]; show 1 + _ ≤ _; omega)), fun r hr => ?_⟩
          have s7 := same_new (o := .lst ([V.int (ab e.c)] ++ (e.ts.map fun p => ab p.2).map V.int)) hr
          refine ⟨r, ab e.c :: e.ts.map fun p => ab p.2, rfl, SqL.of upd_same, Nat.succ_pos _, fun m hm _ => ?_⟩
          have hl : m < LIM := by
            rcases List.mem_cons.mp hm with z | z
            · rw [z]; exact ab_lt sme.1
            · obtain ⟨y, hy, rfl⟩ := List.mem_map.mp z
              exact ab_lt (sme.2 y hy)
          refine ⟨_, _, rfl, rfl, _, rfl, iteE (decide_eq_false (by omega)) ?_⟩
          exact ⟨⟨_, _, rfl⟩, (s5.trans s6).trans s7⟩
      · rintro σ H2 ⟨_, s3⟩
        exact k _ (s2.trans s3)
end

/-! ### max(list of ints, default=d) -/
section
variable {prog : Program} {w : World} {A : Around} {R : Result → Shared → Prop} {I : Addr} {fp wr : List Addr} {n : Nat} {P : Nat → Value → Prop} {Sx : Nat → Heap → Prop} {kw : List (Str × Value)}
theorem mxd_step (W : Walks prog w A.in1 I fp wr n P Sx) (bt : Nat → Nat → Bool) (cm : CmpOf prog w A.in1 .Gt P bt) (T : Addr) (nT : T ∉ fp) :
    ∀ (k j : Nat) (s : Shared) (best : Value) (c : Nat), n - (j + 1) = k → j + 1 ≤ n → Sx (j + 1) s.heap → P (argBest bt j) best →
      s.heap.get? T = some { cls := .type "list", dict := none, data := .seq #[best, best] c, slots := #[] } →
      (∀ v h2 tk, P (argBest bt (n - 1)) v → (∀ b o, b ∉ wr → b ≠ T → s.heap.get? b = some o → h2.get? b = some o) → R (.ok (.ret v)) { s with heap := h2, toks := tk }) →
      codeAny (model prog w) A (.builtin "max.loop" ⟨[.ref I, .none, .ref T], kw⟩) R s := by
  have wT : T ∉ wr := fun z => nT (W.sub _ z)
  have nm : (toString "max" ++ toString ".loop" : String) = "max.loop" := by decide
  intro k
  induction k with
  | zero =>
    intro j s best c ek hj st hp hT hR
    have ej : j + 1 = n := by omega
    refine codeAny_builtin PySem.F.entry_max_loop ?_
    rw [Around.under_plainId PySem.F.plain_max_loop]
    show wpAny _ A.in1 (seqItems? (.ref T) >>= _) _ _ _
    refine wpAny_bind (wpAny_seqItems hT rfl ?_)
    show wpAny _ A.in1 (tryCatch (pyNext (.ref I)) _ >>= _) _ _ _
    refine wpAny_bind (wpAny_tryCatch (W.done s _ _ (ej ▸ st) fun h2 tk kp => ?_))
    have hT2 := kp T _ wT hT
    show wpAny _ A.in1 (updateSeq T (fun _ => #[]) >>= _) _ _ _
    refine wpAny_bind (wpAny_updateSeq hT2 rfl (wpAny_bind (wpAny_letGo (wpAny_pure ?_))))
    exact hR best _ tk (by rw [← ej]; exact hp) fun b o hb hbT e => (Heap.get?_update_other _ _ (Ne.symm hbT)).trans (kp b o hb e)
  | succ k ih =>
    intro j s best c ek hj st hp hT hR
    have lt : j + 1 < n := by omega
    refine codeAny_builtin PySem.F.entry_max_loop ?_
    rw [Around.under_plainId PySem.F.plain_max_loop]
    show wpAny _ A.in1 (seqItems? (.ref T) >>= _) _ _ _
    refine wpAny_bind (wpAny_seqItems hT rfl ?_)
    show wpAny _ A.in1 (tryCatch (pyNext (.ref I)) _ >>= _) _ _ _
    refine wpAny_bind (wpAny_tryCatch (W.item (j + 1) s _ _ lt st fun v h2 tk hv st2 kp => ?_))
    have hT2 := kp T _ wT hT
    show wpAny _ A.in1 (tryCatch (holding [v, v] (richCompare .Gt v best >>= _)) _ >>= _) _ _ _
    refine wpAny_bind (wpAny_tryCatch (wpAny_holding (wpAny_bind (cm (j + 1) (argBest bt j) v best _ _ _ hv hp ?_))))
    refine wpAny_bind (wpAny_holding (wpAny_truthy_bool ?_))
    refine wpAny_bind (wpAny_letGo (wpAny_pure ?_))
    cases hb : bt (j + 1) (argBest bt j) with
    | true =>
      simp only [if_true]
      refine wpAny_bind (wpAny_updateSeq hT2 rfl (wpAny_bind (wpAny_letGo ?_)))
      rw [nm]
      have sf : Sx (j + 1 + 1) (h2.update T (Obj.mapSeq fun _ => #[v, v])) := W.frame _ _ _ st2 fun b hbf o e => (Heap.get?_update_other _ _ (fun z : T = b => nT (by rw [z]; exact hbf))).trans e
      refine wpAny_pure ⟨plainId_quiet PySem.F.plain_max_loop _, ih (j + 1) _ v _ (by omega) lt sf (by simp only [argBest, hb, if_true]; exact hv) (Heap.get?_update_self _ hT2 rfl) fun v3 h3 tk3 hp3 kp3 => ?_⟩
      exact hR v3 h3 tk3 hp3 fun b o q1 q2 e => kp3 b o q1 q2 ((Heap.get?_update_other _ _ (Ne.symm q2)).trans (kp b o q1 e))
    | false =>
      simp only [Bool.false_eq_true, if_false]
      refine wpAny_bind (wpAny_letGo ?_)
      rw [nm]
      refine wpAny_pure ⟨plainId_quiet PySem.F.plain_max_loop _, ih (j + 1) _ best c (by omega) lt st2 (by simp only [argBest, hb, Bool.false_eq_true, if_false]; exact hp) hT2 fun v3 h3 tk3 hp3 kp3 => ?_⟩
      exact hR v3 h3 tk3 hp3 fun b o q1 q2 e => kp3 b o q1 q2 (kp b o q1 e)
theorem mxd_first (W : Walks prog w A.in1 I fp wr n P Sx) (bt : Nat → Nat → Bool) (cm : CmpOf prog w A.in1 .Gt P bt) (T : Addr) (nT : T ∉ fp) (hn : 0 < n) {s : Shared} {c : Nat} (st : Sx 0 s.heap)
    (hT : s.heap.get? T = some { cls := .type "list", dict := none, data := .seq #[] c, slots := #[] })
    (hR : ∀ v h2 tk, P (argBest bt (n - 1)) v → (∀ b o, b ∉ wr → b ≠ T → s.heap.get? b = some o → h2.get? b = some o) → R (.ok (.ret v)) { s with heap := h2, toks := tk }) :
    codeAny (model prog w) A (.builtin "max.loop" ⟨[.ref I, .none, .ref T], kw⟩) R s := by
  have wT : T ∉ wr := fun z => nT (W.sub _ z)
  have nm : (toString "max" ++ toString ".loop" : String) = "max.loop" := by decide
  refine codeAny_builtin PySem.F.entry_max_loop ?_
  rw [Around.under_plainId PySem.F.plain_max_loop]
  show wpAny _ A.in1 (seqItems? (.ref T) >>= _) _ _ _
  refine wpAny_bind (wpAny_seqItems hT rfl ?_)
  show wpAny _ A.in1 (tryCatch (pyNext (.ref I)) _ >>= _) _ _ _
  refine wpAny_bind (wpAny_tryCatch (W.item 0 s _ _ hn st fun v h2 tk hv st2 kp => ?_))
  have hT2 := kp T _ wT hT
  show wpAny _ A.in1 (updateSeq T (fun _ => #[v, v]) >>= _) _ _ _
  refine wpAny_bind (wpAny_updateSeq hT2 rfl ?_)
  rw [nm]
  have sf : Sx (0 + 1) (h2.update T (Obj.mapSeq fun _ => #[v, v])) := W.frame _ _ _ st2 fun b hbf o e => (Heap.get?_update_other _ _ (fun z : T = b => nT (by rw [z]; exact hbf))).trans e
  refine wpAny_pure ⟨plainId_quiet PySem.F.plain_max_loop _, mxd_step W bt cm T nT _ 0 _ v _ rfl hn sf hv (Heap.get?_update_self _ hT2 rfl) fun v3 h3 tk3 hp3 kp3 => ?_⟩
  exact hR v3 h3 tk3 hp3 fun b o q1 q2 e => kp3 b o q1 q2 ((Heap.get?_update_other _ _ (Ne.symm q2)).trans (kp b o q1 e))
theorem mxd_none {d : Value} {x : Str} (W : Walks prog w A.in1 I fp wr 0 P Sx) (T : Addr) (nT : T ∉ fp) {s : Shared} {c : Nat} (st : Sx 0 s.heap)
    (hT : s.heap.get? T = some { cls := .type "list", dict := none, data := .seq #[] c, slots := #[] })
    (hR : ∀ h2 tk, (∀ b o, b ∉ wr → b ≠ T → s.heap.get? b = some o → h2.get? b = some o) → R (.ok (.ret d)) { s with heap := h2, toks := tk }) :
    codeAny (model prog w) A (.builtin "max.loop" ⟨[.ref I, .none, .ref T], [(x, d)]⟩) R s := by
  refine codeAny_builtin PySem.F.entry_max_loop ?_
  rw [Around.under_plainId PySem.F.plain_max_loop]
  show wpAny _ A.in1 (seqItems? (.ref T) >>= _) _ _ _
  refine wpAny_bind (wpAny_seqItems hT rfl ?_)
  show wpAny _ A.in1 (tryCatch (pyNext (.ref I)) _ >>= _) _ _ _
  refine wpAny_bind (wpAny_tryCatch (W.done s _ _ st fun h2 tk kp => ?_))
  show wpAny _ A.in1 (rule _ >>= _) _ _ _
  refine wpAny_bind (wpAny_rule (wpAny_pure ?_))
  exact hR h2 tk fun b o q1 _ e => kp b o q1 e
end
section
variable {prog : Program} {w : World} {A : Around} {E : Value → Shared → Prop} {s : Shared}
theorem mxd_args (a d : Value) : argsOk "max" ⟨[a], [(Str.ofString "default", d)]⟩ := by unfold argsOk; kernel_rfl
theorem mxd_call {x d : Value} {Q : Value → Shared → Prop}
    (h : wpAny (model prog w) A.in1 (pyIter x) (fun it s₂ => ∃ I fp wr n P Sx bt, it = .ref I ∧ Walks prog w A.in1 I fp wr n P Sx ∧ Sx 0 s₂.heap ∧ (∀ b ∈ fp, b < s₂.heap.objs.size) ∧ CmpOf prog w A.in1 .Gt P bt ∧
      (n = 0 → ∀ h2 tk, (∀ b o, b ∉ wr → s₂.heap.get? b = some o → h2.get? b = some o) → Q d { s₂ with heap := h2, toks := tk }) ∧
      (0 < n → ∀ v h2 tk, P (argBest bt (n - 1)) v → (∀ b o, b ∉ wr → s₂.heap.get? b = some o → h2.get? b = some o) → Q v { s₂ with heap := h2, toks := tk })) E s) :
    wpAny (model prog w) A (call (.builtin "max") [x] [(Str.ofString "default", d)]) Q E s := by
  have nm : (toString "max" ++ toString ".loop" : String) = "max.loop" := by decide
  refine PyProof.Rows.kmk_tree PySem.F.kind_max PySem.F.plain_max PySem.F.entry_max (mxd_args _ _) ?_
  show wpAny _ A.in1 (Builtin.Builtins.bindParams "max" ["key", "default"] 0 ⟨[], [(Str.ofString "default", d)]⟩ >>= _) _ _ s
  refine wpAny_bind (wpAny_of_eq (show Builtin.Builtins.bindParams "max" ["key", "default"] 0 ⟨[], [(Str.ofString "default", d)]⟩ = pure [none, some d] from rfl) ?_)
  refine wpAny_bind (wpAny_pure ?_)
  refine wpAny_bind (wpAny_mono h (fun it s₂ h₂ => ?_) fun _ _ e => e)
  obtain ⟨I, fp, wr, n, P, Sx, bt, rfl, W, st, hfp, cm, h0, h1⟩ := h₂
  refine wpAny_bind (wpAny_newObj_type ?_)
  have nS : s₂.heap.objs.size ∉ fp := fun hm => Nat.lt_irrefl _ (hfp _ hm)
  have sf : Sx 0 (s₂.heap.push { cls := .type "list", data := .seq #[] 0 }) := W.frame _ _ _ st fun b _ o e => Heap.get?_push_of_some _ e
  rw [nm]
  by_cases hn : n = 0
  · subst hn
    refine wpAny_pure ⟨plainId_quiet PySem.F.plain_max_loop _, mxd_none W s₂.heap.objs.size nS sf (Heap.get?_push_size _ rfl) fun h2 tk kp => ?_⟩
    exact h0 rfl h2 tk fun b o q e => kp b o q (Nat.ne_of_lt (Heap.lt_size e)) (Heap.get?_push_of_some _ e)
  · refine wpAny_pure ⟨plainId_quiet PySem.F.plain_max_loop _, mxd_first W bt cm s₂.heap.objs.size nS (by omega) sf (Heap.get?_push_size _ rfl) fun v h2 tk hp kp => ?_⟩
    exact h1 (by omega) v h2 tk hp fun b o q e => kp b o q (Nat.ne_of_lt (Heap.lt_size e)) (Heap.get?_push_of_some _ e)
end
/-- m is the greatest of ns, or d if there is none -/
def MaxIs (d : Int) (ns : List Int) (m : Int) : Prop := (ns = [] ∧ m = d) ∨ (m ∈ ns ∧ ∀ y ∈ ns, y ≤ m)
def rMaxDf (K : PySem.W.Frag) : List V → List V → Hp → VK → Prop := fun vs zs H Q => ∃ (a : Addr) (ns : List Int) (d : Int), vs = [.ref a] ∧ zs = [.int d] ∧ SqL K H a (ns.map V.int) ∧ ∀ m, MaxIs d ns m → Q (.int m) H
theorem cr_maxDf {X : Cx} (hc : X.calm = true) : CallRK X (.builtin "max") [Str.ofString "default"] (rMaxDf X.K) := by
  intro pins s σ H vs zs us ws Q I r rz h
  obtain ⟨a, ns, d, rfl, rfl, hs, q⟩ := h
  obtain ⟨its, rv, hl, _⟩ := I.list hs
  rw [Vals.ref1 r]
  obtain ⟨w1, rfl, ⟨td, rfl⟩⟩ := vals1 rz
  have hl := hl.isList
  have hi := rv.ints
  obtain ⟨xs, e⟩ := hi.allInts.items
  have hn : numsOf (intItems xs).toList = ns := by rw [← e]; exact hi.numsOf
  rw [nums_intItems] at hn
  subst hn
  rw [e] at hl
  refine mxd_call (iter_intList hl fun s₂ e st hfp hlI => ?_)
  subst e
  refine ⟨_, _, _, _, _, _, _, rfl, Walks.list (A := X.A.in1) (I.ok.hd hc) _ a hlI (intItems xs), st, hfp, CmpOf.ints_gt (numAt xs) (fun _ _ => intItems_at), fun h0 h2 tk kp => ?_, fun h0 v h2 tk hp kp => ?_⟩
  · have h0 : xs.size = 0 := by simpa [intItems] using h0
    exact ⟨.int d, H, I.kept (old_kept kp), ⟨_, rfl⟩, q _ (.inl ⟨by rw [List.map_eq_nil_iff, ← List.length_eq_zero_iff, Array.length_toList]; exact h0, rfl⟩)⟩
  · have h0 : 0 < xs.size := by simpa [intItems] using h0
    have hp : (intItems xs)[argBest (fun i j => decide (numAt xs i > numAt xs j)) (xs.size - 1)]? = some v := by simpa [intItems] using hp
    obtain ⟨t, rfl⟩ := intItems_at hp
    obtain ⟨h1, h3⟩ := argBest_gt (numAt xs) (xs.size - 1)
    refine ⟨.int _, H, I.kept (old_kept kp), ⟨_, rfl⟩, q _ (.inr ⟨?_, fun y hy => ?_⟩)⟩
    · rw [numAt_eq]; exact PySem.getD_mem (by rw [List.length_map, Array.length_toList]; omega)
    · obtain ⟨j, hj, rfl⟩ := mem_getD hy
      rw [List.length_map, Array.length_toList] at hj
      rw [← numAt_eq]; exact h3 j (by omega)

/-! ### depth_of -/
abbrev sDep : Stmt := topS 51
abbrev NDep : List Str := ["block", "statement", "part"]
abbrev PDep : List Str := ["block"]
theorem scDep : FnScope NDep PDep (defScope sDep) := ⟨rfl, rfl, rfl, by decide +kernel, rfl, by decide +kernel, by decide +kernel⟩
theorem dp_ex_hs : ∀ hs : List Hd, hs = [] ∨ ∃ p ∈ hs.map Hd.b, dpB p = dpHs hs
  | [] => .inl rfl
  | .mk ks b :: r => by
    refine .inr ?_
    show ∃ p ∈ b :: r.map Hd.b, dpB p = max (dpB b) (dpHs r)
    rcases dp_ex_hs r with e | ⟨p, hp, e⟩
    · subst e
      exact ⟨b, List.mem_cons_self, (Nat.max_eq_left (Nat.zero_le _)).symm⟩
    · rcases Nat.le_total (dpB b) (dpHs r) with h | h
      · exact ⟨p, List.mem_cons_of_mem _ hp, by rw [e, Nat.max_eq_right h]⟩
      · exact ⟨b, List.mem_cons_self, by rw [Nat.max_eq_left h]⟩
theorem dp_max2 {a b m : Nat} {A B : Prop} (ha : A → a = m) (hb : B → b = m) (h : A ∨ B) : a = m ∨ b = m := h.elim (fun x => .inl (ha x)) fun x => .inr (hb x)
theorem dp_ex_s (s : St) : parts s = [] ∨ ∃ p ∈ parts s, dpB p = dpS s := by
  cases s with
  | ite a b =>
    refine .inr ?_
    show ∃ p ∈ [a, b], dpB p = max (dpB a) (dpB b)
    rcases Nat.le_total (dpB a) (dpB b) with h | h
    · exact ⟨b, by simp, by rw [Nat.max_eq_right h]⟩
    · exact ⟨a, by simp, by rw [Nat.max_eq_left h]⟩
  | whl b => exact .inr ⟨b, List.mem_cons_self, rfl⟩
  | undo _ b => exact .inr ⟨b, List.mem_cons_self, rfl⟩
  | with_ _ _ _ b => exact .inr ⟨b, List.mem_cons_self, rfl⟩
  | try_ b hs f =>
    refine .inr ?_
    show ∃ p ∈ b :: (hs.map Hd.b ++ [f]), dpB p = max (dpB b) (max (dpHs hs) (dpB f))
    have inner : ∃ p ∈ hs.map Hd.b ++ [f], dpB p = max (dpHs hs) (dpB f) := by
      rcases dp_ex_hs hs with e | ⟨p, hp, e⟩
      · subst e
        exact ⟨f, by simp, (Nat.max_eq_right (Nat.zero_le _)).symm⟩
      · rcases Nat.le_total (dpHs hs) (dpB f) with h | h
        · exact ⟨f, by simp, by rw [Nat.max_eq_right h]⟩
        · exact ⟨p, List.mem_append_left _ hp, by rw [Nat.max_eq_left h, e]⟩
    obtain ⟨p, hp, e⟩ := inner
    rcases Nat.le_total (dpB b) (max (dpHs hs) (dpB f)) with h | h
    · exact ⟨p, List.mem_cons_of_mem _ hp, by rw [Nat.max_eq_right h, e]⟩
    · exact ⟨b, List.mem_cons_self, by rw [Nat.max_eq_left h]⟩
  | _ => exact .inl rfl
theorem dp_none {s : St} (h : parts s = []) : dpS s = 0 := by
  cases s with
  | try_ _ _ _ => cases h
  | ite _ _ => cases h
  | whl _ => cases h
  | undo _ _ => cases h
  | with_ _ _ _ _ => cases h
  | _ => rfl
theorem dp_ex : ∀ b : List St, dpIn b = 0 ∨ ∃ p ∈ b.flatMap parts, dpB p = dpIn b
  | [] => .inl rfl
  | s :: r => by
    have hs : dpS s = 0 ∨ ∃ p ∈ parts s, dpB p = dpS s := (dp_ex_s s).imp_left dp_none
    have e : dpIn (s :: r) = max (dpS s) (dpIn r) := rfl
    rw [e, List.flatMap_cons]
    rcases Nat.le_total (dpS s) (dpIn r) with h | h
    · rw [Nat.max_eq_right h]
      exact (dp_ex r).imp_right fun ⟨p, hp, q⟩ => ⟨p, List.mem_append_right _ hp, q⟩
    · rw [Nat.max_eq_left h]
      exact hs.imp_right fun ⟨p, hp, q⟩ => ⟨p, List.mem_append_left _ hp, q⟩
theorem dp_flatp {b : List St} {p : List St} (h : p ∈ b.flatMap parts) : dpB p ≤ dpIn b := by
  obtain ⟨s, hs, hp⟩ := List.mem_flatMap.mp h
  exact Nat.le_trans (dp_part hp) (dp_mem hs)
theorem dp_max {b : List St} {m : Int} (h : MaxIs 0 ((b.flatMap parts).map fun p => ((dpB p : Nat) : Int)) m) : m = ((dpIn b : Nat) : Int) := by
  rcases h with ⟨e, rfl⟩ | ⟨hm, hle⟩
  · rw [List.map_eq_nil_iff] at e
    rcases dp_ex b with z | ⟨p, hp, _⟩
    · rw [z]; rfl
    · rw [e] at hp; cases hp
  · obtain ⟨p, hp, rfl⟩ := List.mem_map.mp hm
    have l1 := dp_flatp hp
    rcases dp_ex b with z | ⟨p2, hp2, e2⟩
    · have := dpB_eq p; omega
    · have := hle _ (List.mem_map.mpr ⟨p2, hp2, rfl⟩)
      have l2 : ((dpB p2 : Nat) : Int) ≤ ((dpB p : Nat) : Int) := this
      omega
theorem flat_small {b : List St} (ok : okL b) : (b.flatMap parts).length ≤ 902 * b.length := by
  induction b with
  | nil => simp
  | cons s r ih =>
    have ok : okS s ∧ okL r := ok
    have l1 := parts_len ok.1
    have l2 := ih ok.2
    rw [List.flatMap_cons, List.length_append, List.length_cons]
    omega
def spDep (K : PySem.W.Frag) (n : Nat) : Sp := fun vs H Q _ => ∃ (v : V) (b : List St), vs = [v] ∧ Dp K H v (blD b) ∧ dpB b ≤ n ∧ okB b ∧ ∀ H', Same H H' → Q (.int (dpB b : Int)) H'
theorem sizeHuge {n : Nat} (h : n ≤ 1000000) : n < sizeLine := Nat.lt_of_le_of_lt h (by decide)
section
variable {P : Program} {w : World} {K : PySem.W.Frag} {mg : Str → Option Value} {base : Heap}
theorem ok_Dep {f : Addr} {fd : FuncData} (F : Fun K "depth_of" "depth_of" sDep f fd) (T : TxChk mg) (GP : Has P w K mg base CX0 1 "parts_of" PParts (spParts K)) (m : mg "depth_of" = some (.ref f)) (kp : PySem.W.keepIn K (.ref f) = true) (bd : Binds K fd PDep []) : ∀ n, FnOk P w K mg base CX0 (2 + n) f fd PDep (spDep K n) := by
  intro n
  induction n with
  | zero => exact ⟨fun vs H Q E h => by obtain ⟨_, _, _, _, h, _⟩ := h; exact (no_dp h).elim, fun _ _ _ _ _ _ _ _ _ _ _ _ _ h => by obtain ⟨_, _, _, _, h, _⟩ := h; exact (no_dp h).elim⟩
  | succ n ih =>
    have GS : Has P w K mg base CX0 (2 + n) "depth_of" PDep (spDep K n) := ⟨f, fd, ih, m, kp, bd⟩
    refine F.ok scDep (fun vs H Q E h => ?_) (fun cdv A outer s H vs Q E hr h => ?_)
    · obtain ⟨v, b, rfl, _⟩ := h
      rfl
    · obtain ⟨v, b, rfl, hv, hn, ok, k⟩ := h
      have hr1 := hr.mono (j := 1) (show 1 ≤ 2 + n by omega)
      refine ⟨_, (pss_one (ps_ret (pe_op op_add pe_int (pe_callBK (cr_maxDf rfl) (by rfl) T.n_max bb_max (pa_cons (pe_lc2 (own := [("statement", 1), ("part", 2)]) (vs1 := [2]) (wi1 := iTup K (tCall (spParts K) [] E0 (tCons (tVar 1) tNil))) (g := gName 1) (g1 := gName 2) (tt := tYes) (tt1 := tYes) rfl scDep.nd (pi_tup (pv 0)) (blkOk_by (own := [("statement", 1), ("part", 2)]) (N := NDep) (sc := (defScope sDep)) (by decide +kernel)) (by decide) (fun _ _ _ _ _ => (pg_name (i := 1) scDep.nd rfl (Or.inl rfl))) (fun _ _ _ _ _ => pts_nil) (fun _ _ _ _ _ => (pi_tup (pe_callH GP hr1 rfl pass0 (pa_cons (pv 1) pa_nil)))) (fun _ _ _ _ _ => (pg_name (i := 2) scDep.nd rfl (Or.inl rfl))) (fun _ _ _ _ _ => pts_nil) (fun _ _ _ _ _ => (pe_callH GS hr rfl pass0 (pa_cons (pv 2) pa_nil)))) pa_nil) (pk_cons pe_int pk_nil))))), ?_⟩
      obtain ⟨a, xs, rfl, hq, hd⟩ := hv.tupInv
      rw [stsD_map] at hd
      have pb := hd.map
      have lx : xs.length = b.length := Paired.length pb
      have l9 : b.length ≤ 900 := ok.1
      have lf := flat_small ok.2
      refine ⟨_, rfl, a, rfl, ⟨_, hq⟩, fun D hD => ?_⟩
      refine walkB (K := K) (a := a) (xs := xs) (fun i H' => Same H H' ∧ H' D = some (.lst (((b.take i).flatMap parts).map fun p => V.int (dpB p : Int)))) ⟨same_new hD, upd_same⟩ (fun i H' _ h' => SqT.same h'.1 hq) ?_ ?_
      · rintro i x H1 hx ⟨s1, eD⟩
        obtain ⟨st, hst, hsd⟩ := Paired.at pb hx
        have ms := List.mem_of_getElem? hst
        have oks := okL_mem ok.2 ms
        have fl : (b.take (i + 1)).flatMap parts = (b.take i).flatMap parts ++ parts st := flat_snoc (f := parts) hst
        have ll := flat_len (f := parts) (l := b) (i + 1)
        rw [fl, List.length_append] at ll
        refine ⟨rfl, _, rfl, x, st, rfl, hsd.same s1, okS_few oks, fun t ts H2 s2 e2 p2 => ?_⟩
        refine ⟨t, rfl, ⟨_, SqT.of e2⟩, ?_⟩
        have lt : ts.length = (parts st).length := Paired.length p2
        refine walkB (K := K) (a := t) (xs := ts) (fun j H' => Same H H' ∧ Tps H2 H' ∧ H' D = some (.lst (((b.take i).flatMap parts ++ (parts st).take j).map fun p => V.int (dpB p : Int)))) ⟨s1.trans s2, Tps.refl, by rw [List.take_zero, List.append_nil]; exact s2 _ _ eD⟩ (fun j H' _ h' => h'.2.1.sqt (SqT.of e2)) ?_ ?_
        · rintro j y H3 hy ⟨s3, t3, eD3⟩
          obtain ⟨p, hp, hpd⟩ := Paired.at p2 hy
          have hj : j < ts.length := (List.getElem?_eq_some_iff.mp hy).1
          have mp := List.mem_of_getElem? hp
          have hdp := dp_lt ms mp
          refine ⟨rfl, _, rfl, y, p, rfl, hpd.tps t3 (noL_bl p), by omega, okS_parts oks mp, fun H4 s4 => ?_⟩
          refine ⟨_, s4 _ _ eD3, sizeHuge (by rw [List.length_map, List.length_append, List.length_take]; omega), fun c o z => ?_, t3.trans ((Tps.of s4).trans (Tps.lst (s4 _ _ eD3))), ?_⟩
          · rw [upd_ne (ne_of_none z hD)]
            exact s4 _ _ (s3 _ _ z)
          · rw [upd_same, take_snoc hp, ← List.append_assoc, List.map_append (l₂ := [p])]
            rfl
        · rintro H3 ⟨s3, t3, eD3⟩
          rw [lt, List.take_length, ← fl] at eD3
          exact ⟨s3, eD3⟩
      · rintro H1 ⟨s1, eD⟩
        rw [lx, List.take_length] at eD
        refine ⟨D, (b.flatMap parts).map fun p => ((dpB p : Nat) : Int), 0, rfl, rfl, SqL.of (by rw [eD, List.map_map]; rfl), fun m hm => ?_⟩
        rw [dp_max hm]
        have e : (1 : Int) + ((dpIn b : Nat) : Int) = ((dpB b : Nat) : Int) := by rw [dpB_eq]; omega
        refine ⟨_, _, rfl, rfl, ?_⟩
        show Q (V.int (1 + ((dpIn b : Nat) : Int))) H1
        rw [e]
        exact k _ s1
end

/-! ### wiped slots, without looking at the others -/
theorem wipe_hit {σ : L2.St} {i : Nat} : ∀ {vs : List Nat}, i ∈ vs → (wipe σ vs)[i]? = σ[i]?.map fun _ => none
  | v :: vs, h => by
    show ((wipe σ vs).set v none)[i]? = _
    rw [List.getElem?_set]
    by_cases e : v = i
    · subst e
      rw [if_pos rfl, wipe_length]
      by_cases hl : v < σ.length
      · rw [if_pos hl, List.getElem?_eq_getElem hl]; rfl
      · rw [if_neg hl, List.getElem?_eq_none (Nat.le_of_not_lt hl)]; rfl
    · rw [if_neg e]
      exact wipe_hit ((List.mem_cons.mp h).resolve_left fun z => e z.symm)
theorem wipe_in {σ : L2.St} {i : Nat} {x : Option V} {vs : List Nat} (h : i ∈ vs) : wipe (List.set σ i x) vs = wipe σ vs := by
  refine List.ext_getElem? fun j => ?_
  by_cases hj : j ∈ vs
  · rw [wipe_hit hj, wipe_hit hj, List.getElem?_set]
    by_cases e : i = j
    · subst e
      rw [if_pos rfl]
      by_cases hl : i < σ.length
      · rw [if_pos hl, List.getElem?_eq_getElem hl]; rfl
      · rw [if_neg hl, List.getElem?_eq_none (Nat.le_of_not_lt hl)]
    · rw [if_neg e]
  · rw [wipe_out hj, wipe_out hj, List.getElem?_set, if_neg (fun z : i = j => hj (by rw [← z]; exact h))]
theorem wipe_id {σ : L2.St} {vs : List Nat} : wipe (wipe σ vs) vs = wipe σ vs := by
  refine List.ext_getElem? fun j => ?_
  by_cases hj : j ∈ vs
  · rw [wipe_hit hj, wipe_hit hj]
    cases σ[j]? <;> rfl
  · rw [wipe_out hj]
theorem wipe1 {σ : L2.St} {i : Nat} {x : Option V} {vs : List Nat} (h : i ∈ vs) : wipe (List.set (wipe σ vs) i x) vs = wipe σ vs := (wipe_in h).trans wipe_id
theorem wipe2 {σ : L2.St} {i j : Nat} {x y : Option V} {vs : List Nat} (h : i ∈ vs) (h2 : j ∈ vs) : wipe (List.set (List.set (wipe σ vs) i x) j y) vs = wipe σ vs := (wipe_in h2).trans (wipe1 h)
theorem wipe3 {σ : L2.St} {i j k : Nat} {x y z : Option V} {vs : List Nat} (h : i ∈ vs) (h2 : j ∈ vs) (h3 : k ∈ vs) : wipe (List.set (List.set (List.set (wipe σ vs) i x) j y) k z) vs = wipe σ vs := (wipe_in h3).trans (wipe2 h h2)

/-! ### check_sizes -/
abbrev sChS : Stmt := topS 54
abbrev NChS : List Str := ["tree", "names", "kinds", "keeps", "functions", "own", "one", "places", "by_place", "name", "params", "block", "sizes", "other", "word", "size", "most"]
abbrev PChS : List Str := ["tree"]
theorem scChS : FnScope NChS PChS (defScope sChS) := ⟨rfl, rfl, rfl, by decide +kernel, rfl, by decide +kernel, by decide +kernel⟩
def rListOf (K : PySem.W.Frag) : List V → Hp → VK → Prop := fun xs H Q => ∃ p ys, xs = [.ref p] ∧ (SqL K H p ys ∨ SqT K H p ys) ∧ ∀ l, H l = none → Q (.ref l) (upd H l (.lst ys))
def rTupOf (K : PySem.W.Frag) : List V → Hp → VK → Prop := fun xs H Q => ∃ p ys, xs = [.ref p] ∧ ((SqL K H p ys ∧ ∀ l, H l = none → Q (.ref l) (upd H l (.tup ys))) ∨ (SqT K H p ys ∧ Q (.ref p) H))
def rLenS (K : PySem.W.Frag) : List V → Hp → VK → Prop := fun xs H Q => ∃ p ys, xs = [.ref p] ∧ (SqL K H p ys ∨ SqT K H p ys) ∧ Q (.int (ys.length : Nat)) H
def plN (f : Fn) : List Str := (f.ps.filter fun p => p.2).map Prod.fst
structure SmallT (t : Tr) : Prop where
  names : t.names.length ≤ 4
  kinds : t.kinds.length ≤ 3
  keeps : t.keeps.length ≤ 4
  fns : t.fns.length ≤ 6
  ps : ∀ f ∈ t.fns, f.ps.length ≤ 3
  pl : ∀ f ∈ t.fns, (plN f).length ≤ 2
  inn : ∀ f ∈ t.fns, (innerF t.names (prs f) f.b).length ≤ 3
  sz : (t.fns.map fun f => szB f.b).sum ≤ 60
  dp : ∀ f ∈ t.fns, dpB f.b ≤ 6
  num : (exsT t).length ≤ 900 ∧ ∀ e ∈ exsT t, smallE e ∧ e.ts.length ≤ 900
theorem sum_mem {α : Type} {f : α → Nat} {l : List α} {x : α} (h : x ∈ l) : f x ≤ (l.map f).sum := by
  induction l with
  | nil => cases h
  | cons y r ih =>
    rw [List.map_cons, List.sum_cons]
    rcases List.mem_cons.mp h with z | z
    · rw [z]; omega
    · have := ih z; omega
theorem SmallT.sz1 {t : Tr} (s : SmallT t) {f : Fn} (h : f ∈ t.fns) : szB f.b ≤ 60 := Nat.le_trans (sum_mem (f := fun f : Fn => szB f.b) h) s.sz
/-- what own_names gives -/
def OwnAt (D : Addr) (t : Tr) (H : Hp) (x : V) (f : Fn) : Prop := ∃ r a c, x = .ref r ∧ a ≠ D ∧ c ≠ D ∧ H r = some (.tup [.ref a, .ref c]) ∧ H a = some (.lst ((prs f).map V.str)) ∧ H c = some (.lst ((innerF t.names (prs f) f.b).map V.str))
theorem OwnAt.same {D : Addr} {H H' : Hp} (s : Same H H') {t : Tr} {x : V} {f : Fn} (h : OwnAt D t H x f) : OwnAt D t H' x f := let ⟨r, a, c, e, n1, n2, h1, h2, h3⟩ := h; ⟨r, a, c, e, n1, n2, s _ _ h1, s _ _ h2, s _ _ h3⟩
theorem OwnAt.upd {D : Addr} {H : Hp} {us zs : List V} (hD : H D = some (.lst us)) {t : Tr} {x : V} {f : Fn} (h : OwnAt D t H x f) : OwnAt D t (upd H D (.lst zs)) x f := by
  obtain ⟨r, a, c, e, n1, n2, h1, h2, h3⟩ := h
  refine ⟨r, a, c, e, n1, n2, ?_, ?_, ?_⟩
  · rw [upd_ne (ne_of h1 hD (by intro z; cases z))]; exact h1
  · rw [upd_ne n1]; exact h2
  · rw [upd_ne n2]; exact h3
/-- an entry of sizes -/
def SzAt (H : Hp) (x : V) : Prop := ∃ a w i m, x = .ref a ∧ H a = some (.tup [.str w, .int i, .int m]) ∧ i ≤ m
theorem SzAt.tps {H H' : Hp} (s : Tps H H') {x : V} (h : SzAt H x) : SzAt H' x := let ⟨a, w, i, m, e, q, l⟩ := h; ⟨a, w, i, m, e, s.1 _ _ q, l⟩
def Szs (HB : Hp) (q : Addr) (n : Nat) (H : Hp) : Prop := Same HB H ∧ ∃ us, H q = some (.lst us) ∧ us.length = n ∧ ∀ x ∈ us, SzAt H x
theorem Szs.grow {HB H H' : Hp} {q : Addr} {n : Nat} (h : Szs HB q n H) (s : Same H H') : Szs HB q n H' :=
  let ⟨s0, us, e, l, a⟩ := h
  ⟨s0.trans s, us, s _ _ e, l, fun x hx => (a x hx).tps (Tps.of s)⟩
theorem Szs.push {HB H : Hp} {q t : Addr} {n : Nat} {w : Str} {i m : Int} (h : Szs HB q n H) (hq : HB q = none) (ht : H t = none) (le : i ≤ m) : ∃ us, upd H t (.tup [.str w, .int i, .int m]) q = some (.lst us) ∧ us.length = n ∧ Szs HB q (n + 1) (upd (upd H t (.tup [.str w, .int i, .int m])) q (.lst (us ++ [.ref t]))) := by
  have s1 := same_new (o := .tup [.str w, .int i, .int m]) ht
  obtain ⟨s0, us, e, l, a⟩ := h.grow s1
  refine ⟨us, e, l, fun c o z => ?_, us ++ [.ref t], upd_same, by rw [List.length_append, l]; rfl, fun x hx => ?_⟩
  · rw [upd_ne (ne_of_none z hq)]
    exact s0 _ _ z
  · have tp : Tps (upd H t (.tup [.str w, .int i, .int m])) (upd (upd H t (.tup [.str w, .int i, .int m])) q (.lst (us ++ [.ref t]))) := Tps.lst e
    rcases List.mem_append.mp hx with z | z
    · exact (a x z).tps tp
    · rw [List.mem_singleton.mp z]
      exact ⟨t, w, i, m, rfl, tp.1 _ _ upd_same, le⟩
structure TxSz (mg : Str → Option Value) : Prop extends TxChk mg where
  n_int : mg "int" = none
theorem MaxIs.le {d m b : Int} {ns : List Int} (h : MaxIs d ns m) (hd : d ≤ b) (hn : ∀ y ∈ ns, y ≤ b) : m ≤ b := by
  rcases h with ⟨_, rfl⟩ | ⟨hm, _⟩
  · exact hd
  · exact hn m hm
def spChS (K : PySem.W.Frag) (n : Nat) : Sp := fun vs H Q _ => ∃ (v : V) (t : Tr), vs = [v] ∧ Dp K H v (trD t) ∧ okTr n t ∧ SmallT t ∧ ∀ H', Same H H' → Q .non H'
section
variable {P : Program} {w : World} {K : PySem.W.Frag} {mg : Str → Option Value} {base : Heap}
theorem ok_ChS {n : Nat} {f : Addr} {fd : FuncData} (F : Fun K "check_sizes" "check_sizes" sChS f fd) (T : TxChk mg) (n_int : mg "int" = none) (GO : Has P w K mg base CX0 (4 + n + 1 + 1) "own_names" POwn (spOwn K n)) (GS : Has P w K mg base CX0 (2 + n) "size_of" PSize (spSize K n)) (GD : Has P w K mg base CX0 (2 + n) "depth_of" PDep (spDep K n)) (GG : Has P w K mg base CX0 (4 + n + 1) "has_great_number" PGrt (spGrt K n)) : FnOk P w K mg base CX0 (4 + n + 1 + 1 + 1) f fd PChS (spChS K n) := by
  refine F.ok scChS (fun vs H Q E h => ?_) (fun cdv A outer s H vs Q E hr h => ?_)
  · obtain ⟨v, e, rfl, _⟩ := h
    rfl
  · obtain ⟨v, t, rfl, hv, ok, sm, k⟩ := h
    have n_int := n_int
    have T : TxSz mg := ⟨T, n_int⟩
    have hr2 := hr.mono (j := 2 + n) (by omega)
    have hr5 := hr.mono (j := 4 + n + 1) (by omega)
    refine ⟨_, (pss_cons (ps_asg (pv 0) (pg_tup (by rfl) (pgs_cons (pg_name (i := 1) scChS.nd rfl (Or.inl rfl)) (pgs_cons (pg_name (i := 2) scChS.nd rfl (Or.inl rfl)) (pgs_cons (pg_name (i := 3) scChS.nd rfl (Or.inl rfl)) (pgs_cons (pg_name (i := 4) scChS.nd rfl (Or.inl rfl)) pgs_nil))))))
  (pss_cons (ps_setLc (i := 5) (own := [("one", 6)]) (g := gName 6) (tt := tYes) rfl scChS.nd rfl rfl (sw_true rfl rfl rfl (by decide +kernel)) (pi_tup (pv 4)) (blkOk_by (own := [("one", 6)]) (N := NChS) (sc := (defScope sChS)) (by decide +kernel)) (fun _ _ _ _ _ => (pg_name (i := 6) scChS.nd rfl (Or.inl rfl))) (fun _ _ _ _ _ => pts_nil) (fun _ _ _ _ _ => (pe_callH GO hr rfl pass0 (pa_cons (pv 0) (pa_cons (pv 6) pa_nil)))))
  (pss_cons (ps_setLc (i := 7) (own := [("name", 9), ("params", 10), ("block", 11)]) (g := gTup K 3 (gCons (gName 9) (gCons (gName 10) (gCons (gName 11) gNil)))) (tt := tYes) rfl scChS.nd rfl rfl (sw_true rfl rfl rfl (by decide +kernel)) (pi_tup (pv 4)) (blkOk_by (own := [("name", 9), ("params", 10), ("block", 11)]) (N := NChS) (sc := (defScope sChS)) (by decide +kernel)) (fun _ _ _ _ _ => (pg_tup (by rfl) (pgs_cons (pg_name (i := 9) scChS.nd rfl (Or.inl rfl)) (pgs_cons (pg_name (i := 10) scChS.nd rfl (Or.inl rfl)) (pgs_cons (pg_name (i := 11) scChS.nd rfl (Or.inl rfl)) pgs_nil))))) (fun _ _ _ _ _ => pts_nil) (fun _ _ _ _ _ => (pe_callB (r := rLenS K) call_len_seq (by rfl) T.n_len bb_len (pa_cons (pe_lc (own := [("one", 6), ("by_place", 8)]) (wi := iTup K (tVar 10)) (g := gTup K 2 (gCons (gName 6) (gCons (gName 8) gNil))) rfl scChS.nd (pi_tup (pv 10)) (blkOk_by (own := [("one", 6), ("by_place", 8)]) (N := NChS) (sc := { kind := .function, names := [(".0", .local), ("name", .local), ("params", .local), ("block", .local), ("len", .globalImplicit)], isGenerator := false, isCoroutine := false }) (by decide +kernel)) (fun _ _ _ _ _ => (pg_tup (by rfl) (pgs_cons (pg_name (i := 6) scChS.nd rfl (Or.inl rfl)) (pgs_cons (pg_name (i := 8) scChS.nd rfl (Or.inl rfl)) pgs_nil)))) (fun _ _ _ _ _ => (pts_one (pt_val (pv 8)))) (fun _ _ _ _ _ => (pv 6))) pa_nil))))
  (pss_cons (ps_set (i := 12) scChS.nd rfl (Or.inl rfl) (pe_lst (pa_cons (pe_tup (pa_cons pe_str (pa_cons (pe_callB call_len_seq (by rfl) T.n_len bb_len (pa_cons (pv 1) pa_nil)) (pa_cons pe_int pa_nil)))) (pa_cons (pe_tup (pa_cons pe_str (pa_cons (pe_callB call_len_seq (by rfl) T.n_len bb_len (pa_cons (pv 2) pa_nil)) (pa_cons pe_int pa_nil)))) (pa_cons (pe_tup (pa_cons pe_str (pa_cons (pe_callB call_len_seq (by rfl) T.n_len bb_len (pa_cons (pv 3) pa_nil)) (pa_cons pe_int pa_nil)))) pa_nil)))))
  (pss_cons (ps_expr (pe_bm PySem.F.plainAttrs_list PySem.F.slot_list_append PySem.F.type_list_append mt_append (pv 12) (pa_cons (pe_tup (pa_cons pe_str (pa_cons (pe_callB call_len_seq (by rfl) T.n_len bb_len (pa_cons (pv 4) pa_nil)) (pa_cons pe_int pa_nil)))) pa_nil)))
  (pss_cons (ps_expr (pe_bm PySem.F.plainAttrs_list PySem.F.slot_list_append PySem.F.type_list_append mt_append (pv 12) (pa_cons (pe_tup (pa_cons pe_str (pa_cons (pe_callBK (cr_maxDf rfl) (by rfl) T.n_max bb_max (pa_cons (pe_lc (own := [("one", 6), ("other", 13)]) (g := gTup K 2 (gCons (gName 6) (gCons (gName 13) gNil))) (tt := tYes) rfl scChS.nd (pi_list (pv 5)) (blkOk_by (own := [("one", 6), ("other", 13)]) (N := NChS) (sc := (defScope sChS)) (by decide +kernel)) (fun _ _ _ _ _ => (pg_tup (by rfl) (pgs_cons (pg_name (i := 6) scChS.nd rfl (Or.inl rfl)) (pgs_cons (pg_name (i := 13) scChS.nd rfl (Or.inl rfl)) pgs_nil)))) (fun _ _ _ _ _ => pts_nil) (fun _ _ _ _ _ => (pe_callB (r := rLenS K) call_len_seq (by rfl) T.n_len bb_len (pa_cons (pv 6) pa_nil)))) pa_nil) (pk_cons pe_int pk_nil)) (pa_cons pe_int pa_nil)))) pa_nil)))
  (pss_cons (ps_expr (pe_bm PySem.F.plainAttrs_list PySem.F.slot_list_append PySem.F.type_list_append mt_append (pv 12) (pa_cons (pe_tup (pa_cons pe_str (pa_cons (pe_callBK (cr_maxDf rfl) (by rfl) T.n_max bb_max (pa_cons (pv 7) pa_nil) (pk_cons pe_int pk_nil)) (pa_cons pe_int pa_nil)))) pa_nil)))
  (pss_cons (ps_expr (pe_bm PySem.F.plainAttrs_list PySem.F.slot_list_append PySem.F.type_list_append mt_append (pv 12) (pa_cons (pe_tup (pa_cons pe_str (pa_cons (pe_callBK (cr_maxDf rfl) (by rfl) T.n_max bb_max (pa_cons (pe_lc (own := [("one", 6), ("other", 13)]) (g := gTup K 2 (gCons (gName 6) (gCons (gName 13) gNil))) (tt := tYes) rfl scChS.nd (pi_list (pv 5)) (blkOk_by (own := [("one", 6), ("other", 13)]) (N := NChS) (sc := (defScope sChS)) (by decide +kernel)) (fun _ _ _ _ _ => (pg_tup (by rfl) (pgs_cons (pg_name (i := 6) scChS.nd rfl (Or.inl rfl)) (pgs_cons (pg_name (i := 13) scChS.nd rfl (Or.inl rfl)) pgs_nil)))) (fun _ _ _ _ _ => pts_nil) (fun _ _ _ _ _ => (pe_callB (r := rLenS K) call_len_seq (by rfl) T.n_len bb_len (pa_cons (pv 13) pa_nil)))) pa_nil) (pk_cons pe_int pk_nil)) (pa_cons pe_int pa_nil)))) pa_nil)))
  (pss_cons (ps_expr (pe_bm PySem.F.plainAttrs_list PySem.F.slot_list_append PySem.F.type_list_append mt_append (pv 12) (pa_cons (pe_tup (pa_cons pe_str (pa_cons (pe_callB (cr_sum rfl) (by rfl) T.n_sum bb_sum (pa_cons (pe_lc (own := [("name", 9), ("params", 10), ("block", 11)]) (g := gTup K 3 (gCons (gName 9) (gCons (gName 10) (gCons (gName 11) gNil)))) (tt := tYes) rfl scChS.nd (pi_tup (pv 4)) (blkOk_by (own := [("name", 9), ("params", 10), ("block", 11)]) (N := NChS) (sc := (defScope sChS)) (by decide +kernel)) (fun _ _ _ _ _ => (pg_tup (by rfl) (pgs_cons (pg_name (i := 9) scChS.nd rfl (Or.inl rfl)) (pgs_cons (pg_name (i := 10) scChS.nd rfl (Or.inl rfl)) (pgs_cons (pg_name (i := 11) scChS.nd rfl (Or.inl rfl)) pgs_nil))))) (fun _ _ _ _ _ => pts_nil) (fun _ _ _ _ _ => (pe_callH GS hr2 rfl pass0 (pa_cons (pv 11) pa_nil)))) pa_nil)) (pa_cons pe_int pa_nil)))) pa_nil)))
  (pss_cons (ps_expr (pe_bm PySem.F.plainAttrs_list PySem.F.slot_list_append PySem.F.type_list_append mt_append (pv 12) (pa_cons (pe_tup (pa_cons pe_str (pa_cons (pe_callBK (cr_maxDf rfl) (by rfl) T.n_max bb_max (pa_cons (pe_lc (own := [("name", 9), ("params", 10), ("block", 11)]) (g := gTup K 3 (gCons (gName 9) (gCons (gName 10) (gCons (gName 11) gNil)))) (tt := tYes) rfl scChS.nd (pi_tup (pv 4)) (blkOk_by (own := [("name", 9), ("params", 10), ("block", 11)]) (N := NChS) (sc := (defScope sChS)) (by decide +kernel)) (fun _ _ _ _ _ => (pg_tup (by rfl) (pgs_cons (pg_name (i := 9) scChS.nd rfl (Or.inl rfl)) (pgs_cons (pg_name (i := 10) scChS.nd rfl (Or.inl rfl)) (pgs_cons (pg_name (i := 11) scChS.nd rfl (Or.inl rfl)) pgs_nil))))) (fun _ _ _ _ _ => pts_nil) (fun _ _ _ _ _ => (pe_callH GD hr2 rfl pass0 (pa_cons (pv 11) pa_nil)))) pa_nil) (pk_cons pe_int pk_nil)) (pa_cons pe_int pa_nil)))) pa_nil)))
  (pss_cons (ps_expr (pe_bm PySem.F.plainAttrs_list PySem.F.slot_list_append PySem.F.type_list_append mt_append (pv 12) (pa_cons (pe_tup (pa_cons pe_str (pa_cons (pe_callTy call_int1 (by rfl) T.n_int bb_int (pa_cons (pe_callH GG hr5 rfl pass0 (pa_cons (pv 0) pa_nil)) pa_nil)) (pa_cons pe_int pa_nil)))) pa_nil)))
  (pss_one (ps_for PassesOwn.never rfl (pi_list (pv 12)) (pg_tup (by rfl) (pgs_cons (pg_name (i := 14) scChS.nd rfl (Or.inl rfl)) (pgs_cons (pg_name (i := 15) scChS.nd rfl (Or.inl rfl)) (pgs_cons (pg_name (i := 16) scChS.nd rfl (Or.inl rfl)) pgs_nil))))
  (pss_one (ps_if (pt_cmpR op_gt (pv 15) (pv 16) (nomark _))
  (pss_one ps_never)
  pss_nil))))))))))))))), ?_⟩
    obtain ⟨okn, okk, oke, lf, okf⟩ := ok
    have hv0 := hv
    have hv : Dp K H v (.tuple [nmD t.names, nmD t.kinds, .tuple (t.keeps.map exD), .tuple (t.fns.map fnD)]) := hv
    obtain ⟨a, xs, rfl, hq, hd⟩ := hv.tupInv
    obtain ⟨x, y, z, u, rfl, hx, hy, hz, hu⟩ := hd.four
    obtain ⟨b1, ys1, rfl, hb1, hd1⟩ := hx.tupInv
    obtain ⟨b2, ys2, rfl, hb2, hd2⟩ := hy.tupInv
    obtain ⟨b3, ys3, rfl, hb3, hd3⟩ := hz.tupInv
    obtain ⟨c, zs, rfl, hc, hzd⟩ := hu.tupInv
    have pf := DpAll.map hzd
    have l1 : ys1.length = t.names.length := Paired.length (DpAll.map hd1)
    have l2 : ys2.length = t.kinds.length := Paired.length (DpAll.map hd2)
    have l3 : ys3.length = t.keeps.length := Paired.length (DpAll.map hd3)
    have lz : zs.length = t.fns.length := Paired.length pf
    have lF := sm.fns
    refine ⟨_, rfl, a, _, rfl, hq, rfl, _, _, rfl, _, _, rfl, _, _, rfl, _, _, rfl, rfl, ?_⟩
    refine ⟨_, rfl, c, rfl, ⟨_, hc⟩, fun D hD => ?_⟩
    refine lc_tup (K := K) (a := c) (xs := zs) (fun i H' => Same H H' ∧ ∃ us, H' D = some (.lst us) ∧ us.length = i ∧ Paired (OwnAt D t H') us (t.fns.take i)) ⟨same_new hD, [], upd_same, rfl, .nil⟩ (fun i H' _ h' => SqT.same h'.1 hc) ?_ ?_
    · rintro i x H1 hx ⟨s1, us, eD, lu, pu⟩
      obtain ⟨fn, hfn, hfd⟩ := Paired.at pf hx
      have hi : i < zs.length := (List.getElem?_eq_some_iff.mp hx).1
      have mf := List.mem_of_getElem? hfn
      have sz1 := sm.sz1 mf
      have ps1 := sm.ps fn mf
      refine ⟨rfl, _, rfl, _, rfl, _, x, t, fn, rfl, hv0.same s1, okn.1, hfd.same s1, okf fn mf, by omega, by omega, fun r a' c' H2 s2 f1 f2 f3 ne e1 e2 e3 => ?_⟩
      have eD2 := s2 _ _ eD
      have nD : ∀ {z : Addr}, H1 z = none → z ≠ D := fun h z => by rw [z, eD] at h; cases h
      refine ⟨_, eD2, small1000 (by omega), fun c o z => ?_, us ++ [.ref r], upd_same, by rw [List.length_append, lu]; rfl, ?_⟩
      · rw [upd_ne (ne_of_none z hD)]
        exact s2 _ _ (s1 _ _ z)
      · rw [take_snoc hfn]
        exact Paired.snoc (Paired.mapP pu fun _ _ z => (z.same s2).upd eD2) (OwnAt.upd eD2 ⟨r, a', c', rfl, nD f2, nD f3, e1, e2, e3⟩)
    · rintro H1 ⟨s1, us, eO, lu, pu⟩
      rw [lz, List.take_length] at pu
      refine ⟨_, rfl, c, rfl, ⟨_, SqT.same s1 hc⟩, fun D2 hD2 => ?_⟩
      refine lc_tup (K := K) (a := c) (xs := zs) (fun i H' => Same H1 H' ∧ H' D2 = some (.lst (((t.fns.take i).map fun f => ((plN f).length : Int)).map V.int))) ⟨same_new hD2, upd_same⟩ (fun i H' _ h' => SqT.same (s1.trans h'.1) hc) ?_ ?_
      · rintro i x H2 hx ⟨s2, eD⟩
        obtain ⟨fn, hfn, hfd⟩ := Paired.at pf hx
        have hi : i < zs.length := (List.getElem?_eq_some_iff.mp hx).1
        have mf := List.mem_of_getElem? hfn
        have ps1 := sm.ps fn mf
        have hfd : Dp K H x (.tuple [.str fn.name, .tuple (fn.ps.map prD), blD fn.b]) := hfd
        obtain ⟨d, ds, rfl, hd5, hdd⟩ := hfd.tupInv
        obtain ⟨u1, u2, u3, rfl, g1, g2, g3⟩ := hdd.three
        obtain ⟨p, ps, rfl, hp, hpd⟩ := g2.tupInv
        have pp := DpAll.map hpd
        have lp : ps.length = fn.ps.length := Paired.length pp
        refine ⟨d, _, rfl, SqT.same (s1.trans s2) hd5, rfl, _, _, rfl, _, _, rfl, _, _, rfl, rfl, wipe3 (by decide) (by decide) (by decide), ?_⟩
        refine ⟨_, rfl, p, rfl, ⟨_, SqT.same (s1.trans s2) hp⟩, fun D3 hD3 => ?_⟩
        refine lc_tup (K := K) (a := p) (xs := ps) (fun i H' => Same H2 H' ∧ H' D3 = some (.lst ((((fn.ps.take i).filter fun p => p.2).map Prod.fst).map V.str))) ⟨same_new hD3, upd_same⟩ (fun i H' _ h' => SqT.same ((s1.trans s2).trans h'.1) hp) ?_ ?_
        · rintro i z H4 hz ⟨s6, eD3⟩
          obtain ⟨pr, ht, htd⟩ := Paired.at pp hz
          have htd : Dp K H z (.tuple [.str pr.1, .bool pr.2]) := htd
          obtain ⟨c3, zs3, rfl, hc3, hcd3⟩ := htd.tupInv
          obtain ⟨u, w, rfl, hu, hw⟩ := hcd3.two
          rw [hu.strInv, Dp.blInv hw] at hc3
          have hi : i < ps.length := (List.getElem?_eq_some_iff.mp hz).1
          refine ⟨c3, _, rfl, SqT.same ((s1.trans s2).trans s6) hc3, rfl, _, _, rfl, _, _, rfl, rfl, wipe2 (by decide) (by decide), ?_⟩
          have fs : ((fn.ps.take (i + 1)).filter fun p => p.2) = ((fn.ps.take i).filter fun p => p.2) ++ (if pr.2 = true then [pr] else []) := by
            rw [take_snoc ht, List.filter_append]
            cases hb : pr.2 <;> simp [hb]
          refine ⟨V.bl pr.2, by kernel_rfl, _, rfl, ?_⟩
          cases hb : pr.2 with
          | false =>
            rw [hb] at fs
            refine iteE rfl ⟨s6, ?_⟩
            rw [eD3, fs]
            simp
          | true =>
            rw [hb] at fs
            refine iteS rfl ⟨V.str pr.1, by kernel_rfl, _, eD3, small1000 ?_, fun c o z => ?_, ?_⟩
            · rw [List.length_map, List.length_map]
              have := List.length_filter_le (fun p : Str × Bool => p.2) (fn.ps.take i)
              rw [List.length_take] at this
              omega
            · rw [upd_ne (ne_of_none z hD3)]
              exact s6 _ _ z
            · rw [upd_same, fs, if_pos rfl, List.map_append, List.map_append]
              rfl
        · rintro H4 ⟨s6, eD3⟩
          rw [lp, List.take_length] at eD3
          refine ⟨D3, _, rfl, .inl (SqL.of eD3), ?_⟩
          refine ⟨_, s6 _ _ eD, small1000 (by rw [List.length_map, List.length_map, List.length_take]; omega), fun c o z => ?_, ?_⟩
          · rw [upd_ne (ne_of_none z hD2)]
            exact s6 _ _ (s2 _ _ z)
          · have el : (plN fn).length = (fn.ps.filter fun p => p.2).length := by unfold plN; rw [List.length_map]
            rw [upd_same, take_snoc hfn, List.map_append, List.map_append, List.length_map, List.length_map, ← el]
            rfl
      · rintro H2 ⟨s2, ePl⟩
        rw [lz, List.take_length] at ePl
        have sB := s1.trans s2
        refine ⟨_, rfl, b1, _, rfl, .inr (SqT.same sB hb1), (by show 3 ≤ sizeLine; decide), fun t1 h1 => ?_⟩
        have q1 := same_new (o := .tup [.str "globals", .int ((ys1.length : Nat) : Int), .int 4]) h1
        have sC := sB.trans q1
        refine ⟨_, rfl, b2, _, rfl, .inr (SqT.same sC hb2), (by show 3 ≤ sizeLine; decide), fun t2 h2 => ?_⟩
        have q2 := same_new (o := .tup [.str "kinds", .int ((ys2.length : Nat) : Int), .int 3]) h2
        have sD := sC.trans q2
        refine ⟨_, rfl, b3, _, rfl, .inr (SqT.same sD hb3), (by show 3 ≤ sizeLine; decide), fun t3 h3 => ?_⟩
        have q3 := same_new (o := .tup [.str "keeps", .int ((ys3.length : Nat) : Int), .int 4]) h3
        have sE := sD.trans q3
        refine ⟨(by show 3 ≤ sizeLine; decide), fun q hqn => ?_⟩
        obtain ⟨HB, eHB⟩ : ∃ HB, HB = upd (upd (upd H2 t1 (.tup [.str "globals", .int ((ys1.length : Nat) : Int), .int 4])) t2 (.tup [.str "kinds", .int ((ys2.length : Nat) : Int), .int 3])) t3 (.tup [.str "keeps", .int ((ys3.length : Nat) : Int), .int 4]) := ⟨_, rfl⟩
        rw [← eHB] at hqn q3 sE ⊢
        have z1 : HB t1 = some (.tup [.str "globals", .int ((ys1.length : Nat) : Int), .int 4]) := q3 _ _ (q2 _ _ upd_same)
        have z2 : HB t2 = some (.tup [.str "kinds", .int ((ys2.length : Nat) : Int), .int 3]) := q3 _ _ upd_same
        have z3 : HB t3 = some (.tup [.str "keeps", .int ((ys3.length : Nat) : Int), .int 4]) := by rw [eHB, upd_same]
        have Z0 : Szs HB q 3 (upd HB q (.lst [.ref t1, .ref t2, .ref t3])) := by
          refine ⟨same_new hqn, _, upd_same, rfl, fun x hx => ?_⟩
          have tq := Tps.of (same_new (o := .lst [.ref t1, .ref t2, .ref t3]) hqn)
          simp only [List.mem_cons, List.not_mem_nil, or_false] at hx
          rcases hx with rfl | rfl | rfl
          · exact ⟨t1, _, _, _, rfl, tq.1 _ _ z1, by have := sm.names; omega⟩
          · exact ⟨t2, _, _, _, rfl, tq.1 _ _ z2, by have := sm.kinds; omega⟩
          · exact ⟨t3, _, _, _, rfl, tq.1 _ _ z3, by have := sm.keeps; omega⟩
        -- functions
        have own : Paired (OwnAt D t HB) us t.fns := Paired.mapP pu fun _ _ z => z.same (((s2.trans q1).trans q2).trans q3)
        have eO := (((s2.trans q1).trans q2).trans q3) _ _ eO
        have ePl := ((q1.trans q2).trans q3) _ _ ePl
        have sB := sE
        clear q1 q2 q3 sC sD sE z1 z2 z3 pu eHB
        generalize upd HB q (.lst [.ref t1, .ref t2, .ref t3]) = G1 at *
        obtain ⟨g1, us1, e1, n1, m1⟩ := id Z0
        refine ⟨_, rfl, .inl ⟨rfl, _, SqL.of e1⟩, _, rfl, c, _, rfl, .inr (SqT.same (sB.trans g1) hc), (by show 3 ≤ sizeLine; decide), fun t4 h4 => ?_⟩
        obtain ⟨us1, e1, n1, Z1⟩ := Z0.push (w := "functions") (i := ((zs.length : Nat) : Int)) (m := 6) hqn h4 (by omega)
        refine ⟨q, _, _, rfl, rfl, e1, small1000 (by omega), ?_⟩
        clear m1 n1 g1 Z0 h4
        generalize upd (upd G1 t4 (.tup [.str "functions", .int ((zs.length : Nat) : Int), .int 6])) q (.lst (us1 ++ [.ref t4])) = G2 at *
        -- parameters
        obtain ⟨g1, us2, e1, n1, m1⟩ := id Z1
        refine ⟨_, rfl, .inl ⟨rfl, _, SqL.of e1⟩, _, rfl, D, rfl, ⟨_, SqL.of (g1 _ _ eO)⟩, fun M hM => ?_⟩
        refine lc_it (walk_list (K := K) (a := D) (xs := us)) (fun i H' => Same G2 H' ∧ H' M = some (.lst (((t.fns.take i).map fun f => ((prs f).length : Int)).map V.int))) ⟨same_new hM, upd_same⟩ (fun i H' _ h' => SqL.of (h'.1 _ _ (g1 _ _ eO))) ?_ ?_
        · rintro i z H4 H5 hi ⟨s6, eM⟩ ⟨rfl, hz⟩
          obtain ⟨fn, hfn, r, a', c', rfl, _, _, hr', ha', hc'⟩ := Paired.at own hz
          have s7 := g1.trans s6
          refine ⟨r, _, rfl, SqT.of (s7 _ _ hr'), rfl, _, _, rfl, _, _, rfl, rfl, wipe2 (by decide) (by decide), ?_⟩
          refine ⟨.ref a', by kernel_rfl, a', _, rfl, .inl (SqL.of (s7 _ _ ha')), ?_⟩
          refine ⟨_, eM, small1000 (by rw [List.length_map, List.length_map, List.length_take]; omega), fun c o z => ?_, ?_⟩
          · rw [upd_ne (ne_of_none z hM)]
            exact s6 _ _ z
          · rw [upd_same, take_snoc hfn, List.map_append, List.map_append, List.length_map]
            rfl
        · rintro H4 ⟨s6, eM⟩
          rw [lu, lz, List.take_length] at eM
          refine ⟨M, _, 0, rfl, rfl, SqL.of eM, fun m hm => ?_⟩
          have lm : m ≤ 3 := hm.le (by decide) fun y hy => by
            obtain ⟨f, hf, rfl⟩ := List.mem_map.mp hy
            have := sm.ps f hf
            show ((prs f).length : Int) ≤ 3
            unfold prs
            rw [List.length_map]
            omega
          have Z2 := Z1.grow s6
          refine ⟨(by show 3 ≤ sizeLine; decide), fun t5 h5 => ?_⟩
          obtain ⟨us3, e3, n3, Z3⟩ := Z2.push (w := "parameters") (i := m) (m := 3) hqn h5 lm
          refine ⟨q, _, _, rfl, rfl, e3, small1000 (by omega), ?_⟩
          clear n3 e3 Z2 e1 n1 m1 Z1
          generalize upd (upd H4 t5 (.tup [.str "parameters", .int m, .int 3])) q (.lst (us3 ++ [.ref t5])) = G3 at *
          clear g1 s6 eM hM h5
          -- places
          obtain ⟨g1, us4, e1, n1, _⟩ := id Z3
          refine ⟨_, rfl, .inl ⟨rfl, _, SqL.of e1⟩, _, rfl, D2, _, 0, rfl, rfl, SqL.of (g1 _ _ ePl), fun m2 hm2 => ?_⟩
          have lm2 : m2 ≤ 2 := hm2.le (by decide) fun y hy => by
            obtain ⟨f, hf, rfl⟩ := List.mem_map.mp hy
            have := sm.pl f hf
            show ((plN f).length : Int) ≤ 2
            omega
          refine ⟨(by show 3 ≤ sizeLine; decide), fun t6 h6 => ?_⟩
          obtain ⟨us5, e5, n5, Z5⟩ := Z3.push (w := "parameters") (i := m2) (m := 2) hqn h6 lm2
          refine ⟨q, _, _, rfl, rfl, e5, small1000 (by omega), ?_⟩
          generalize upd (upd G3 t6 (.tup [.str "parameters", .int m2, .int 2])) q (.lst (us5 ++ [.ref t6])) = G5 at *
          clear g1 h6 e1 e5 n5 n1 Z3 hm2
          -- locals
          obtain ⟨g1, us6, e1, n1, _⟩ := id Z5
          refine ⟨_, rfl, .inl ⟨rfl, _, SqL.of e1⟩, _, rfl, D, rfl, ⟨_, SqL.of (g1 _ _ eO)⟩, fun M2 hM2 => ?_⟩
          refine lc_it (walk_list (K := K) (a := D) (xs := us)) (fun i H' => Same G5 H' ∧ H' M2 = some (.lst (((t.fns.take i).map fun f => ((innerF t.names (prs f) f.b).length : Int)).map V.int))) ⟨same_new hM2, upd_same⟩ (fun i H' _ h' => SqL.of (h'.1 _ _ (g1 _ _ eO))) ?_ ?_
          · rintro i z H4 H5 hi ⟨s6, eM⟩ ⟨rfl, hz⟩
            obtain ⟨fn, hfn, r, a', c', rfl, _, _, hr', ha', hc'⟩ := Paired.at own hz
            have s7 := g1.trans s6
            refine ⟨r, _, rfl, SqT.of (s7 _ _ hr'), rfl, _, _, rfl, _, _, rfl, rfl, wipe2 (by decide) (by decide), ?_⟩
            refine ⟨.ref c', by kernel_rfl, c', _, rfl, .inl (SqL.of (s7 _ _ hc')), ?_⟩
            refine ⟨_, eM, small1000 (by rw [List.length_map, List.length_map, List.length_take]; omega), fun c o z => ?_, ?_⟩
            · rw [upd_ne (ne_of_none z hM2)]
              exact s6 _ _ z
            · rw [upd_same, take_snoc hfn, List.map_append, List.map_append, List.length_map]
              rfl
          · rintro H5 ⟨s6, eM⟩
            rw [lu, lz, List.take_length] at eM
            refine ⟨M2, _, 0, rfl, rfl, SqL.of eM, fun m3 hm3 => ?_⟩
            have lm3 : m3 ≤ 3 := hm3.le (by decide) fun y hy => by
              obtain ⟨f, hf, rfl⟩ := List.mem_map.mp hy
              have := sm.inn f hf
              show ((innerF t.names (prs f) f.b).length : Int) ≤ 3
              omega
            have Z6 := Z5.grow s6
            refine ⟨(by show 3 ≤ sizeLine; decide), fun t7 h7 => ?_⟩
            obtain ⟨us7, e7, n7, Z7⟩ := Z6.push (w := "locals") (i := m3) (m := 3) hqn h7 lm3
            refine ⟨q, _, _, rfl, rfl, e7, small1000 (by omega), ?_⟩
            generalize upd (upd H5 t7 (.tup [.str "locals", .int m3, .int 3])) q (.lst (us7 ++ [.ref t7])) = G7 at *
            clear g1 e1 n1 s6 eM hM2 Z6 Z5 e7 n7 h7 hm3
            -- statements
            obtain ⟨g1, us8, e1, n1, _⟩ := id Z7
            have sG := sB.trans g1
            refine ⟨_, rfl, .inl ⟨rfl, _, SqL.of e1⟩, _, rfl, c, rfl, ⟨_, SqT.same sG hc⟩, fun M3 hM3 => ?_⟩
            refine lc_tup (K := K) (a := c) (xs := zs) (fun i H' => Same G7 H' ∧ H' M3 = some (.lst (((t.fns.take i).map fun f => (szB f.b : Int)).map V.int))) ⟨same_new hM3, upd_same⟩ (fun i H' _ h' => SqT.same (sG.trans h'.1) hc) ?_ ?_
            · rintro i x H6 hx ⟨s6, eM⟩
              obtain ⟨fn, hfn, hfd⟩ := Paired.at pf hx
              have hi : i < zs.length := (List.getElem?_eq_some_iff.mp hx).1
              have mf := List.mem_of_getElem? hfn
              have okn := okf fn mf
              have hfd : Dp K H x (.tuple [.str fn.name, .tuple (fn.ps.map prD), blD fn.b]) := hfd
              obtain ⟨d, ds, rfl, hd5, hdd⟩ := hfd.tupInv
              obtain ⟨u1, u2, u3, rfl, _, _, g3⟩ := hdd.three
              have s7 := sG.trans s6
              refine ⟨d, _, rfl, SqT.same s7 hd5, rfl, _, _, rfl, _, _, rfl, _, _, rfl, rfl, wipe3 (by decide) (by decide) (by decide), ?_⟩
              refine ⟨u3, by kernel_rfl, u3, fn.b, rfl, g3.same s7, okn.2.2.2.1, okn.2.2.1, fun H7 s8 => ?_⟩
              refine ⟨_, s8 _ _ eM, small1000 (by rw [List.length_map, List.length_map, List.length_take]; omega), fun c o z => ?_, ?_⟩
              · rw [upd_ne (ne_of_none z hM3)]
                exact s8 _ _ (s6 _ _ z)
              · rw [upd_same, take_snoc hfn, List.map_append, List.map_append]
                rfl
            · rintro H6 ⟨s6, eM⟩
              rw [lz, List.take_length] at eM
              refine ⟨M3, _, rfl, SqL.of eM, ?_⟩
              have es : (t.fns.map fun f => (szB f.b : Int)).sum = (((t.fns.map fun f => szB f.b).sum : Nat) : Int) := by
                generalize t.fns = l
                induction l with
                | nil => rfl
                | cons f r ih => rw [List.map_cons, List.sum_cons, ih, List.map_cons, List.sum_cons]; omega
              rw [es]
              have Z8 := Z7.grow s6
              refine ⟨(by show 3 ≤ sizeLine; decide), fun t8 h8 => ?_⟩
              obtain ⟨us9, e9, n9, Z9⟩ := Z8.push (w := "statements") (i := (((t.fns.map fun f => szB f.b).sum : Nat) : Int)) (m := 60) hqn h8 (by have := sm.sz; omega)
              refine ⟨q, _, _, rfl, rfl, e9, small1000 (by omega), ?_⟩
              generalize upd (upd H6 t8 (.tup [.str "statements", .int (((t.fns.map fun f => szB f.b).sum : Nat) : Int), .int 60])) q (.lst (us9 ++ [.ref t8])) = G9 at *
              clear g1 e1 n1 s6 eM hM3 Z8 Z7 e9 n9 h8 es sG
              -- nesting
              obtain ⟨g1, us8, e1, n1, _⟩ := id Z9
              have sG := sB.trans g1
              refine ⟨_, rfl, .inl ⟨rfl, _, SqL.of e1⟩, _, rfl, c, rfl, ⟨_, SqT.same sG hc⟩, fun M4 hM4 => ?_⟩
              refine lc_tup (K := K) (a := c) (xs := zs) (fun i H' => Same G9 H' ∧ H' M4 = some (.lst (((t.fns.take i).map fun f => (dpB f.b : Int)).map V.int))) ⟨same_new hM4, upd_same⟩ (fun i H' _ h' => SqT.same (sG.trans h'.1) hc) ?_ ?_
              · rintro i x H6 hx ⟨s6, eM⟩
                obtain ⟨fn, hfn, hfd⟩ := Paired.at pf hx
                have hi : i < zs.length := (List.getElem?_eq_some_iff.mp hx).1
                have mf := List.mem_of_getElem? hfn
                have okn := okf fn mf
                have hfd : Dp K H x (.tuple [.str fn.name, .tuple (fn.ps.map prD), blD fn.b]) := hfd
                obtain ⟨d, ds, rfl, hd5, hdd⟩ := hfd.tupInv
                obtain ⟨u1, u2, u3, rfl, _, _, g3⟩ := hdd.three
                have s7 := sG.trans s6
                refine ⟨d, _, rfl, SqT.same s7 hd5, rfl, _, _, rfl, _, _, rfl, _, _, rfl, rfl, wipe3 (by decide) (by decide) (by decide), ?_⟩
                refine ⟨u3, by kernel_rfl, u3, fn.b, rfl, g3.same s7, okn.2.2.2.1, okn.2.2.1, fun H7 s8 => ?_⟩
                refine ⟨_, s8 _ _ eM, small1000 (by rw [List.length_map, List.length_map, List.length_take]; omega), fun c o z => ?_, ?_⟩
                · rw [upd_ne (ne_of_none z hM4)]
                  exact s8 _ _ (s6 _ _ z)
                · rw [upd_same, take_snoc hfn, List.map_append, List.map_append]
                  rfl
              · rintro H7 ⟨s6, eM⟩
                rw [lz, List.take_length] at eM
                refine ⟨M4, _, 0, rfl, rfl, SqL.of eM, fun m5 hm5 => ?_⟩
                have lm5 : m5 ≤ 6 := hm5.le (by decide) fun y hy => by
                  obtain ⟨f, hf, rfl⟩ := List.mem_map.mp hy
                  have := sm.dp f hf
                  show (dpB f.b : Int) ≤ 6
                  omega
                have Z10 := Z9.grow s6
                refine ⟨(by show 3 ≤ sizeLine; decide), fun t9 h9 => ?_⟩
                obtain ⟨us10, e10, n10, Z11⟩ := Z10.push (w := "nesting") (i := m5) (m := 6) hqn h9 lm5
                refine ⟨q, _, _, rfl, rfl, e10, small1000 (by omega), ?_⟩
                generalize upd (upd H7 t9 (.tup [.str "nesting", .int m5, .int 6])) q (.lst (us10 ++ [.ref t9])) = G11 at *
                clear g1 e1 n1 s6 eM hM4 Z10 Z9 e10 n10 h9 hm5 sG
                -- numbers
                obtain ⟨g1, us8, e1, n1, _⟩ := id Z11
                have sG := sB.trans g1
                refine ⟨_, rfl, .inl ⟨rfl, _, SqL.of e1⟩, _, rfl, _, t, rfl, hv0.same sG, ⟨okn, okk, oke, lf, okf⟩, fun f hf => by have := sm.sz1 hf; omega, sm.num.1, sm.num.2, fun H8 s8 => ?_⟩
                refine .inr ⟨false, rfl, (by show 3 ≤ sizeLine; decide), fun t10 h10 => ?_⟩
                obtain ⟨us11, e11, n11, Z12⟩ := (Z11.grow s8).push (w := "numbers") (i := if false = true then 1 else 0) (m := 0) hqn h10 (by decide)
                refine ⟨q, _, _, rfl, rfl, e11, small1000 (by omega), ?_⟩
                generalize upd (upd H8 t10 (.tup [.str "numbers", .int (if false = true then 1 else 0), .int 0])) q (.lst (us11 ++ [.ref t10])) = G13 at *
                obtain ⟨g2, us12, e2, n2, m2⟩ := Z12
                refine ⟨_, rfl, q, rfl, ⟨_, SqL.of e2⟩, ?_⟩
                refine for_list (K := K) (a := q) (xs := us12) (fun i σ H' => H' = G13 ∧ ∃ x14 x15 x16 : Option V, σ = [some (.ref a), some (.ref b1), some (.ref b2), some (.ref b3), some (.ref c), some (.ref D), none, some (.ref D2), none, none, none, none, some (.ref q), none, x14, x15, x16]) ⟨rfl, _, _, _, rfl⟩ (fun j σ H' _ h' => SqL.of (by rw [h'.1]; exact e2)) ?_ ?_
                · rintro i x σ H1 hx ⟨rfl, x14, x15, x16, rfl⟩
                  obtain ⟨ax, wx, ix, mx, rfl, hax, lex⟩ := m2 x (List.mem_of_getElem? hx)
                  refine ⟨ax, _, rfl, SqT.of hax, rfl, _, _, rfl, _, _, rfl, _, _, rfl, rfl, ?_⟩
                  refine ⟨_, rfl, _, rfl, _, _, rfl, rfl, _, rfl, iteE (decide_eq_false (by omega)) ?_⟩
                  exact ⟨rfl, _, _, _, rfl⟩
                · rintro σ H1 ⟨rfl, _⟩
                  exact k _ (sB.trans g2)
end

/-! ### errors of own classes over any of the built-in ones: made with their one field -/
namespace XC
open PySem.W PySem.Calls PyProof.Rows
/-- which built-in makes the class: the tail of its mro, its maker -/
structure Bas (bmB : List Value) (newId : String) : Prop where
  ex : ∃ (B initId : String) (bm0 : List Value), ExcBaseFacts B newId initId bm0 ∧ bmB.contains (.type B) = true
  noA : bmB.contains (.type "AttributeError") = false
  noN : bmB.contains (.type "NameError") = false
  ob : bmB.contains (.type "object") = true
  pass : ∀ self, PySem.refuseLoop self "__setattr__" bmB = pure ()
abbrev tlV : List Value := [.type "ValueError", .type "Exception", .type "BaseException", .type "object"]
abbrev tlR : List Value := [.type "RuntimeError", .type "Exception", .type "BaseException", .type "object"]
abbrev tlK : List Value := [.type "KeyError", .type "LookupError", .type "Exception", .type "BaseException", .type "object"]
theorem basV : Bas tlV "ValueError.__new__" := ⟨⟨_, _, _, F.excBase_ValueError, by decide +kernel⟩, by decide +kernel, by decide +kernel, by decide +kernel, fun _ => by kernel_rfl⟩
theorem basR : Bas tlR "RuntimeError.__new__" := ⟨⟨_, _, _, F.excBase_RuntimeError, by decide +kernel⟩, by decide +kernel, by decide +kernel, by decide +kernel, fun _ => by kernel_rfl⟩
theorem basK : Bas tlK "LookupError.__new__" := ⟨⟨_, _, _, F.excBase_LookupError, by decide +kernel⟩, by decide +kernel, by decide +kernel, by decide +kernel, fun _ => by kernel_rfl⟩

abbrev xObj (C t : Addr) : Obj := { cls := .ref C, data := .fields #[.ref t, .none, .none, .none, .bool false, .none] }
section
variable {prog : Program} {w : World} {A : Around} {R : Result → Shared → Prop} {h : Heap} {g : Array GenState} {d : Drawn} {t : Nat} {os : OsState}
variable {nm q : Str} {C N : Addr} {bs bm bm0 : List Value} {hdct : Bool} {sn : List Str} {sub : List Value} {ab : Bool} {col : Option Bool} {dd : Option Addr} {k0 k1 k2 k3 k5 : Option Value} {B newId initId : String}
/-- C(..): the maker, then C's own __init__ -/
theorem call_x (F : ExcBaseFacts B newId initId bm0) (hB : bm.contains (.type B) = true) (hA : bm.contains (.type "AttributeError") = false) (hN : bm.contains (.type "NameError") = false) {us : List Value} {fI : Addr}
    (hC : h.get? C = some (excClassObj nm q C N bs bm hdct sn sub ab col dd k0 k1 k2 k3 k5 newId)) (hi : Looks (model prog w) h (typeLookup (.ref C) "__init__") (some (.ref fI)))
    (hb : ∀ self, Looks (model prog w) h (bindSpecial (.ref fI) self) (.ref fI, [self])) (hz : us.length ≤ sizeLine)
    (go : codeAny (model prog w) (A.under (.builtin "type.__call__" ⟨.ref C :: us, []⟩)) (.call (.ref fI) ⟨.ref (h.objs.size + 1) :: us, []⟩) (InitBack (h.objs.size + 1) R) ⟨(h.push (kdv_tup us)).push (xObj C h.objs.size), g, d, t, os⟩) :
    codeAny (model prog w) A (.call (.ref C) ⟨us, []⟩) R ⟨h, g, d, t, os⟩ := by
  have cB : (Value.ref C :: bm).contains (.type B) = true := by rw [List.contains_cons, hB, Bool.or_true]
  have cA : (Value.ref C :: bm).contains (.type "AttributeError") = false := by rw [List.contains_cons, hA]; rfl
  have cN : (Value.ref C :: bm).contains (.type "NameError") = false := by rw [List.contains_cons, hN]; rfl
  have lk := tc_lookup; have bd := tc_bind (.ref C); have st := F.noStar; have en := F.ends
  have ty : (⟨h, g, d, t, os⟩ : Shared).TypeIs (.ref C) "type" := ⟨_, hC, rfl⟩
  -- what the maker is asked
  have ask : ∀ {A' : Around} {Q : Unit → Shared → Prop} {E : Value → Shared → Prop}, Q () ⟨h, g, d, t, os⟩ → wpAny (model prog w) A' (checkBuiltinCall newId ⟨.ref C :: us, []⟩) Q E ⟨h, g, d, t, os⟩ := fun {A' Q E} y => by
    simp only [checkBuiltinCall, F.newSplit, F.newKind, F.newRow]
    repeat (first | refine wpAny_loadPart_at hC ?_ | (refine wpAny_isSubtype_exc hC ?_; rw [cB]) | refine wpAny_madeBy_exc hC ?_ | refine wpAny_staticBase_exc hC ?_ | simp only [bne_self_eq_false, Bool.false_eq_true, if_false] | wp_step)
    exact y
  -- the maker
  have make : ∀ {A' : Around} {S : Result → Shared → Prop}, S (.ok (.ret (.ref (h.objs.size + 1)))) ⟨(h.push (kdv_tup us)).push (xObj C h.objs.size), g, d, t, os⟩ → codeAny (model prog w) A' (.builtin newId ⟨.ref C :: us, []⟩) S ⟨h, g, d, t, os⟩ := fun {A' S} y => by
    refine PySem.codeAny_builtinAt F.entry ?_; unfold Builtin.«BaseException.__new__»
    refine PySem.wpAt_bind ?_; show PySem.wpAt _ _ _ (stack >>= _) _ _ _
    refine PySem.wpAt_bind (PySem.wpAt_stack fun p below => PySem.wpAt_of_wpAny ?_); wp_walk
    refine PySem.wpAt_of_wpAny ?_; rw [F.owner]
    repeat (first | with_reducible refine wpAny_madeHere_exc F.canon hC ?_ | with_reducible refine wpAny_loadPart_at hC ?_ | (with_reducible refine wpAny_isSubtype_exc hC ?_; first | rw [cB] | rw [cA] | rw [cN]) | wp_step)
    show S _ _; rw [Heap.size_push]; exact y
  have k : ∀ b o, h.get? b = some o → ((h.push (kdv_tup us)).push (xObj C h.objs.size)).get? b = some o := fun b o e => Heap.get?_push_of_some _ (Heap.get?_push_of_some _ e)
  have hC1 := k _ _ hC
  have hx : ((h.push (kdv_tup us)).push (xObj C h.objs.size)).get? (h.objs.size + 1) = some (xObj C h.objs.size) := by heap_get
  have cC : (Value.ref C :: bm).contains (.ref C) = true := by simp
  have i1 := hi.keeps k; have b1 := (hb (.ref (h.objs.size + 1))).keeps k
  refine codeAny_of_tree ?_; show wpAny _ _ (callAny (.ref C) _) _ _ _
  repeat (any_goals (first | assumption | with_reducible refine wpAny_loadPart_at hC ?_ | wp_step))
  refine ⟨rfl, codeAny_call_builtin_at (Code.quiet_builtin _ (by decide +kernel)) entry_typeCall (wpAny_check_type_call_sub hC ?_)⟩
  repeat (first | with_reducible refine wpAny_loadPart_at hC ?_ | with_reducible refine wpAny_madeBy_exc hC ?_ | wp_step)
  refine codeAny_call_builtin_code (Code.quiet_builtin _ F.quiet) (ask (make ?_))
  show wpAny _ _ _ _ _ _
  unfold isInstance
  repeat (first | with_reducible refine wpAny_loadPart_at hx ?_ | (with_reducible refine wpAny_isSubtype_exc hC1 ?_; rw [cC]) | wp_step)
  show wpAny _ _ (typeLookup (.ref C) _) _ _ _
  refine i1.at (wpAny_holding (wpAny_bind (b1.at (wpAny_bind (wpAny_call (codeAny_mono go fun r s' z => ?_))))))
  rcases r with e | (v | _ | _ | _) <;> first | exact z | exact z.elim | skip
  obtain ⟨rfl, z⟩ := z
  first
    | exact wpAny_pure (wpAny_pure z)
    | (wp_walk; exact z)
end
end XC
namespace XC
open PySem.W PySem.Calls PyProof.Rows Builtin Builtin.ObjectAttr
section
variable {prog : Program} {w : World} {A : Around} {R : Result → Shared → Prop} {hp : Heap} {g : Array GenState} {d : Drawn} {t : Nat} {os : OsState}
/-- self.f = v on an error that has no dict as yet -/
theorem osa_x {K : Frag} {f : Str} {tk : Tok} {v : Value} {x C : Addr} {fv : Array Value} {bmB : List Value} {newId : String} (B : Bas bmB newId) (X : K.In hp) (hx : hp.get? x = some { cls := .ref C, data := .fields fv }) (ho : excOver K C bmB = true) (hh : hasDictIn K C = true)
    (ha : findIn K (.ref C) f = some none)
    (go : ∀ h' tk' dx, (∀ b o, b ≠ x → hp.get? b = some o → h'.get? b = some o) → hp.objs.size ≤ dx → dx ≠ x → h'.get? x = some { cls := .ref C, dict := some dx, data := .fields fv } → h'.Ns1 dx (fun y => if y = f then some v else none) → R (.ok (.ret .none)) ⟨h', g, d, tk', os⟩) :
    codeAny (model prog w) A (.call (.builtin "object.__setattr__") ⟨[.ref x, .str f tk, v], []⟩) R ⟨hp, g, d, t, os⟩ := by
  obtain ⟨cd, hcd, hdct⟩ := any_some hh
  obtain ⟨bm, hm, ht⟩ : ∃ bm, cd.mro = .ref C :: bm ∧ excTail bmB bm = true := by
    unfold excOver at ho
    rw [hcd] at ho
    have ho : (match cd.mro with | .ref C' :: bm => C' == C && excTail bmB bm | _ => false) = true := ho
    split at ho
    · rename_i C' bm e
      obtain ⟨h1, h2⟩ := Bool.and_eq_true_iff.mp ho
      rw [beq_iff_eq.mp h1] at e
      exact ⟨bm, e, h2⟩
    · cases ho
  have ob : cd.mro.contains (.type "object") = true := by rw [hm, List.contains_cons, excTail_contains _ _ ht, B.ob, Bool.or_true]
  have ne : cd.mro.isEmpty = false := by rw [hm]; rfl
  have ps : ∀ self, PySem.refuseLoop self "__setattr__" cd.mro = pure () := fun self => excTail_pass self (B.pass self) _ (by rw [hm]; exact ht)
  have I : InstAt hp x { cls := .ref C, data := .fields fv } C none := ⟨hx, rfl, rfl, trivial⟩
  have xs : x ≠ hp.objs.size := Nat.ne_of_lt (Heap.lt_size hx)
  have SF := F.store_object
  have su : Looks (model prog w) hp (isInstance (.ref x) (.type "object")) true := I.type.andThen (looks_mroIn X (by unfold mroIn; rw [hcd, Option.bind_some, if_neg (by rw [ne]; decide), ob]))
  have lm : Looks (model prog w) hp (mroOf (.ref C)) cd.mro := (looks_clsIn X hcd).andThen .now
  have ls : Looks (model prog w) hp (storeTaker? none) none := .now
  have lc : Looks (model prog w) hp (classData C) cd := looks_clsIn X hcd
  refine codeAny_call_builtin SF.slot.plain SF.entry (@check_slot (model prog w) _ _ ⟨hp, g, d, t, os⟩ "object.__setattr__" "object" "__setattr__" (.ref x) [.str f tk, v] [] _ SF.kind SF.split su (SF.args (.ref x) (.str f tk) v) ?_)
  rw [osa_eq, refuse_eq]
  refine wpAny_bind (wpAny_bind (I.type.at (wpAny_bind (lm.at ?_)))); rw [ps]
  refine wpAny_pure (wpAny_bind (I.type.at (wpAny_bind ((looks_findIn X ha).at (wpAny_bind (ls.at ?_)))))); show wpAny _ _ (storeInOwnDict (.ref x) (.ref C) (.str f tk) f v false) _ _ _
  obtain ⟨nm, bs, mro, ns, qn, hd, sn, sb, ab, col, del⟩ := cd
  have hdct : hd = true := hdct
  subst hdct
  unfold storeInOwnDict ownDictForStores
  repeat (first | with_reducible refine HandSPX.store_in_new ?_ ?_ | with_reducible refine wpAny_loadPart_at hx ?_ | with_reducible refine lc.at ?_ | wp_step)
  · exact ⟨_, #[], _, (Heap.get?_update_ne _ _ _ _ xs.symm).trans (Heap.get?_push_at rfl rfl), rfl, fun e he => absurd he (by simp), fun _ => rfl⟩
  · intro h' tk' hn' hs
    have hx1 : (hp.push { cls := .type "dict", data := .dict #[] }).get? x = some { cls := .ref C, data := .fields fv } := Heap.get?_push_of_some _ hx
    exact go h' tk' hp.objs.size (fun b o hb ho => (hs.2 b (Nat.ne_of_lt (Heap.lt_size ho))).trans ((Heap.get?_update_ne _ _ _ _ hb).trans (Heap.get?_push_of_some _ ho))) (Nat.le_refl _) xs.symm ((hs.2 x xs).trans (Heap.get?_update_self _ hx1 rfl)) hn'
end
end XC
/-- what the written part says of an error class -/
structure OexG (K : PySem.W.Frag) (C : Addr) : Prop where
  ex : ∃ (bmB : List Value) (newId : String), XC.Bas bmB newId ∧ PySem.W.excInitIn K C bmB newId = true ∧ PySem.W.excOver K C bmB = true
  hd : PySem.W.hasDictIn K C = true
  sa : PySem.W.findIn K (.ref C) "__setattr__" = some (some (.builtin "object.__setattr__"))
  exC : PySem.W.subIn K (.ref C) (.type "BaseException") = some true
  tyC : PySem.W.typeIn K (.ref C) = some (.type "type")
  kC : PySem.W.keepIn K (.ref C) = true
section
variable {X : Cx} {pins : List (Addr × Obj)} {σ : L2.St} {H : Hp} {s : Shared} {a C : Addr} {f : Str} {y : V} {u : Value} {Q : Unit → Shared → Prop} {E : Value → Shared → Prop} {A : Around}
/-- self.f = y, the first one -/
theorem ostG (T : OexG X.K C) (I : Inv X pins σ H s) (e : H a = some (exo a C none)) (hno : PySem.W.findIn X.K (.ref C) f = some none) (ry : RelV y u)
    (go : ∀ dx s', H dx = none → dx ≠ a → Inv X pins σ (upd (upd H dx (exd dx [(f, y)])) a (exo a C (some dx))) s' → Q () s') : wpAny (model X.prog X.w) A (setAttr (.ref a) f u) Q E s := by
  obtain ⟨bmB, newId, B, _, ov⟩ := T.ex
  obtain ⟨t1, ho⟩ := exo_at I.hok e
  obtain ⟨hp, g, d, t, os⟩ := s
  refine PySem.W.set_plain I.kIn (ox := { cls := .ref C, dict := none, data := .fields #[.ref t1, .none, .none, .none, .bool false, .none] }) (od := none) ⟨ho, rfl, rfl, trivial⟩ T.sa (XC.osa_x B I.kIn ho ov T.hd hno fun h' tk' dx k dn dne hx hn => ?_)
  have hnd : H dx = none := I.hok.fresh dn
  have ndx : ∀ {b : Addr} {o : Obj}, hp.get? b = some o → b ≠ dx := fun {b o} q => Nat.ne_of_lt (Nat.lt_of_lt_of_le (Heap.lt_size q) dn)
  have nea : ∀ {b : Addr}, H b = none → b ≠ a := fun {b} n z => by rw [z, e] at n; cases n
  have U : Un X.fs [] H (upd (upd H dx (exd dx [(f, y)])) a (exo a C (some dx))) hp h' := {
    keep := fun b o q n _ _ => k b o (nea n) q
    slot := fun b o q n _ _ => ⟨o.slots, k b o (nea n) q⟩
    free := fun b o q n _ => (upd_ne (nea n)).trans ((upd_ne (ndx q)).trans n)
    there := fun b o q _ => by
      by_cases hb : b = a
      · exact ⟨_, hb ▸ hx⟩
      · exact ⟨o, k b o hb q⟩
    tups := fun b xs q => (upd_ne (at_ne e q exo_tup)).trans ((upd_ne (ne_of_none q hnd)).trans q)
    frzs := fun b o v q => (upd_ne (at_ne e q exo_frz)).trans ((upd_ne (ne_of_none q hnd)).trans q)
    tbls := fun b ps q => ⟨#[], by rw [upd_ne (at_ne e q exo_tbl), upd_ne (ne_of_none q hnd), q]; simp⟩ }
  refine go dx _ hnd dne (I.un (t' := tk') U fun b o q => ?_)
  by_cases hb : b = a
  · subst hb
    rw [upd_same] at q
    cases q
    exact exo_ok hx
  · rw [upd_ne hb] at q
    by_cases hbd : b = dx
    · subst hbd
      rw [upd_same] at q
      cases q
      refine exd_ok hn fun g => ?_
      rw [lookup_put]
      by_cases hg : g = f
      · rw [if_pos hg, if_pos hg]; exact ry
      · rw [if_neg hg, if_neg hg]; exact trivial
    · rw [upd_ne hbd] at q
      refine (I.hok b o q).stay (fun c v hc z => k c v ?_ z) (fun c hc => (upd_ne (at_ne e hc exo_own)).trans ((upd_ne (ne_of_none hc hnd)).trans hc)) (fun c xs hc => (upd_ne (at_ne e hc exo_tup)).trans ((upd_ne (ne_of_none hc hnd)).trans hc))
      rcases hc with hc | hc
      · rw [hc]; exact hb
      · exact at_ne e hc exo_own
end
/-- self.f = e in an error's __init__ -/
def tOstG (K : PySem.W.Frag) (f : Str) (to te : TE) : TS := fun D σ H => te σ H fun y H1 => to σ H1 fun x H2 => ∃ a C : Addr, x = .ref a ∧ OexG K C ∧ PySem.W.findIn K (.ref C) f = some none ∧ H2 a = some (exo a C none) ∧
  ∀ dx, H2 dx = none → dx ≠ a → D.nx σ (upd (upd H2 dx (exd dx [(f, y)])) a (exo a C (some dx)))
theorem ps_ostG {X : Cx} {o e : Expr} {to te : TE} {f : Str} {p' pos : Pos} (ho : PE X o to) (he : PE X e te) (hs : swapsWith e (some (.Attribute o f p')) pos.line X.env = pure false := by rfl) : PS X (.Assign [.Attribute o f p'] e pos) (tOstG X.K f to te) := by
  refine ⟨fun pins s σ H D I h => plainObj_wpAny_Assign_Attribute (thn (he.run pins s σ H _ I h) fun v s1 ⟨y, H1, I1, r1, q1⟩ => thn (ho.run pins s1 σ H1 _ I1 q1) fun u s2 ⟨x, H2, I2, r2, a, C, ex, T, hno, ea, q⟩ => ?_) hs⟩
  subst ex
  obtain rfl : u = Value.ref a := r2
  exact ostG T I2 ea hno r1 fun dx s' n ne J => ⟨σ, _, J, q dx n ne⟩
/-- what the __init__ of an error class with one field does -/
def spX (C : Addr) (f : Str) : Sp := fun vs H Q _ => ∃ (a : Addr) (v : V), vs = [.ref a, v] ∧ H a = some (exo a C none) ∧ ∀ dx, H dx = none → dx ≠ a → Q .non (upd (upd H dx (exd dx [(f, v)])) a (exo a C (some dx)))
/-- an error class under its name -/
structure HasX (P : Program) (w : World) (K : PySem.W.Frag) (mg : Str → Option Value) (base : Heap) (k : Nat) (x : Str) (C : Addr) (f : Str) : Prop where
  ex : ∃ (fI : Addr) (fd : FuncData) (ps : List Str), OexG K C ∧ PySem.W.findIn K (.ref C) "__init__" = some (some (.ref fI)) ∧ PySem.W.typeIn K (.ref fI) = some (.type "function") ∧ FnOk P w K mg base CX0 k fI fd ps (spX C f) ∧ mg x = some (.ref C) ∧ Binds K fd ps []
/-- C(e), to be raised -/
def tMkX (C : Addr) (f : Str) (ta : TA) : L2.St → Hp → XK → Prop := fun σ H Q => ta σ H fun vs H1 => ∃ v, vs = [v] ∧ ∀ d, H1 d = none → Q (.ref C) (some d) (upd H1 d (.xd [(f, v)]))
theorem pmk_x {X : Cx} {x : Str} {C : Addr} {f : Str} {k : Nat} {e : Expr} {ta : TA} {p pos : Pos} (T : HasX X.prog X.w X.K X.mg X.base k x C f) (hr : Room (k + 1) X.A) (hg : Gl X x) (ha : PA X [e] ta)
    (hdb : (x == ("__debug__" : Str)) = false := by decide) (he : starEach [e] X.env = (false, eval e X.env) :: starEach [] X.env := by rfl) : L2N.PMk X (.Call (.Name x p) [e] [] pos) (tMkX C f ta) := by
  intro pins s σ H Q I h
  obtain ⟨fI, fd, ps, T, iC, tI, F1, hm, hb⟩ := T.ex
  obtain ⟨bmB, newId, B, hini, ov⟩ := T.ex
  refine wpAny_Call_Name_kw (ld_glob I hg hm ?_ hdb)
  refine PySem.W.callWith_K (h₀ := X.base) I.ok.mod.kin T.kC (thn (ha.run pos pins s σ H _ I h) fun us s1 ⟨vs, H1, I1, r1, v, ev, q1⟩ => ⟨I1.kIn, ?_⟩) he rfl
  subst ev
  cases r1 with
  | @cons _ u _ ur ru rn =>
    cases rn
    show wpAny _ _ (call (.ref C) [u]) _ _ _
    obtain ⟨hp, g, dr, tk, os⟩ := s1
    obtain ⟨nm, N, qn, bs, bm, hdct, sn, sub, ab, col, dd, k0, k1, k2, k3, k5, hC, hT⟩ := PySem.W.excInit_of I1.kIn hini
    obtain ⟨B0, i0, bm0, FB, cB⟩ := B.ex
    have hn : H1 (hp.objs.size + 1) = none := I1.hok.fresh (Nat.le_succ _)
    have kk : ∀ b o, hp.get? b = some o → ((hp.push (PySem.W.kdv_tup [u])).push (XC.xObj C hp.objs.size)).get? b = some o := fun b o z => Heap.get?_push_of_some _ (Heap.get?_push_of_some _ z)
    have hget : ((hp.push (PySem.W.kdv_tup [u])).push (XC.xObj C hp.objs.size)).get? (hp.objs.size + 1) = some (XC.xObj C hp.objs.size) := by heap_get
    have I2 : Inv X pins σ (upd H1 (hp.objs.size + 1) (exo (hp.objs.size + 1) C none)) ⟨(hp.push (PySem.W.kdv_tup [u])).push (XC.xObj C hp.objs.size), g, dr, tk, os⟩ :=
      I1.laid (t' := tk) (a := hp.objs.size + 1) (o := exo (hp.objs.size + 1) C none) kk (Nat.le_succ _) (exo_ok hget)
    have r2 : Vals [V.ref (hp.objs.size + 1), v] [Value.ref (hp.objs.size + 1), u] := .cons rfl (.cons ru .nil)
    have hq : spX C f [.ref (hp.objs.size + 1), v] (upd H1 (hp.objs.size + 1) (exo (hp.objs.size + 1) C none)) (fun r H2 => r = .non ∧ ∃ d, H1 d = none ∧ d ≠ hp.objs.size + 1 ∧ H2 = upd (upd (upd H1 (hp.objs.size + 1) (exo (hp.objs.size + 1) C none)) d (exd d [(f, v)])) (hp.objs.size + 1) (exo (hp.objs.size + 1) C (some d))) (fun _ _ _ => False) :=
      ⟨_, _, rfl, upd_same, fun dx z ne => ⟨rfl, dx, by rw [upd_ne ne] at z; exact z, ne, rfl⟩⟩
    have hl : ([Value.ref (hp.objs.size + 1), u] ++ []).length = ps.length := by
      rw [List.append_nil, ← F1.len _ _ _ _ hq, ← r2.length]
    have b2 := hb _ [Value.ref (hp.objs.size + 1), u] I2.kIn hl
    rw [List.append_nil] at b2
    refine wpAny_call (XC.call_x FB (by rw [hT]; exact cB) (by rw [hT]; exact B.noA) (by rw [hT]; exact B.noN) hC (PySem.W.looks_findIn I1.kIn iC) (fun self => PySem.W.bind_fn I1.kIn self tI) (by show 1 ≤ sizeLine; rw [sizeLine_eq]; omega)
      (codeAny_mono (F1.run _ X.stack _ _ ⟨[Value.ref (hp.objs.size + 1), u], []⟩ [Value.ref (hp.objs.size + 1), u] _ _ (fun _ _ _ => False) (hr.make C [u] []) (I2.env0.make C [u] []) b2 r2 hq) fun r s' hq' => ?_))
    cases r with
    | error er => exact hq'.elim
    | ok fl =>
      cases fl with
      | ret y =>
        obtain ⟨v2, H2, os2, bare2, un2, hok2, rv, ev, d, hd1, dne, eH⟩ := hq'
        subst ev
        obtain ⟨h2, g2, d2, t2, os'⟩ := s'
        obtain ⟨t0, G, J, kG, ge, hoe, na⟩ := mk_end0 (d2 := d2) (t2 := t2) (fs := [(f, v)]) I1 (Nat.le_succ _) kk un2 hok2 os2 bare2 (by rw [eH, upd_same]) (by rw [eH, upd_ne dne, upd_same]) hd1
        have eq : upd (del H2 (hp.objs.size + 1)) d (.xd [(f, v)]) = upd H1 d (.xd [(f, v)]) := by
          funext b
          by_cases hbd : b = d
          · rw [hbd, upd_same, upd_same]
          · rw [upd_ne hbd, upd_ne hbd]
            by_cases hba : b = hp.objs.size + 1
            · rw [hba, del_same, hn]
            · rw [del_ne hba, eH, upd_ne hba, upd_ne hbd, upd_ne hba]
        rw [eq] at J na
        exact ⟨rv, ⟨hp.objs.size + 1, _, _, ⟨G, g2, d2, t2, os'⟩, _, .ref C, some d, rfl, J, kG, ge, hoe, ⟨rfl, rfl, fun vs hv => by cases hv; rfl⟩, rfl, rfl, na, rfl, bare2, raises_own T.exC T.tyC, q1 d hd1⟩⟩
      | next => exact hq'.elim
      | brk => exact hq'.elim
      | cont => exact hq'.elim

/-! ### try with several clauses, each with a class or a tuple of classes, with or without a name -/
namespace TX
open PySem.W PySem.Calls PyProof.Rows
section
variable {M : Model} {h : Heap} {K : Frag}
theorem look_each {α : Type} {f : α → PUnit → Sem (ForInStep PUnit)} : ∀ {cs : List α}, (∀ c ∈ cs, Looks M h (f c ⟨⟩) (.yield ⟨⟩)) → Looks M h (forIn cs PUnit.unit f) ⟨⟩
  | [], _ => fun A Q E s k q => wpAny_pure q
  | c :: r, hf => by
    rw [List.forIn_cons]
    exact (hf c List.mem_cons_self).andThen (look_each fun d hd => hf d (List.mem_cons_of_mem _ hd))
theorem look_first {α β : Type} {f : α → β → Sem (ForInStep β)} {b0 bd : β} {p : α → Bool} : ∀ {cs : List α}, (∀ c ∈ cs, Looks M h (f c b0) (if p c = true then .done bd else .yield b0)) → Looks M h (forIn cs b0 f) (if cs.any p = true then bd else b0)
  | [], _ => fun A Q E s k q => wpAny_pure q
  | c :: r, hf => by
    rw [List.forIn_cons, List.any_cons]
    have h1 := hf c List.mem_cons_self
    cases hp : p c with
    | true =>
      rw [hp, if_pos rfl] at h1
      rw [Bool.true_or, if_pos rfl]
      exact h1.andThen fun A Q E s k q => wpAny_pure q
    | false =>
      rw [hp, if_neg Bool.false_ne_true] at h1
      rw [Bool.false_or]
      exact h1.andThen (look_first fun d hd => hf d (List.mem_cons_of_mem _ hd))
theorem exmAny_all {cls : Value} : ∀ {cs : List Value} {b : Bool}, exmAny K cls cs = some b → (∀ c ∈ cs, exmOne K cls c = some ((exmOne K cls c).getD false)) ∧ b = cs.any fun c => (exmOne K cls c).getD false
  | [], b, e => ⟨fun c hc => (by cases hc), (Option.some.inj (show some false = some b from e)).symm⟩
  | c :: r, b, e => by
    obtain ⟨b1, d1, x1, y1, z1⟩ := exmAny_cons e
    obtain ⟨i1, i2⟩ := exmAny_all y1
    refine ⟨fun d hd => ?_, ?_⟩
    · rcases List.mem_cons.mp hd with rfl | hd
      · rw [x1]; rfl
      · exact i1 d hd
    · rw [List.any_cons, x1, ← i2]; exact z1
/-- the clause's tuple of classes -/
theorem exm_tupN {cls : Value} {tp e : Addr} {cs : List Value} {b : Bool} (X : K.In h) (LT : Looks M h (typeOf (.ref e)) cls) (hp : h.get? tp = some { cls := .type "tuple", data := .seq cs.toArray }) (hx : exmAny K cls cs = some b) : Looks M h (excMatches (.ref e) (.ref tp)) b := by
  obtain ⟨h1, h2⟩ := exmAny_all hx
  have tt : Looks M h (isInstance (.ref tp) (.type "tuple")) true := ((Looks.ld hp).andThen .now).andThen (Looks.of_pure isSubtype_tuple_tuple)
  intro A Q E s k q
  unfold excMatches
  refine wpAny_bind ((tt.keeps k).here ?_)
  rw [if_pos rfl]
  first
    | refine wpAny_bind (wpAny_seqItems (k _ _ hp) rfl ?_)
    | refine wpAny_bind (wpAny_bind (wpAny_seqItems (k _ _ hp) rfl (wpAny_pure ?_)))
  dsimp only [Option.getD_some, Option.getD]
  refine wpAny_bind (wpAny_pure ?_)
  refine wpAny_bind ((look_each (h := h) (cs := cs) fun c hc => ?_) _ _ _ _ k ?_)
  · intro A' Q' E' s' k' q'
    refine wpAny_bind ((((exm_cls (M := M) X (h1 c hc)).1).keeps k').here ?_)
    simp only [Bool.not_true, Bool.false_eq_true, if_false]
    exact wpAny_pure q'
  · refine wpAny_bind ((LT.keeps k).here ?_)
    refine wpAny_bind ((look_first (h := h) (p := fun c => (exmOne K cls c).getD false) (bd := (some true, ())) (cs := cs) fun c hc => ?_) _ _ _ _ k ?_)
    · intro A' Q' E' s' k' q'
      refine wpAny_bind ((((exm_cls (M := M) X (h1 c hc)).2).keeps k').here ?_)
      cases hv : (exmOne K cls c).getD false with
      | true => rw [hv, if_pos rfl] at q'; rw [if_pos rfl]; exact wpAny_pure q'
      | false => rw [hv, if_neg Bool.false_ne_true] at q'; rw [if_neg Bool.false_ne_true]; exact wpAny_pure q'
    · rw [← h2]
      cases b with
      | true => rw [if_pos rfl]; exact wpAny_pure q
      | false => rw [if_neg Bool.false_ne_true]; exact wpAny_pure q
end
end TX
/-- own classes under these names -/
inductive NamesAll (X : Cx) : List Expr → List Value → Prop
  | nil : NamesAll X [] []
  | cons {x : Str} {p : Pos} {c : Value} {es : List Expr} {cs : List Value} (h : Names X x c) (r : NamesAll X es cs) : NamesAll X (.Name x p :: es) (c :: cs)
/-- what an except clause tests -/
inductive Tst (X : Cx) : Expr → List Value → Prop
  | one {x : Str} {p : Pos} {c : Value} (h : Names X x c) : Tst X (.Name x p) [c]
  | tup {es : List Expr} {cs : List Value} {k : Nat} {p : Pos} (h : NamesAll X es cs) (hl : cs.length ≤ 100) : Tst X (.Tuple es k p) cs
section
variable {X : Cx} {a : Addr} {pn : List (Addr × Obj)} {σ : L2.St} {H : Hp} {s : Shared}
theorem name_test {x : Str} {c : Value} {p : Pos} (h : Names X x c) (I : Inv (X.suite a pn) [] σ H s) {Q : Value → Shared → Prop} {E : Value → Shared → Prop} (q : Q c s) : wpAny (model X.prog X.w) (X.A.mark (some (.ref a))) (eval (.Name x p) X.env) Q E s := by
  obtain ⟨hg, hd, hm | ⟨hm, hv, hn⟩⟩ := h
  · exact ld_glob (X := X.suite a pn) I hg hm q hd
  · exact ld_blt (X := X.suite a pn) I hg hm hv q hn hd
theorem names_test {es : List Expr} {cs : List Value} {pos : Pos} (h : NamesAll X es cs) (I : Inv (X.suite a pn) [] σ H s) : ∀ {Q : List Value → Shared → Prop} {E : Value → Shared → Prop}, Q cs s → wpAny (model X.prog X.w) (X.A.mark (some (.ref a))) (spliced (backTo pos (starEach es X.env))) Q E s := by
  induction h with
  | nil => exact fun q => wpAny_pure q
  | cons h r ih => exact fun q => wpAny_items_cons (name_test h I (ih q))
theorem Tst.run {t : Expr} {cs : List Value} {cls : Value} {b : Bool} (T : Tst X t cs) (I : Inv (X.suite a pn) [] σ H s) (LT : PySem.W.Looks (model X.prog X.w) s.heap (typeOf (.ref a)) cls) (hx : PySem.W.exmAny X.K cls cs = some b) {Q : Bool → Shared → Prop} {E : Value → Shared → Prop}
    (q : ∀ h', (∀ b o, s.heap.get? b = some o → h'.get? b = some o) → Q b { s with heap := h' }) :
    wpAny (model X.prog X.w) (X.A.mark (some (.ref a))) (eval t X.env) (fun c s1 => wpAny (model X.prog X.w) (X.A.mark (some (.ref a))) (excMatches (.ref a) c) Q E s1) E s := by
  cases T with
  | one h =>
    obtain ⟨b1, d1, x1, y1, z1⟩ := PySem.W.exmAny_cons hx
    have e : d1 = false := (Option.some.inj (show some false = some d1 from y1)).symm
    subst e
    rw [Bool.or_false] at z1
    subst z1
    exact name_test h I ((PySem.W.exm_one (M := model X.prog X.w) I.kIn LT x1).here (q _ fun _ _ z => z))
  | tup h hl =>
    refine wpAny_Tuple_spliced (names_test h I ⟨by rw [sizeLine_eq]; omega, ?_⟩)
    have k : ∀ b o, s.heap.get? b = some o → (s.heap.push { cls := .type "tuple", data := .seq cs.toArray }).get? b = some o := fun b o z => Heap.get?_push_of_some _ z
    exact (TX.exm_tupN (I.kIn.keeps k) (LT.keeps k) (Heap.get?_push_size _ rfl) hx).here (q _ k)
end
/-- the suite of a clause, for any error that it takes -/
abbrev SuOk (X : Cx) (suite : List Stmt) (ts : Addr → Value → Option Addr → TS) : Prop :=
  ∀ (a : Addr) (oe : Obj) (cls : Value) (d : Option Addr) (pn : List (Addr × Obj)), L2N.Zn cls d oe → (∃ vs, oe.data = .fields vs) → PSs (X.suite a ((a, oe) :: pn)) suite (ts a cls d)
inductive HdX (X : Cx) : List ExceptHandler → List (List Value × Option Nat × (Addr → Value → Option Addr → TS)) → Prop
  | nil : HdX X [] []
  | only {t : Expr} {cs : List Value} {ts : Addr → Value → Option Addr → TS} {b₀ : Stmt} {suite : List Stmt} {pos' : Pos} {hds : List ExceptHandler} {l : List (List Value × Option Nat × (Addr → Value → Option Addr → TS))} (ht : Tst X t cs) (hsu : SuOk X (b₀ :: suite) ts) (r : HdX X hds l) :
      HdX X (.ExceptHandler (some t) none (b₀ :: suite) pos' :: hds) ((cs, none, ts) :: l)
  | named {t : Expr} {n : Str} {i : Nat} {cs : List Value} {ts : Addr → Value → Option Addr → TS} {b₀ : Stmt} {suite : List Stmt} {pos' : Pos} {hds : List ExceptHandler} {l : List (List Value × Option Nat × (Addr → Value → Option Addr → TS))} (ht : Tst X t cs)
      (hi : X.N[i]? = some n) (hln : X.env.kindOf n = some .local) (hsu : SuOk X (b₀ :: suite) ts) (r : HdX X hds l) : HdX X (.ExceptHandler (some t) (some n) (b₀ :: suite) pos' :: hds) ((cs, some i, ts) :: l)
/-- a slot that is emptied behind the suite -/
def Ends.less (D : Ends) (i : Nat) : Ends := { nx := fun σ H => D.nx (σ.set i none) H, rt := D.rt, bk := fun σ H => D.bk (σ.set i none) H, ct := fun σ H => D.ct (σ.set i none) H }
/-- what the clauses wish of an error of the body -/
def wX (K : PySem.W.Frag) (Wout : WX) (D : Ends) : List (List Value × Option Nat × (Addr → Value → Option Addr → TS)) → WX
  | [] => Wout
  | (cs, none, ts) :: r => fun cls d σ H => ∃ b, PySem.W.exmAny K cls cs = some b ∧ (b = true → ∀ a, H a = none → ts a cls d D σ H) ∧ (b = false → wX K Wout D r cls d σ H)
  | (cs, some i, ts) :: r => fun cls d σ H => ∃ b, PySem.W.exmAny K cls cs = some b ∧ (b = true → ∀ a, H a = none → ts a cls d (Ends.less D i) (σ.set i (some (.ref a))) H) ∧ (b = false → wX K Wout D r cls d σ H)
theorem flying_keeps {B h h' : Heap} {l : List Env} {a : Addr} {Z : Obj → Prop} (k : ∀ b o, h.get? b = some o → h'.get? b = some o) (x : HandSPX.FlyingZ B l a Z h) : HandSPX.FlyingZ B l a Z h' := by
  obtain ⟨k1, k2, k3, oe, vs, T, oT, ts, he, hz, hd, h1, hT0, hne, hT, hdT, h3⟩ := x
  exact ⟨fun b o z => k b o (k1 b o z), k2, k3.of_keeps fun b o z _ => ⟨o, k b o z, rfl⟩, oe, vs, T, oT, ts, k _ _ he, hz, hd, h1, hT0, hne, k _ _ hT, hdT, h3⟩
theorem up_keeps {h h' : Heap} (k : ∀ b o, h.get? b = some o → h'.get? b = some o) : h.UpToSlots h' := fun b o z _ => ⟨o.slots, k b o z⟩
section
variable {X : Cx} {body : List Stmt} {h₀ : ExceptHandler} {hds : List ExceptHandler} {l : List (List Value × Option Nat × (Addr → Value → Option Addr → TS))} {pos : Pos} {tb : WX → TS} {Wout : WX}
/-- the clauses, one after the other, at an error that has landed -/
theorem clauses (hs : X.stack = X.env :: X.outer) (hf : X.env.frame = some X.env.locals) (hN : X.N.Nodup) (tk : L2N.Takes X Wout) {pins : List (Addr × Obj)} {σ : L2.St} {H : Hp} {sI : Shared} {a : Addr} {B : Heap} {cls : Value} {d : Option Addr} {D : Ends}
    (J : Inv X pins σ H sI) (nb : ∀ b o, sI.heap.get? b = some o → b ∉ frs X.stack → B.get? b = some o) (na : H a = none) (hh : HdX X hds l) : wX X.K Wout D l cls d σ H →
    ∀ s : Shared, HandSPX.FlyingZ B (X.env :: X.outer) a (L2N.Zn cls d) s.heap → sI.heap.UpToSlots s.heap → s.os = sI.os → PyProof.Rows.AllBare s.gens → wpAny (model X.prog X.w) X.A (handleBy (.ref a) X.env hds) (SP X pins D) X.xe s := by
  have ok := J.ok
  have land : ∀ {h : Heap} {s : Shared}, HandSPX.FlyingZ B (X.env :: X.outer) a (L2N.Zn cls d) h → sI.heap.UpToSlots h → s.os = sI.os → PyProof.Rows.AllBare s.gens → Inv X pins σ H { s with heap := h } := fun {h s} fl up os ag => J.landed (s' := { s with heap := h }) nb fl.1 up os ag
  have suit : ∀ {h : Heap} {s : Shared}, HandSPX.FlyingZ B (X.env :: X.outer) a (L2N.Zn cls d) h → sI.heap.UpToSlots h → s.os = sI.os → PyProof.Rows.AllBare s.gens →
      ∃ oe, L2N.Zn cls d oe ∧ (∃ vs, oe.data = .fields vs) ∧ h.get? a = some oe ∧ Inv (X.suite a ((a, oe) :: (X.pn ++ pins))) [] σ H { s with heap := h } := fun {h s} fl up os ag => by
    obtain ⟨oe, vs, he, hz, hd⟩ := fl.there
    have nfr : a ∉ frs (X.env :: X.outer) := fun hm => by
      obtain ⟨_, o', e', hnf⟩ := fl.2.2.1.mem hm
      rw [he] at e'; cases e'
      exact hnf _ hd
    have nL : a ≠ X.env.locals := fun z => nfr (List.mem_filterMap.mpr ⟨X.env, List.mem_cons_self, by rw [hf, z]⟩)
    have nF : a ∉ X.fs := fun hm => by
      obtain ⟨e, he, q⟩ := List.mem_filterMap.mp hm
      exact nfr (List.mem_filterMap.mpr ⟨e, List.mem_cons_of_mem _ he, q⟩)
    exact ⟨oe, hz, ⟨vs, hd⟩, he, (land fl up os ag).suite he hd na nL nF⟩
  induction hh with
  | nil =>
    intro w s fl up os ag
    refine wpAny_handleBy_nil ?_
    obtain ⟨k1, k2, k3, oe, vs, T, oT, ts', he, hz, hd, h1, hr⟩ := id fl
    unfold PySem.passOn
    refine wpAny_bind (wpAny_field he hd h1 ?_); rw [if_neg (show ¬ ((Value.ref T == Value.none) = true) from by simp)]
    have last : wpAny (model X.prog X.w) X.A (setFlight (.ref a) X.env.frame) (fun _ s4 => wpAny (model X.prog X.w) X.A (throw (.ref a) : Sem Flow) (SP X pins D) X.xe s4) X.xe s := by
      rw [hf]
      exact HandSPX.setFlight_upZ fl fun h4 hh4 up4 => wpAny_throw (tk _ _ ⟨a, B, sI, pins, σ, H, cls, d, rfl, J, nb, up.trans up4, .inr (.inr (by rw [hs]; exact hh4)), na, os, ag, w⟩)
    first
      | exact wpAny_bind (wpAny_pure (wpAny_bind last))
      | exact wpAny_bind last
  | @only t cs ts b₀ suite pos' hds2 l2 ht hsu r ih =>
    rintro ⟨b, hb1, yes, no⟩ s fl up os ag
    obtain ⟨oe, hz, hd, he, S⟩ := suit (s := s) fl up os ag
    have LT : PySem.W.Looks (model X.prog X.w) s.heap (typeOf (.ref a)) cls := fun A Q E s' k q => wpAny_typeOf_ref (k _ _ he) (by rw [hz.1]; exact q)
    refine wpAny_handleBy_cons (codeAny_handlers_test (ht.run S LT hb1 fun h1 k => ?_)) (by intro q; cases q)
    have fl1 := flying_keeps k fl; have up1 := up.trans (up_keeps k)
    cases b with
    | false => exact ih (no rfl) { s with heap := h1 } fl1 up1 os ag
    | true =>
      refine codeAny_handlers_suite (HandSPX.lands_againZ (s := { s with heap := h1 }) fl1 fun h4 fl4 up4 => ?_)
      obtain ⟨oe4, hz4, hd4, he4, S4⟩ := suit (s := s) fl4 (up1.trans up4) os ag
      refine wpAny_mono ((hsu a oe4 cls d (X.pn ++ pins) hz4 hd4).run [] _ _ H _ S4 (yes rfl a na)) (fun f s6 hsp => ?_) (fun _ _ z => False.elim z)
      cases f with
      | ret u => obtain ⟨v6, σ6, H6, S6, r6, q6⟩ := hsp; exact ⟨_, _, _, S6.unsuite ok, r6, q6⟩
      | next => obtain ⟨σ6, H6, S6, q6⟩ := hsp; exact ⟨_, _, S6.unsuite ok, q6⟩
      | brk => obtain ⟨σ6, H6, S6, q6⟩ := hsp; exact ⟨_, _, S6.unsuite ok, q6⟩
      | cont => obtain ⟨σ6, H6, S6, q6⟩ := hsp; exact ⟨_, _, S6.unsuite ok, q6⟩
  | @named t n i cs ts b₀ suite pos' hds2 l2 ht hi hln hsu r ih =>
    rintro ⟨b, hb1, yes, no⟩ s fl up os ag
    obtain ⟨oe, hz, hd, he, S⟩ := suit (s := s) fl up os ag
    have LT : PySem.W.Looks (model X.prog X.w) s.heap (typeOf (.ref a)) cls := fun A Q E s' k q => wpAny_typeOf_ref (k _ _ he) (by rw [hz.1]; exact q)
    refine wpAny_handleBy_cons (codeAny_handlers_test (ht.run S LT hb1 fun h1 k => ?_)) (by intro q; cases q)
    have fl1 := flying_keeps k fl; have up1 := up.trans (up_keeps k)
    cases b with
    | false => exact ih (no rfl) { s with heap := h1 } fl1 up1 os ag
    | true =>
      refine codeAny_handlers_suite_as (HandSPX.lands_againZ (s := { s with heap := h1 }) fl1 fun h4 fl4 up4 => ?_)
      obtain ⟨oe4, hz4, hd4, he4, S4⟩ := suit (s := s) fl4 (up1.trans up4) os ag
      refine store_ok (X := X.suite a ((a, oe4) :: (X.pn ++ pins))) (v := .ref a) S4 hN hi (.inl hln) rfl (fun s5 S5 => ?_) (.inr hln)
      refine wpAny_mono ((hsu a oe4 cls d (X.pn ++ pins) hz4 hd4).run [] s5 _ H _ S5 (yes rfl a na)) (fun f s6 hsp => ?_) (fun _ _ z => False.elim z)
      have back : ∀ {σ6 : L2.St} {H6 : Hp} {Q : Shared → Prop}, Inv (X.suite a ((a, oe4) :: (X.pn ++ pins))) [] σ6 H6 s6 → (∀ s7, Inv X pins (σ6.set i none) H6 s7 → Q s7) → wpAny (model X.prog X.w) X.A (do bindName X.env n .none; unbindBehindTheSuite X.env n pos') (fun _ s7 => Q s7) X.xe s6 :=
        fun {σ6 H6 Q} S6 hq => gone_ok (S6.unsuite ok) hN hi hln hq
      cases f with
      | ret u => obtain ⟨v6, σ6, H6, S6, r6, q6⟩ := hsp; exact back S6 fun s7 J7 => ⟨_, _, _, J7, r6, q6⟩
      | next => obtain ⟨σ6, H6, S6, q6⟩ := hsp; exact back S6 fun s7 J7 => ⟨_, _, J7, q6⟩
      | brk => obtain ⟨σ6, H6, S6, q6⟩ := hsp; exact back S6 fun s7 J7 => ⟨_, _, J7, q6⟩
      | cont => obtain ⟨σ6, H6, S6, q6⟩ := hsp; exact back S6 fun s7 J7 => ⟨_, _, J7, q6⟩
theorem ps_tryX (hs : X.stack = X.env :: X.outer) (hf : X.env.frame = some X.env.locals) (hN : X.N.Nodup) (tk : L2N.Takes X Wout)
    (hb : ∀ (W : WX) (pn : List (Addr × Obj)) (xe : Value → Shared → Prop), L2N.Takes (X.tr pn xe) W → PassesOwn (model X.prog X.w) X.A X.env xe → PSs (X.tr pn xe) body (tb W))
    (hh : HdX X (h₀ :: hds) l) : PS X (.Try body (h₀ :: hds) [] [] pos) (fun D σ H => tb (wX X.K Wout D l) D σ H) := by
  refine ⟨fun pins s σ H D I h => wpAny_Try_except ?_⟩
  have ok := I.ok
  have hfr : X.A.frames = some (X.env :: X.outer) := by rw [ok.frames, hs]
  refine wpAny_mono ((hb (wX X.K Wout D l) (X.pn ++ pins) (fun e s1 => wpAny (model X.prog X.w) X.A (noteFrame e X.env) (fun _ s2 => wpAny (model X.prog X.w) X.A (setFlight e none) (fun _ s3 =>
    wpAny (model X.prog X.w) X.A (handleBy e X.env (h₀ :: hds)) (SP X pins D) X.xe s3) X.xe s2) X.xe s1) (fun u s' xx => ?_) PassesOwn.looking).run [] s σ H D (I.toTry _) h) (fun f s1 hsp => ?_) (fun e s1 he => he)
  · obtain ⟨a, B, sI, pins', σ', H', cls, d, rfl, J', nb, up, sky, na, os, ag, w⟩ := xx
    exact L2N.Sky.land L2N.Zn.steady hfr hf (by rw [← hs]; exact sky) fun h3 fl3 up3 => clauses hs hf hN tk (J'.ofTry ok) nb na hh w { s' with heap := h3 } fl3 (up.trans up3) os ag
  · cases f with
    | ret u => obtain ⟨v, σ', H', J', r, q⟩ := hsp; exact ⟨v, σ', H', J'.ofTry ok, r, q⟩
    | next => obtain ⟨σ', H', J', q⟩ := hsp; exact wpAny_execs_nil ⟨σ', H', J'.ofTry ok, q⟩
    | brk => obtain ⟨σ', H', J', q⟩ := hsp; exact ⟨σ', H', J'.ofTry ok, q⟩
    | cont => obtain ⟨σ', H', J', q⟩ := hsp; exact ⟨σ', H', J'.ofTry ok, q⟩
end

/-! ### isinstance of an error that is pinned, its dict tracked -/
namespace TX
open PySem.W PySem.Calls PyProof.Rows
section
variable {prog : Program} {w : World} {A : Around} {E : Value → Shared → Prop} {s : Shared} {K : Frag} {x D : Addr} {ox od : Obj}
theorem class_x {Q : Option Value → Shared → Prop} (C : ExcC K D) (X : K.In s.heap) (I : InstAt s.heap x ox D (some od)) (go : Q (some (.ref D)) { s with toks := s.toks + 1 }) : wpAny (model prog w) A (getAttr? (.ref x) "__class__") Q E s := by
  have hf : findObj K D (some od) "__class__" = some (.bind (.builtin "getset_descriptor.__get__") (.builtin "object.__class__")) := by
    obtain ⟨cd, hc, _⟩ := any_some C.hd
    unfold findObj
    rw [hc, Option.bind_some, C.ha, Option.bind_some]
    simp [C.hn, C.ht]
  obtain ⟨hp, g, d, t, os⟩ := s
  have L0 := I.type (M := model prog w); have L1 := looks_findIn (M := model prog w) X C.hg; have L2 := looks_findIn (M := model prog w) X C.hk; have L3 := looks_find (M := model prog w) X I hf
  have sub : Looks (model prog w) hp (isInstance (.ref x) (.type "BaseException")) true := L0.andThen (looks_subIn X C.hs)
  have n0 : (false && onTheHeap (Value.builtin "BaseException.__getattribute__")) = false := rfl
  have n2 : (Value.builtin "BaseException.__getattribute__" == Value.builtin "object.__getattribute__") = false := by decide +kernel
  have n1 : (onTheHeap (Value.ref D) && Value.builtin "BaseException.__getattribute__" == Value.builtin "object.__getattribute__") = false := by rw [n2]; rfl
  unfold getAttr? getAttrBy? getAttrBy
  refine wpAny_bind (wpAny_mkText (wpAny_bind (wpAny_attempt (wpAny_holding (wpAny_bind (L0.at (wpAny_bind (L1.at ?_)))))))); show wpAny _ _ (if (onTheHeap (Value.ref D) && Value.builtin "BaseException.__getattribute__" == Value.builtin "object.__getattribute__") = true then _ else _) _ _ _
  rw [n1, if_neg Bool.false_ne_true]; unfold getAttrByItsOwn hookBefore
  refine wpAny_bind ?_; rw [if_pos (show onTheHeap (Value.ref D) = true from rfl)]
  refine L2.at (wpAny_bind (wpAny_attempt (wpAny_holding ?_))); unfold callGetattribute
  rw [n0, if_neg Bool.false_ne_true]; unfold boundAndCalled; rw [PySem.F.excAttr_ValueError.ga.bind (.ref x)]
  refine wpAny_bind (wpAny_pure ?_); show wpAny _ _ (call (.builtin "BaseException.__getattribute__") [.ref x, .str "__class__" t]) _ _ _
  refine wpAny_call (codeAny_call_builtin PySem.F.excAttr_ValueError.ga.plain PySem.F.entry_bexc_ga (@check_slot (model prog w) _ _ ⟨hp, g, d, t + 1, os⟩ "BaseException.__getattribute__" "BaseException" "__getattribute__" (.ref x) [.str "__class__" t] [] _ (by decide +kernel) (by decide +kernel) sub (PySem.F.args_bexc_ga (.ref x) (.str "__class__" t)) ?_))
  unfold Builtin.«object.__getattribute__»
  refine wpAny_bind (wpAny_of_eq (a := ((Value.ref x : Value), [Value.str "__class__" t])) (by first | rfl | (simp only [slotArgs]; rfl)) (wpAny_bind (wpAny_pure (wpAny_bind (L0.at (wpAny_bind (L3.at ?_)))))))
  show wpAny _ _ (holding [Value.builtin "object.__class__"] (call (.builtin "getset_descriptor.__get__") [.builtin "object.__class__", .ref x, .ref D]) >>= ret) _ _ _
  refine wpAny_bind (wpAny_holding (wpAny_call (class_get (s := ⟨hp, g, d, t + 1, os⟩) X I C.hm (wpAny_pure ?_)))); show wpAny _ _ (handedOut (.ref D)) _ _ _
  rw [handedOut_of (v := .ref D) rfl]
  first
    | exact wpAny_pure (wpAny_pure go)
    | exact wpAny_pure go
    | exact wpAny_pure (wpAny_bind (wpAny_pure (wpAny_pure go)))
theorem kitx_x (C : ExcC K D) : KitX K (.ref x) (.ref D) (fun h => InstAt h x ox D (some od)) := by
  obtain ⟨cd, hc, _⟩ := any_some C.hd
  have hc2 := hc
  unfold clsIn at hc
  split at hc
  · rename_i c' d' cd' sl' ho
    refine ⟨fun _ _ _ I => I.type, fun _ _ X _ => ?_, fun h tp dd its n sl X htp => Bool.eq_false_iff.mpr fun q => ?_, fun X I k => class_x C X I k⟩
    · intro A' Q' E' s' k q
      unfold isType loadHead
      exact wpAny_bind (wpAny_loadPart (k _ _ (X _ _ ho)) (wpAny_pure q))
    · have e : D = tp := Value.ref.inj (beq_iff_eq.mp q)
      subst e
      have z := (X _ _ ho).symm.trans htp
      cases z
  · cases hc
end
end TX
/-- isinstance(e, c), e a pinned error of the class at D with its dict at dd -/
def rIsX (K : PySem.W.Frag) (D a dd : Addr) : List V → Hp → VK → Prop := fun xs H Q => ∃ (c : V) (cv : Value) (b : Bool) (fs : List (Str × V)), xs = [.ref a, c] ∧ (∀ u, RelV c u → u = cv) ∧ PySem.W.kitOne K (.ref D) cv = some b ∧ H dd = some (.xd fs) ∧ Q (.bl b) H
theorem call_isX {X : Cx} {a D dd : Addr} {oe : Obj} (C : ExcC X.K D) (hz : L2N.Zn (.ref D) (some dd) oe) (hf : ∃ vs, oe.data = .fields vs) (hp : (a, oe) ∈ X.pn) : CallR X (.builtin "isinstance") (rIsX X.K D a dd) := by
  intro pins s σ H xs us Q I r h
  obtain ⟨c, cv, b, fs, rfl, hcv, e, ed, q⟩ := h
  cases r with
  | cons rx rr =>
    cases rr with
    | cons rt rr =>
      cases rr
      cases rx
      have ec := hcv _ rt
      subst ec
      obtain ⟨hget, _⟩ := I.pin (a, oe) (List.mem_append.mpr (.inl hp))
      obtain ⟨vs, hv⟩ := hf
      have hx : ObjOk X.prog X.w H s.heap dd (.xd fs) := I.hok dd _ ed
      obtain ⟨mA, hns, _⟩ := hx
      obtain ⟨od, es, ep, ho, _⟩ := hns
      have J : PySem.W.InstAt s.heap a oe D (some od) := ⟨hget, hz.1, by unfold PySem.W.notCls; rw [hv] <;> rfl, by rw [hz.2.1]; exact ho⟩
      exact PySem.W.kia_one (TX.kitx_x C) I.kIn J e (fun z => nomatch z) fun tk => ⟨.bl b, H, I.kept (t' := tk) fun _ _ z => z, rfl, q⟩
/-! ### a def that is called within an except suite and handed the error -/
open L2H in
/-- its promise may speak of the error p that is handled -/
structure FnP (P : Program) (w : World) (K : PySem.W.Frag) (mg : Str → Option Value) (base : Heap) (k : Nat) (f : Addr) (fd : FuncData) (ps : List Str) (sp : Addr × Obj → Sp) : Prop where
  len : ∀ p vs H Q E, sp p vs H Q E → vs.length = ps.length
  run : ∀ (A : Around) (outer : List Env) (s : Shared) (H : Hp) (us : List Value) (vs : List V) (Q : VK) (E : XK) (p : Addr × Obj), RoomH k A → Hot1 A p → PinOk outer H s p → Env0 P w K mg base A outer s H → BindsTo s fd ⟨us, []⟩ (ps.zip us) → Vals vs us → sp p vs H Q E →
    codeAny (model P w) A (.call (.ref f) ⟨us, []⟩) (CR CX0 outer P w H s Q E) s
open L2H PyProof.Rows in
theorem Fun.okP {P : Program} {w : World} {K : PySem.W.Frag} {mg : Str → Option Value} {base : Heap} {x qual : Str} {st : Stmt} {f : Addr} {fd : FuncData} {N ps : List Str} {k : Nat} {sp : Addr × Obj → Sp} (F : Fun K x qual st f fd) (S : FnScope N ps (defScope st)) (len : ∀ p vs H Q E, sp p vs H Q E → vs.length = ps.length)
    (hbody : ∀ (cdv : Value) (A : Around) (outer : List Env) (s : Shared) (H : Hp) (vs : List V) (Q : VK) (E : XK) (p : Addr × Obj), Hot1 A p → RoomH k (A.deeper (envOfC qual (defScope st) s.heap.objs.size f cdv)) → sp p vs H Q E →
      ∃ t, PSs (cxH CX0 P w K mg base N qual (defScope st) f cdv A outer s H E p).nox (defBody st) t ∧ t { nx := fun _ H' => Q .non H', rt := Q } (start N vs) H) : FnP P w K mg base (k + 1) f fd ps sp := by
  obtain ⟨oc, od, kV, doc, pm, an, cdv, ct, osl, rfl, lk, hcd⟩ := F.ex
  refine ⟨len, fun A outer s H us vs Q E p hr hot hpin e0 hb r hsp => ?_⟩
  have hl := len _ _ _ _ _ hsp
  have KX : K.In s.heap := e0.mod.kin.keeps fun b o e => (e0.bs b o e).1
  have lim : s.heap.NoLimit := e0.mod.nolimit.keeps fun b o e => (e0.bs b o e).1
  refine codeAny_call_function hr.depth (KX _ _ lk) rfl S.co S.gen rfl (PySem.W.codeRec_of KX hcd) (hb _ _ _ _ (wpAny_newFunctionEnv_cells S.kind (fun ⟨n, v⟩ hy => ?_) fun env he s1 x => ?_))
  · rcases S.par n (List.of_mem_zip hy).1 with q | q
    · exact .inl q
    · exact .inr ⟨q, PySem.W.cellsFrom_some _ _ _ (.inl q)⟩
  · subst he
    obtain ⟨t, ht, hq⟩ := hbody cdv A outer s H vs Q E p hot (hr.deeper _) hsp
    have I : Inv (cxH CX0 P w K mg base N qual (defScope st) f cdv A outer s H E p) [] (start N vs) H s1 := inv_startH S hpin e0 hl r x
    refine ⟨lim.keeps x.toInCall.keep, codeAny_func (wpAny_mono (ht.nox.run [] s1 (start N vs) H _ I hq) (fun fl s' hs => ?_) fun e s' hs => hs)⟩
    cases fl with
    | ret u => obtain ⟨v, σ', H', J, rv, q⟩ := hs; exact ⟨v, H', J.os, J.bare, J.base, J.hok, rv, q⟩
    | next => obtain ⟨σ', H', J, q⟩ := hs; exact ⟨.non, H', J.os, J.bare, J.base, J.hok, rfl, q⟩
    | brk => obtain ⟨_, _, _, q⟩ := hs; exact q.elim
    | cont => obtain ⟨_, _, _, q⟩ := hs; exact q.elim
/-- f(e, ..), p the error that is handled here -/
def tCallP (sp : Sp) (t : TA) : TE := fun σ H Q => t σ H fun vs H1 => sp vs H1 Q (fun _ _ _ => False)
open L2H PyProof.Rows in
theorem pe_callP {X : Cx} {k : Nat} {f : Addr} {fd : FuncData} {ps : List Str} {sp : Addr × Obj → Sp} {x : Str} {q pos : Pos} {e : Expr} {es : List Expr} {t : TA} {p : Addr × Obj} (F : FnP X.prog X.w X.K X.mg X.base k f fd ps sp) (hr : RoomH k X.A) (hot : Hot1 X.A p) (hp : p ∈ X.pn) (hg : Gl X x) (hm : X.mg x = some (.ref f))
    (hk : PySem.W.keepIn X.K (.ref f) = true) (hb : Binds X.K fd ps []) (ha : PA X (e :: es) t) (hdb : (x == ("__debug__" : Str)) = false := by decide) (he : starEach (e :: es) X.env = (false, eval e X.env) :: starEach es X.env := by rfl) (hpl : (backTo pos (starEach es X.env)).any (·.1) = false := by rfl) :
    PE X (.Call (.Name x q) (e :: es) [] pos) (tCallP (sp p) t) := by
  refine ⟨fun pins s σ H Q I h => wpAny_Call_Name_kw (ld_glob I hg hm (PySem.W.callWith_K (h₀ := X.base) I.ok.mod.kin hk (thn (ha.run pos pins s σ H _ I h) fun us s1 ⟨vs, H1, I1, r, q⟩ => ⟨I1.kIn, ?_⟩) he hpl) hdb)⟩
  have hl : us.length = ps.length := by rw [← r.length]; exact F.len _ _ _ _ _ q
  have b := hb s1 us I1.kIn (by rw [List.append_nil]; exact hl)
  rw [List.append_nil] at b
  have P1 := I1.pin p (List.mem_append_left _ hp)
  show wpAny _ _ (call (.ref f) us) _ _ _
  refine wpAny_call (codeAny_mono (F.run X.A X.stack s1 H1 us vs Q (fun _ _ _ => False) p hr hot ⟨P1.1, P1.2.1, fun hm => (List.mem_cons.mp (I1.stkSub p.1 hm)).elim P1.2.2.1 P1.2.2.2.1, P1.2.2.2.2⟩ I1.env0 b r q) fun r s' hq => ?_)
  cases r with
  | error e => exact hq.elim
  | ok fl =>
    cases fl with
    | ret u => exact I1.after hq
    | next => exact hq.elim
    | brk => exact hq.elim
    | cont => exact hq.elim
/-- the error that a suite holds is handled there -/
theorem hot_suite {X : Cx} {a : Addr} {oe : Obj} {cls : Value} {d : Option Addr} {pn : List (Addr × Obj)} (hz : L2N.Zn cls d oe) (hf : ∃ vs, oe.data = .fields vs) : L2H.Hot1 (X.suite a ((a, oe) :: pn)).A (a, oe) := by
  obtain ⟨vs, hv⟩ := hf
  exact ⟨rfl, vs, hv, hz.2.2 vs hv⟩
/-! ### [elt for name in range(..)] within an except suite -/
/-- a comprehension's block, the handled error pinned -/
abbrev blkP (X : Cx) (p : Addr × Obj) (s : Shared) (H : Hp) (scope : Scope) (ce : Env) (fp : List Addr) : Cx := { X.blk s H scope ce fp with pn := [p] }
section
open L2H PyProof.Rows
variable {X : Cx} {p : Addr × Obj}
theorem blk_pin {pins : List (Addr × Obj)} {σ : L2.St} {H H0 : Hp} {s s0 : Shared} {scope : Scope} {ce : Env} {fp : List Addr} (I : Inv (X.blk s0 H0 scope ce fp) pins σ H s) (h : s.heap.get? p.1 = some p.2 ∧ H p.1 = none ∧ p.1 ≠ ce.locals ∧ p.1 ∉ frs X.stack ∧ ∀ v, p.2.data ≠ .cell v) : Inv (blkP X p s0 H0 scope ce fp) pins σ H s :=
  ⟨⟨I.ok.mod, I.ok.kind, I.ok.glob, I.ok.blt, I.ok.above, I.ok.inj, I.ok.has, I.ok.cab, I.ok.hd, I.ok.frames, I.ok.stk, I.ok.exf, I.ok.bs, I.ok.bsz, I.ok.noex, I.ok.exfs, I.ok.funs, I.ok.frf⟩, I.os, I.bare, I.base, I.loc, I.cell, I.free, I.freeC, fun q hq => by
    rcases List.mem_append.mp hq with hq | hq
    · rw [List.mem_singleton.mp hq]; exact h
    · exact I.pin q (List.mem_append_right _ hq), I.hok, I.len⟩
theorem pe_lcP {elt tg iter : Expr} {scope : Scope} {own : List (Str × Nat)} {pos : Pos} {wi : TI} {g : TG} {te : TE} (hot : Hot1 X.A p) (hp : p ∈ X.pn) (hN : X.N.Nodup) (hi : PIH X tg iter wi) (ok : BlkOk X.N X.env.scope scope own)
    (hg : ∀ (s : Shared) (H : Hp) (C : Addr) (cl : List (Str × Addr)) (fp : List Addr), PG (blkP X p s H scope (compEnvC scope cl C X.env) fp) tg g)
    (he : ∀ (s : Shared) (H : Hp) (C : Addr) (cl : List (Str × Addr)) (fp : List Addr), PE (blkP X p s H scope (compEnvC scope cl C X.env) fp) elt te) (hs : ∀ x, foldedSetIterable iter X.env x = pure x := by intro _; rfl) :
    PE X (.ListComp elt [⟨tg, iter, [], 0⟩] scope pos) (tLc wi g tYes te (own.map (·.2))) := by
  refine ⟨fun pins s σ H Q I h => ?_⟩
  rw [eval_ListComp]
  refine wpAny_comprehension_free (use := none) rfl hs (closure_ok fun y hy e => ?_) ok.kind (fun y hy e => by rw [ok.uniq y hy, e]) (thn (hi.run pins s σ H _ I h) fun xv s1 hx => thn hx fun itv s2 h2 => ?_)
  · rcases ok.free y hy e with k | k
    · exact I.ok.has _ (.inl k)
    · exact I.ok.has _ (.inr k)
  obtain ⟨it, fp, tn, J, H2, e, I2, T, st2, f2, q⟩ := h2
  subst e
  refine wpAny_newObj_type (newEnv_comp ?_) (by show 0 ≤ sizeLine; decide)
  generalize hD : s2.heap.objs.size = D
  obtain ⟨W, ⟨m0, w0⟩, turn⟩ := q D (I2.hok.fresh (Nat.le_of_eq hD))
  generalize hs3 : ({ s2 with heap := s2.heap.push { cls := .type "list", data := .seq ([] : List Value).toArray } } : Shared) = s3
  have h3 : s3.heap = s2.heap.push { cls := .type "list", data := .seq ([] : List Value).toArray } := by rw [← hs3]
  have I3 : Inv X pins σ (upd H2 D (.lst [])) s3 := by
    rw [← hs3]
    exact I2.laid (t' := s2.toks) (fun b o e => Heap.get?_push_of_some _ e) (Nat.le_of_eq hD) ⟨Nat.zero_le _, [], 0, .nil, by rw [← hD]; exact Heap.get?_push_size _ rfl⟩
  have f3 : ∀ b ∈ fp, FpOk X pins (upd H2 D (.lst [])) b ∧ b < s3.heap.objs.size := fun b hb => by
    obtain ⟨o, e, _⟩ := T.obj _ _ st2 b hb
    have lt := Heap.lt_size e
    exact ⟨⟨by rw [upd_ne (by rw [← hD]; exact Nat.ne_of_lt lt)]; exact (f2 b hb).1, (f2 b hb).2⟩, by rw [h3, Heap.size_push]; exact Nat.lt_succ_of_lt lt⟩
  have P3 := I3.pin p (List.mem_append_left _ hp)
  have I4 := block_start I3 ok hN f3
  have pg := hg s3 (upd H2 D (.lst [])) s3.heap.objs.size (cellsFrom (s3.heap.objs.size + 1) scope.names (cloFrom X.env.cells scope.names [])) fp
  have pe := he s3 (upd H2 D (.lst [])) s3.heap.objs.size (cellsFrom (s3.heap.objs.size + 1) scope.names (cloFrom X.env.cells scope.names [])) fp
  have nfp : ∀ b ∈ fp, (upd H2 D (.lst [])) b = none := fun b hb => (f3 b hb).1.1
  show codeAny _ _ (.compStart (.ListComp elt [⟨tg, iter, [], 0⟩] scope pos) 0 (.ref it) (.ref D) (compEnvC scope (cellsFrom (s3.heap.objs.size + 1) scope.names (cloFrom X.env.cells scope.names [])) s3.heap.objs.size X.env)) (compPost (model X.prog X.w) X.A X.xe none (EP X pins σ Q) (.ref D) s3.heap.objs.size) { s3 with heap := pushCells (s3.heap.push { cls := .type "dict", data := .dict #[] }) scope.names }
  generalize hce : compEnvC scope (cellsFrom (s3.heap.objs.size + 1) scope.names (cloFrom X.env.cells scope.names [])) s3.heap.objs.size X.env = ce at I4 pg pe ⊢
  have cL : ce.locals = s3.heap.objs.size := by subst hce; rfl
  generalize hH3 : upd H2 D (.lst []) = H3 at I3 I4 pg pe w0 nfp f3 P3
  generalize hs4 : ({ s3 with heap := pushCells (s3.heap.push { cls := .type "dict", data := .dict #[] }) scope.names } : Shared) = s4 at I4 ⊢
  have kp4 : ∀ b o, s3.heap.get? b = some o → s4.heap.get? b = some o := fun b o e => by rw [← hs4]; exact pushCells_keeps _ _ _ _ (Heap.get?_push_of_some _ e)
  have st4 : tn 0 s4.heap := T.keep _ _ _ st2 fun b _ o e => kp4 b o (by rw [h3]; exact Heap.get?_push_of_some _ e)
  have I5 : Inv (blkP X p s3 H3 scope ce fp) [] (wipe σ (own.map (·.2))) H3 s4 := blk_pin I4 ⟨kp4 _ _ P3.1, P3.2.1, by rw [cL]; exact Nat.ne_of_lt (Heap.lt_size P3.1), fun hm => (List.mem_cons.mp (I3.stkSub p.1 hm)).elim P3.2.2.1 P3.2.2.2.1, P3.2.2.2.2⟩
  have hotB : HotC (blkP X p s3 H3 scope ce fp) := ⟨p, hot, List.mem_singleton.mpr rfl⟩
  have stat : ∀ {σ' : L2.St} {H' : Hp} {s' : Shared}, Inv (blkP X p s3 H3 scope ce fp) [] σ' H' s' → (∀ b ∈ fp, H' b = none) → ∀ b ∈ fp, FpOk (blkP X p s3 H3 scope ce fp) [] H' b := fun {σ' H' s'} I' hn b hb =>
    ⟨hn b hb, (I'.ok.exf b hb).1, I'.ok.exfs b hb, .inl hb, fun x c e => (I'.ok.exf b hb).2 x c e, fun r hr => by
      have er : r = p := by simpa using (show r ∈ [p] ++ ([] : List (Addr × Obj)) from hr)
      rw [er]
      exact (f3 b hb).1.2.2.2.2.2 p (List.mem_append_left _ hp)⟩
  have loop : codeAny (model X.prog X.w) X.A (.compLoop (.ListComp elt [⟨tg, iter, [], 0⟩] scope pos) 0 (.ref it) (.ref D) ce) (compPost (model X.prog X.w) X.A X.xe none (EP X pins σ Q) (.ref D) s3.heap.objs.size) s4 := by
    refine compLoop_any (fun n s' => ∃ i H', Inv (blkP X p s3 H3 scope ce fp) [] (wipe σ (own.map (·.2))) H' s' ∧ tn i s'.heap ∧ (∀ b ∈ fp, H' b = none) ∧ W i n H') ?_ m0 ⟨0, H3, I5, st4, nfp, w0⟩
    rintro n s5 ⟨i, H5, I5, st5, n5, w5⟩
    rcases turn i n H5 w5 with ⟨stop, qq⟩ | ⟨go, Nx, hNx, step⟩
    · refine thnF (T.done (blkP X p s3 H3 scope ce fp) rfl rfl rfl hotB i [] s5 _ H5 (fun _ _ => False) I5 (stat I5 n5) st5 stop) fun r s6 ⟨hr, I6⟩ => ?_
      subst hr
      have I7 : Inv X pins σ H5 s6 := I3.call' (ch := fp) I6.os I6.base I6.hok I6.bare fun b hb => ⟨(f3 b hb).1.2.2.2.1, (f3 b hb).1.2.1, (f3 b hb).1.2.2.2.2.1, (f3 b hb).1.2.2.2.2.2⟩
      have nC : H5 s3.heap.objs.size = none := cL ▸ (show H5 ce.locals = none from I6.free)
      obtain ⟨m, hn, _⟩ := I6.loc
      have hn : s6.heap.Ns s3.heap.objs.size m := cL ▸ (show s6.heap.Ns ce.locals m from hn)
      obtain ⟨f0, f1, f2', f3', f4, f5⟩ := I3.fpOk (Nat.le_refl _) nC
      exact ⟨m, hn, fun h'' sb => ⟨.ref D, H5, I7.turned (t' := s6.toks) (fun b o hb e => (sb.2 b hb).trans e) f0 f1 f3' f4 f5, rfl, qq⟩⟩
    · refine thnF (T.item (blkP X p s3 H3 scope ce fp) rfl rfl rfl hotB i [] s5 _ H5 (fun _ _ => False) I5 (stat I5 n5) st5 go) fun r s6 ⟨u, hr, h6⟩ => ?_
      subst hr
      refine thnF h6 fun _ s7 ⟨x, H7, I7, r7, y7, st7, n7⟩ => thnF (pg.run _ s7 _ H7 x u _ (I7.pinned (stat I7 n7) (T.obj _ _ st7)) r7 (step x H7 y7)) fun _ s8 ⟨σ8, H8, I8, hw8, q8⟩ => thnF ((pts_nil (X := blkP X p s3 H3 scope ce fp)).run _ s8 σ8 H8 _ I8 q8) fun b s9 ⟨H9, I9, q9⟩ => ?_
      have fin : ∀ {s' : Shared} {H' : Hp}, Inv (blkP X p s3 H3 scope ce fp) ([] ++ pinsAt fp s7.heap) σ8 H' s' → Nx H' → ∃ m, m < n ∧ ∃ i H', Inv (blkP X p s3 H3 scope ce fp) [] (wipe σ (own.map (·.2))) H' s' ∧ tn i s'.heap ∧ (∀ b ∈ fp, H' b = none) ∧ W i m H' := fun {s' H'} I' nx => by
        obtain ⟨m', hm, w'⟩ := hNx H' nx
        have pin' : ∀ b ∈ fp, ∀ o, s7.heap.get? b = some o → s'.heap.get? b = some o ∧ H' b = none := fun b hb o e => ⟨(I'.pin (b, o) (List.mem_append_right _ (List.mem_append_right _ (mem_pinsAt hb e)))).1, (I'.pin (b, o) (List.mem_append_right _ (List.mem_append_right _ (mem_pinsAt hb e)))).2.1⟩
        refine ⟨m', hm, i + 1, H', (I'.unpinned (pins := [])).weak (by rw [← hw8, wipe_length]) (fun j v e => (wipe_some (by rw [← hw8] at e; exact e)).1), T.keep _ _ _ st7 fun b hb o e => (pin' b hb o e).1, fun b hb => ?_, w'⟩
        obtain ⟨o, e, _⟩ := T.obj _ _ st7 b hb
        exact (pin' b hb o e).2
      cases b with
      | false =>
        simp only [Bool.false_eq_true, if_false] at q9 ⊢
        exact fin I9 q9
      | true =>
        simp only [if_true] at q9 ⊢
        exact thnF (pe.run _ s9 σ8 H9 _ I9 q9) fun z s10 ⟨yv, H10, I10, r10, acc, hD10, hz10, nx⟩ => app_ok (X := blkP X p s3 H3 scope ce fp) I10 hD10 hz10 r10 fun s11 I11 => fin I11 nx
  exact codeAny_compStart_list loop (T.self X.A 0 _ _ _ st4 loop)
end

/-! ### the errors -/
abbrev sXI3 : Stmt := inClass (topS 6) 0
abbrev NXI3 : List Str := ["self", "name"]
abbrev PXI3 : List Str := ["self", "name"]
theorem scXI3 : FnScope NXI3 PXI3 (defScope sXI3) := ⟨rfl, rfl, rfl, by decide +kernel, rfl, by decide +kernel, by decide +kernel⟩
theorem ok_XI3 {P : Program} {w : World} {K : PySem.W.Frag} {mg : Str → Option Value} {base : Heap} {f C : Addr} {fd : FuncData} (F : Fun K "__init__" "DuplicateName.__init__" sXI3 f fd) (T : OexG K C) (hn : PySem.W.findIn K (.ref C) "name" = some none) : FnOk P w K mg base CX0 1 f fd PXI3 (spX C "name") := by
  refine F.ok scXI3 (fun vs H Q E h => ?_) fun cdv A outer s H vs Q E hr h => ⟨_, pss_one (ps_ostG (pv 0) (pv 1)), ?_⟩
  · obtain ⟨a, v, rfl, _⟩ := h; rfl
  · obtain ⟨a, v, rfl, ea, q⟩ := h; exact ⟨_, rfl, _, rfl, a, C, rfl, T, hn, ea, q⟩
abbrev sXI4 : Stmt := inClass (topS 7) 0
abbrev NXI4 : List Str := ["self", "name"]
abbrev PXI4 : List Str := ["self", "name"]
theorem scXI4 : FnScope NXI4 PXI4 (defScope sXI4) := ⟨rfl, rfl, rfl, by decide +kernel, rfl, by decide +kernel, by decide +kernel⟩
theorem ok_XI4 {P : Program} {w : World} {K : PySem.W.Frag} {mg : Str → Option Value} {base : Heap} {f C : Addr} {fd : FuncData} (F : Fun K "__init__" "UnknownName.__init__" sXI4 f fd) (T : OexG K C) (hn : PySem.W.findIn K (.ref C) "name" = some none) : FnOk P w K mg base CX0 1 f fd PXI4 (spX C "name") := by
  refine F.ok scXI4 (fun vs H Q E h => ?_) fun cdv A outer s H vs Q E hr h => ⟨_, pss_one (ps_ostG (pv 0) (pv 1)), ?_⟩
  · obtain ⟨a, v, rfl, _⟩ := h; rfl
  · obtain ⟨a, v, rfl, ea, q⟩ := h; exact ⟨_, rfl, _, rfl, a, C, rfl, T, hn, ea, q⟩
abbrev sXI5 : Stmt := inClass (topS 8) 0
abbrev NXI5 : List Str := ["self", "place"]
abbrev PXI5 : List Str := ["self", "place"]
theorem scXI5 : FnScope NXI5 PXI5 (defScope sXI5) := ⟨rfl, rfl, rfl, by decide +kernel, rfl, by decide +kernel, by decide +kernel⟩
theorem ok_XI5 {P : Program} {w : World} {K : PySem.W.Frag} {mg : Str → Option Value} {base : Heap} {f C : Addr} {fd : FuncData} (F : Fun K "__init__" "WrongArguments.__init__" sXI5 f fd) (T : OexG K C) (hn : PySem.W.findIn K (.ref C) "place" = some none) : FnOk P w K mg base CX0 1 f fd PXI5 (spX C "place") := by
  refine F.ok scXI5 (fun vs H Q E h => ?_) fun cdv A outer s H vs Q E hr h => ⟨_, pss_one (ps_ostG (pv 0) (pv 1)), ?_⟩
  · obtain ⟨a, v, rfl, _⟩ := h; rfl
  · obtain ⟨a, v, rfl, ea, q⟩ := h; exact ⟨_, rfl, _, rfl, a, C, rfl, T, hn, ea, q⟩
abbrev sXI6 : Stmt := inClass (topS 9) 0
abbrev NXI6 : List Str := ["self", "place"]
abbrev PXI6 : List Str := ["self", "place"]
theorem scXI6 : FnScope NXI6 PXI6 (defScope sXI6) := ⟨rfl, rfl, rfl, by decide +kernel, rfl, by decide +kernel, by decide +kernel⟩
theorem ok_XI6 {P : Program} {w : World} {K : PySem.W.Frag} {mg : Str → Option Value} {base : Heap} {f C : Addr} {fd : FuncData} (F : Fun K "__init__" "InvalidFinally.__init__" sXI6 f fd) (T : OexG K C) (hn : PySem.W.findIn K (.ref C) "place" = some none) : FnOk P w K mg base CX0 1 f fd PXI6 (spX C "place") := by
  refine F.ok scXI6 (fun vs H Q E h => ?_) fun cdv A outer s H vs Q E hr h => ⟨_, pss_one (ps_ostG (pv 0) (pv 1)), ?_⟩
  · obtain ⟨a, v, rfl, _⟩ := h; rfl
  · obtain ⟨a, v, rfl, ea, q⟩ := h; exact ⟨_, rfl, _, rfl, a, C, rfl, T, hn, ea, q⟩
structure ErrH (P : Program) (w : World) (K : PySem.W.Frag) (mg : Str → Option Value) (base : Heap) (C : Nat → Addr) : Prop where
  h3 : HasX P w K mg base 1 "DuplicateName" (C 3) "name"
  h4 : HasX P w K mg base 1 "UnknownName" (C 4) "name"
  h5 : HasX P w K mg base 1 "WrongArguments" (C 5) "place"
  h6 : HasX P w K mg base 1 "InvalidFinally" (C 6) "place"
open PyProof.Rows in
/-- as Fun.ok, for a def that errors leave -/
theorem Fun.okN {P : Program} {w : World} {K : PySem.W.Frag} {mg : Str → Option Value} {base : Heap} {x qual : Str} {st : Stmt} {f : Addr} {fd : FuncData} {N ps : List Str} {k : Nat} {sp : Sp} (F : Fun K x qual st f fd) (S : FnScope N ps (defScope st)) (len : ∀ vs H Q E, sp vs H Q E → vs.length = ps.length)
    (hbody : ∀ (cdv : Value) (A : Around) (outer : List Env) (s : Shared) (H : Hp) (vs : List V) (Q : VK) (E : XK), Room k (A.deeper (envOfC qual (defScope st) s.heap.objs.size f cdv)) → sp vs H Q E →
      ∃ t, PSs (cxOf (L2N.CX P w) P w K mg base N qual (defScope st) f cdv A outer s H E) (defBody st) t ∧ t { nx := fun _ H' => Q .non H', rt := Q } (start N vs) H) : FnOk P w K mg base (L2N.CX P w) (k + 1) f fd ps sp := by
  obtain ⟨oc, od, kV, doc, pm, an, cdv, ct, osl, rfl, lk, hcd⟩ := F.ex
  exact fn_of lk hcd S len fun A outer s H vs Q E hr hsp => hbody cdv A outer s H vs Q E hr hsp
theorem pe_callSH {X : Cx} {CX : CXT} {k : Nat} {x : Str} {ps : List Str} {sp : Sp} {E : L2.St → XK} {e : Expr} {es : List Expr} {t : TA} {p pos : Pos} (F : Has X.prog X.w X.K X.mg X.base CX k x ps sp) (hr : Room k X.A) (hg : Gl X x) (hx : ∀ σ, PassesAt CX X σ (E σ)) (ha : PA X (e :: es) t)
    (hd : (x == ("__debug__" : Str)) = false := by decide) (he : starEach (e :: es) X.env = (false, eval e X.env) :: starEach es X.env := by rfl) (hpl : (backTo pos (starEach es X.env)).any (·.1) = false := by rfl) :
    PE X (.Call (.Name x p) (e :: es) [] pos) (tCallS sp E t) := by
  obtain ⟨f, fd, F, m, kp, b⟩ := F.ex
  exact pe_callS F hr hg m kp b hx ha hd he hpl
/-- raise C(e) in a def that errors leave -/
theorem ps_raiseX {X : Cx} {W : WX} {x : Str} {C : Addr} {f : Str} {k : Nat} {e : Expr} {ta : TA} {p pos pos' : Pos} (hc : X.calm = true) (tk : L2N.Takes X W) (T : HasX X.prog X.w X.K X.mg X.base k x C f) (hr : Room (k + 1) X.A) (hg : Gl X x) (ha : PA X [e] ta)
    (hdb : (x == ("__debug__" : Str)) = false := by decide) (he : starEach [e] X.env = (false, eval e X.env) :: starEach [] X.env := by rfl) : PS X (.Raise (some (.Call (.Name x p) [e] [] pos)) none pos') (fun _ σ H => tMkX C f ta σ H fun cls d H' => W cls d σ H') :=
  L2N.ps_raise hc tk (pmk_x T hr hg ha hdb he)

/-! ### _law_names -/
abbrev sNames : Stmt := topS 67
abbrev NNames : List Str := ["_law_pool_here", "_law_letter", "_law_shift", "_law_k"]
abbrev PNames : List Str := ["_law_pool_here"]
theorem scNames : FnScope NNames PNames (defScope sNames) := ⟨rfl, rfl, rfl, by decide +kernel, rfl, by decide +kernel, by decide +kernel⟩
def nm (c : Nat) (i : Int) : Str := (⟨#[c]⟩ : Str) ++ ((toString i : String) : Str)
/-- a list of names as _law_names gives it -/
structure NamesOk (ns : List Str) : Prop where
  nd : ns.Nodup
  name : ∀ n ∈ ns, isName n = true
  len : ∀ n ∈ ns, n.length ≤ 10
  two : ∀ n ∈ ns, 2 ≤ n.length
theorem dig_facts : ∀ k : Fin 16, ((toString ((k.val : Nat) : Int) : String) : Str).cps.toList ≠ [] ∧ (∀ c ∈ ((toString ((k.val : Nat) : Int) : String) : Str).cps.toList, c ∈ DIG.cps.toList) ∧ ((toString ((k.val : Nat) : Int) : String) : Str).cps.toList.length ≤ 2 := by decide +kernel
theorem dig_inj : ∀ k j : Fin 16, ((toString ((k.val : Nat) : Int) : String) : Str) = ((toString ((j.val : Nat) : Int) : String) : Str) → k = j := by decide +kernel
theorem mod_inj : ∀ s k j : Fin 16, (7 * k.val + s.val) % 16 = (7 * j.val + s.val) % 16 → k = j := by decide +kernel
theorem kws_let : ∀ k ∈ KWS, ∀ c ∈ k.cps.toList, c ∈ LET.cps.toList := by decide +kernel
theorem let_dig : ∀ c ∈ DIG.cps.toList, c ∉ LET.cps.toList := by decide +kernel
theorem nm_list (c : Nat) (i : Int) : (nm c i).cps.toList = c :: ((toString i : String) : Str).cps.toList := by
  show (#[c] ++ ((toString i : String) : Str).cps).toList = _
  simp
theorem nm_name {c : Nat} (hc : c ∈ LET.cps.toList) {i : Int} (h0 : 0 ≤ i) (h1 : i < 16) : isName (nm c i) = true ∧ (nm c i).length ≤ 10 := by
  have e : i = (((⟨i.toNat, by omega⟩ : _root_.Fin 16).val : Nat) : Int) := by
    show i = ((i.toNat : Nat) : Int)
    omega
  obtain ⟨d1, d2, d3⟩ := dig_facts ⟨i.toNat, by omega⟩
  rw [← e] at d1 d2 d3
  have hl := nm_list c i
  have h0 : (nm c i).cps.toList[0]? = some c := by rw [hl]; rfl
  constructor
  · rw [isName_at h0, hl]
    simp only [Bool.and_eq_true, decide_eq_true_eq, Bool.not_eq_true']
    refine ⟨⟨hc, ?_⟩, ?_⟩
    · rw [List.all_eq_true]
      intro x hx
      unfold al
      simp only [Bool.or_eq_true, decide_eq_true_eq]
      rcases List.mem_cons.mp hx with q | q
      · rw [q]; exact .inl hc
      · exact .inr (d2 x q)
    · cases q : inV (.str (nm c i)) (KWS.map V.str) with
      | false => rfl
      | true =>
        unfold inV at q
        obtain ⟨v, hv, q⟩ := List.any_eq_true.mp q
        obtain ⟨k, hk, rfl⟩ := List.mem_map.mp hv
        have q : k = nm c i := by
          have q : (k == nm c i) = true := q
          simpa using q
        obtain ⟨x, hx⟩ := List.exists_mem_of_ne_nil _ d1
        exact absurd (kws_let k hk x (by rw [q, hl]; exact List.mem_cons_of_mem _ hx)) (let_dig x (d2 x hx))
  · show (nm c i).cps.size ≤ 10
    rw [← Array.length_toList, hl, List.length_cons]
    omega
theorem nm_inj {c : Nat} {i j : Int} (i0 : 0 ≤ i) (i1 : i < 16) (j0 : 0 ≤ j) (j1 : j < 16) (h : nm c i = nm c j) : i = j := by
  have q : ((toString i : String) : Str).cps.toList = ((toString j : String) : Str).cps.toList := by
    have z := congrArg (fun z : Str => z.cps.toList) h
    simp only [nm_list] at z
    exact (List.cons.inj z).2
  have e : ((toString i : String) : Str) = ((toString j : String) : Str) := by
    have z := congrArg List.toArray q
    simp only [Array.toArray_toList] at z
    cases hx : ((toString i : String) : Str) with
    | mk a =>
      cases hy : ((toString j : String) : Str) with
      | mk b =>
        rw [hx, hy] at z
        rw [show a = b from z]
  have ei : i = (((⟨i.toNat, by omega⟩ : _root_.Fin 16).val : Nat) : Int) := by
    show i = ((i.toNat : Nat) : Int)
    omega
  have ej : j = (((⟨j.toNat, by omega⟩ : _root_.Fin 16).val : Nat) : Int) := by
    show j = ((j.toNat : Nat) : Int)
    omega
  rw [ei, ej] at e
  have f := congrArg Fin.val (dig_inj _ _ e)
  have f : i.toNat = j.toNat := f
  omega
def nms (c : Nat) (s : Int) (n : Nat) : List Str := (List.range n).map fun k => nm c ((7 * (k : Nat) + s) % 16)
theorem nms_ok {c : Nat} (hc : c ∈ LET.cps.toList) {s : Int} (s0 : 0 ≤ s) (s1 : s < 16) {n : Nat} (hn : n ≤ 16) : NamesOk (nms c s n) := by
  have b : ∀ k : Nat, 0 ≤ (7 * (k : Int) + s) % 16 ∧ (7 * (k : Int) + s) % 16 < 16 := fun k => ⟨Int.emod_nonneg _ (by decide), Int.emod_lt_of_pos _ (by decide)⟩
  refine ⟨?_, fun x hx => ?_, fun x hx => ?_, fun x hx => ?_⟩
  · unfold nms
    rw [List.nodup_iff_pairwise_ne, List.pairwise_map]
    refine List.Pairwise.imp_of_mem (fun {i j} hi hj hne z => hne ?_) List.nodup_range
    have hi := List.mem_range.mp hi
    have hj := List.mem_range.mp hj
    have q := nm_inj (b i).1 (b i).2 (b j).1 (b j).2 z
    have m := mod_inj ⟨s.toNat, by omega⟩ ⟨i, by omega⟩ ⟨j, by omega⟩ (by show (7 * i + s.toNat) % 16 = (7 * j + s.toNat) % 16; omega)
    exact congrArg Fin.val m
  · obtain ⟨k, _, rfl⟩ := List.mem_map.mp hx
    exact (nm_name hc (b k).1 (b k).2).1
  · obtain ⟨k, _, rfl⟩ := List.mem_map.mp hx
    exact (nm_name hc (b k).1 (b k).2).2
  · obtain ⟨k, _, rfl⟩ := List.mem_map.mp hx
    have e : (7 * (k : Int) + s) % 16 = (((⟨((7 * (k : Int) + s) % 16).toNat, by have := b k; omega⟩ : _root_.Fin 16).val : Nat) : Int) := by
      show _ = ((((7 * (k : Int) + s) % 16).toNat : Nat) : Int)
      have := b k
      omega
    obtain ⟨d1, _, _⟩ := dig_facts ⟨((7 * (k : Int) + s) % 16).toNat, by have := b k; omega⟩
    rw [← e] at d1
    show 2 ≤ (nm c ((7 * (k : Int) + s) % 16)).cps.size
    rw [← Array.length_toList, nm_list, List.length_cons]
    have := List.length_pos_iff.mpr d1
    omega
def spNames : Sp := fun vs H Q _ => ∃ (p c : Addr) (lim : V) (n : Nat), vs = [.ref p] ∧ PoolAt H p c lim n ∧ n < 100000000000 ∧
  ∀ (q : Addr) (ns : List Str) (H' : Hp), NamesOk ns → ns.length = 16 → PoolAt H' p c lim (n + 2) → But p c H H' → H q = none → H' q = some (.lst (ns.map V.str)) → Q (.ref q) H'
structure TxNames (mg : Str → Option Value) : Prop where
  n_str : mg "str" = none
  n_range : mg "range" = none
section
variable {P : Program} {w : World} {K : PySem.W.Frag} {mg : Str → Option Value} {base : Heap}
theorem log2_small {i : Int} (h0 : 0 ≤ i) (h1 : i < 16) : i.natAbs.log2 < 1920 := by
  have : i.natAbs.log2 ≤ i.natAbs := Nat.log2_le_self _
  omega
theorem ok_Names {f : Addr} {fd : FuncData} (F : Fun K "_law_names" "_law_names" sNames f fd) (T : TxNames mg) (GD : Has P w K mg base CX0 2 "_law_draw" PDraw spDraw) : FnOk P w K mg base CX0 3 f fd PNames spNames := by
  refine F.ok scNames (fun vs H Q E h => ?_) (fun cdv A outer s H vs Q E hr h => ?_)
  · obtain ⟨p, c, lim, n, rfl, _⟩ := h
    rfl
  · obtain ⟨p, c, lim, n, rfl, P0, hn, k⟩ := h
    refine ⟨_, (pss_cons (ps_set (i := 1) scNames.nd rfl (Or.inr rfl) (pe_ix ix_str pe_str (pe_callH GD hr rfl pass0 (pa_cons (pv 0) (pa_cons pe_int pa_nil))) (fun _ _ => rfl)))
  (pss_cons (ps_set (i := 2) scNames.nd rfl (Or.inr rfl) (pe_callH GD hr rfl pass0 (pa_cons (pv 0) (pa_cons pe_int pa_nil))))
  (pss_one (ps_ret (pe_lc (own := [("_law_k", 3)]) (g := gName 3) (tt := tYes) rfl scNames.nd (pi_range1 (by rfl) T.n_range (pa_cons pe_int pa_nil)) (blkOk_by (own := [("_law_k", 3)]) (N := NNames) (sc := (defScope sNames)) (by decide +kernel)) (fun _ _ _ _ _ => (pg_name (i := 3) scNames.nd rfl (Or.inl rfl))) (fun _ _ _ _ _ => pts_nil) (fun _ _ _ _ _ => (pe_op op_add_str (pv 1) (pe_callTy call_str_int (by rfl) T.n_str bb_str (pa_cons (pe_op op_mod (pe_op op_add (pe_op op_mul pe_int (pv 3)) (pv 2)) pe_int) pa_nil))))))))), ?_⟩
    refine ⟨_, rfl, p, c, lim, n, 26, rfl, P0, by omega, by decide, by decide, fun r H1 r0 r1 P1 b1 => ?_⟩
    obtain ⟨lc, hlc, mlc⟩ := atI_in (xs := LET.cps.toList) r0 (by rw [show LET.cps.toList.length = 26 by decide +kernel]; exact r1)
    refine ⟨_, _, lc, rfl, rfl, by decide +kernel, hlc, ?_⟩
    refine ⟨_, rfl, p, c, lim, n + 1, 16, rfl, P1, by omega, by decide, by decide, fun sh H2 s0 s1 P2 b2 => ?_⟩
    refine ⟨16, rfl, by decide, by decide, fun D hD => ?_⟩
    have Dp := P2.ne1 hD
    have Dc := P2.ne2 hD
    refine lc_range (lo := 0) (n := 16) (fun i H' => Same H2 H' ∧ H' D = some (.lst ((nms lc sh i).map V.str))) ⟨same_new hD, upd_same⟩ ?_ ?_
    · rintro i H3 hi ⟨s3, e3⟩
      have b : 0 ≤ (7 * (0 + (i : Int)) + sh) % 16 ∧ (7 * (0 + (i : Int)) + sh) % 16 < 16 := ⟨Int.emod_nonneg _ (by decide), Int.emod_lt_of_pos _ (by decide)⟩
      refine ⟨rfl, _, rfl, _, rfl, _, _, rfl, rfl, .inl ⟨by decide, by decide⟩, _, rfl, _, _, rfl, rfl, _, _, rfl, rfl, (show (0 : Int) < 16 by decide), _, rfl, log2_small b.1 b.2, _, _, rfl, rfl, ?_, _, e3, small1000 ?_, fun b o z => ?_, ?_⟩
      · have q := (nm_name mlc b.1 b.2).2
        unfold nm at q
        rw [str_app_len] at q
        exact Nat.le_trans q (by decide)
      · unfold nms
        rw [List.length_map, List.length_map, List.length_range]
        omega
      · rw [upd_ne (ne_of_none z hD)]
        exact s3 b o z
      · rw [upd_same]
        unfold nms
        rw [List.range_succ, List.map_append, List.map_append]
        show some (HO.lst (_ ++ [V.str (nm lc ((7 * (0 + (i : Int)) + sh) % 16))])) = _
        rw [Int.zero_add]
        rfl
    · rintro H3 ⟨s3, e3⟩
      have hD0 : H D = none := by
        cases q : H D with
        | none => rfl
        | some o => rw [b2 D o (b1 D o q Dp Dc) Dp Dc] at hD; cases hD
      refine k D _ H3 (nms_ok mlc s0 s1 (Nat.le_refl 16)) (by unfold nms; rw [List.length_map, List.length_range]) (P2.same s3) (fun b o z h1 h2 => s3 b o (b2 b o (b1 b o z h1 h2) h1 h2)) hD0 e3
end

/-! ### e.f in a suite that takes several classes -/
def tXfG (K : PySem.W.Frag) (a : Addr) (cls : Value) (d : Option Addr) (f : Str) (te : TE) : TE := fun σ H Q => te σ H fun x H1 => x = .ref a ∧ ∃ (C dd : Addr) (fs : List (Str × V)) (v : V), cls = .ref C ∧ XfC K C ∧ PySem.W.findIn K (.ref C) f = some none ∧ d = some dd ∧ H1 dd = some (.xd fs) ∧ fs.lookup f = some v ∧ Q v H1
theorem pe_xfG {X : Cx} {a : Addr} {oe : Obj} {cls : Value} {d : Option Addr} {pn : List (Addr × Obj)} {e : Expr} {te : TE} {pos : Pos} {n : Str} (hz : L2N.Zn cls d oe) (hf : ∃ vs, oe.data = .fields vs) (he : PE (X.suite a ((a, oe) :: pn)) e te)
    (hb : attributeBase e n X.env (eval e X.env) = eval e X.env := by rfl) : PE (X.suite a ((a, oe) :: pn)) (.Attribute e n pos) (tXfG X.K a cls d n te) := by
  refine ⟨fun pins s σ H Q I h => attr_of hb (thn (he.run pins s σ H _ I h) fun u s1 ⟨x, H1, I1, rx, ex, C, dd, fs, v, ec, T, hno, ed, ea, l, q⟩ => ?_)⟩
  subst ex ec ed
  obtain rfl : u = Value.ref a := rx
  obtain ⟨vs, hd⟩ := hf
  obtain ⟨mA, hns, hr⟩ := (show ObjOk X.prog X.w H1 s1.heap dd (.xd fs) from I1.hok dd _ ea)
  obtain ⟨od, ho, hl⟩ := lookIn_ns hns
  obtain ⟨u, hu, ru⟩ := RelO.some_of (v := v) (o := mA n) (by rw [← l]; exact hr n)
  exact HandSPX.exc_get I1.kIn ⟨(I1.pin (a, oe) (List.mem_append_left _ List.mem_cons_self)).1, hz.1, by unfold PySem.W.notCls; rw [hd] <;> rfl, by rw [hz.2.1]; exact ho⟩ T.ga T.gg T.exC (PySem.W.findObj_own T.hdC hno rfl (by rw [hl, hu])) (handed_of ru) ⟨v, H1, I1.tok _, ru, q⟩
theorem HasX.mg {P : Program} {w : World} {K : PySem.W.Frag} {mg : Str → Option Value} {base : Heap} {k : Nat} {x : Str} {C : Addr} {f : Str} (h : HasX P w K mg base k x C f) : mg x = some (.ref C) := by
  obtain ⟨_, _, _, _, _, _, _, m, _⟩ := h.ex
  exact m

theorem exm_one {K : PySem.W.Frag} {cls c : Value} {b : Bool} (h : PySem.W.exmOne K cls c = some b) : PySem.W.exmAny K cls [c] = some b := by
  unfold PySem.W.exmAny
  rw [h]
  cases b <;> rfl

/-! ### isinstance of, and calls with, the error of a suite that takes several classes -/
theorem bb_ValueError : bootBuiltins "ValueError" = some (.type "ValueError") := by decide +kernel
/-- isinstance(e, c) in a suite that takes several classes -/
def rIsXG (K : PySem.W.Frag) (cls : Value) (d : Option Addr) (a : Addr) : List V → Hp → VK → Prop := fun xs H Q => ∃ D dd : Addr, cls = .ref D ∧ d = some dd ∧ ExcC K D ∧ rIsX K D a dd xs H Q
theorem call_isXG {X : Cx} {a : Addr} {cls : Value} {d : Option Addr} {oe : Obj} (hz : L2N.Zn cls d oe) (hf : ∃ vs, oe.data = .fields vs) (hp : (a, oe) ∈ X.pn) : CallR X (.builtin "isinstance") (rIsXG X.K cls d a) := by
  intro pins s σ H xs us Q I r h
  obtain ⟨D, dd, rfl, rfl, C, h⟩ := h
  exact call_isX C hz hf hp pins s σ H xs us Q I r h
/-- a def under its name, to be called where an error is handled -/
structure HasP (P : Program) (w : World) (K : PySem.W.Frag) (mg : Str → Option Value) (base : Heap) (k : Nat) (x : Str) (ps : List Str) (sp : Addr × Obj → Sp) : Prop where
  ex : ∃ (f : Addr) (fd : FuncData), FnP P w K mg base k f fd ps sp ∧ mg x = some (.ref f) ∧ PySem.W.keepIn K (.ref f) = true ∧ Binds K fd ps []
/-- f(e, ..), e the error of the suite -/
def tCallPG (sp : Addr × Obj → Sp) (a : Addr) (cls : Value) (d : Option Addr) (t : TA) : TE := fun σ H Q => t σ H fun vs H1 => ∀ oe, L2N.Zn cls d oe → (∃ vs, oe.data = .fields vs) → sp (a, oe) vs H1 Q (fun _ _ _ => False)
open L2H PyProof.Rows in
theorem pe_callPG {X : Cx} {k : Nat} {ps : List Str} {sp : Addr × Obj → Sp} {x : Str} {q pos : Pos} {e : Expr} {es : List Expr} {t : TA} {a : Addr} {oe : Obj} {cls : Value} {d : Option Addr} (F : HasP X.prog X.w X.K X.mg X.base k x ps sp) (hr : RoomH k X.A) (hot : Hot1 X.A (a, oe)) (hz : L2N.Zn cls d oe) (hf : ∃ vs, oe.data = .fields vs) (hp : (a, oe) ∈ X.pn) (hg : Gl X x) (ha : PA X (e :: es) t)
    (hdb : (x == ("__debug__" : Str)) = false := by decide) (he : starEach (e :: es) X.env = (false, eval e X.env) :: starEach es X.env := by rfl) (hpl : (backTo pos (starEach es X.env)).any (·.1) = false := by rfl) : PE X (.Call (.Name x q) (e :: es) [] pos) (tCallPG sp a cls d t) := by
  obtain ⟨f, fd, F, hm, hk, hb⟩ := F.ex
  refine ⟨fun pins s σ H Q I h => wpAny_Call_Name_kw (ld_glob I hg hm (PySem.W.callWith_K (h₀ := X.base) I.ok.mod.kin hk (thn (ha.run pos pins s σ H _ I h) fun us s1 ⟨vs, H1, I1, r, q⟩ => ⟨I1.kIn, ?_⟩) he hpl) hdb)⟩
  have q := q oe hz hf
  have b := hb s1 us I1.kIn (by rw [List.append_nil, ← r.length]; exact F.len _ _ _ _ _ q)
  rw [List.append_nil] at b
  have P1 := I1.pin (a, oe) (List.mem_append_left _ hp)
  show wpAny _ _ (call (.ref f) us) _ _ _
  refine wpAny_call (codeAny_mono (F.run X.A X.stack s1 H1 us vs Q (fun _ _ _ => False) (a, oe) hr hot ⟨P1.1, P1.2.1, fun hm => (List.mem_cons.mp (I1.stkSub a hm)).elim P1.2.2.1 P1.2.2.2.1, P1.2.2.2.2⟩ I1.env0 b r q) fun r s' hq => ?_)
  cases r with
  | error e => exact hq.elim
  | ok fl =>
    cases fl with
    | ret u => exact I1.after hq
    | next => exact hq.elim
    | brk => exact hq.elim
    | cont => exact hq.elim

/-! ### the law -/
def rSlU (K : PySem.W.Frag) : V → Option Int → Option Int → Hp → VK → Prop := fun x lo hi H Q => ∃ a xs, x = .ref a ∧ SqT K H a xs ∧ ∀ p H', Same H H' → SqT K H' p (cutV xs lo hi) → Q (.ref p) H'
theorem sl_tupU {X : Cx} : SlR X (rSlU X.K) := by
  intro pins s σ H x v vl vu lo hi sl Q I rx hs pl pu h
  obtain ⟨a, xs, rfl, hx, k⟩ := h
  refine sl_tupA pins s σ H _ v vl vu lo hi sl Q I rx hs pl pu ⟨a, xs, rfl, hx, fun hw => k a H (Same.refl _) ?_, fun _ p hp => k p _ (same_new hp) (SqT.of upd_same)⟩
  have e : cutV xs lo hi = xs := by
    unfold cutV
    rw [hw.1, hw.2, List.drop_zero, Nat.sub_zero, List.take_length]
  rw [e]
  exact hx
def rCatV (K : PySem.W.Frag) : R2 := fun x y H Q => ∃ a b xs ys, x = .ref a ∧ y = .ref b ∧ SqT K H a xs ∧ SqT K H b ys ∧ xs.length + ys.length ≤ sizeLine ∧ ∀ p H', Same H H' → SqT K H' p (xs ++ ys) → Q (.ref p) H'
theorem op_catV {X : Cx} : OpR X (binaryOp .Add) (rCatV X.K) := fun pins s σ H x y v u Q I rx ry ⟨a, b, xs, ys, e1, e2, q1, q2, sz, k⟩ =>
  op_catA pins s σ H x y v u Q I rx ry ⟨a, b, xs, ys, e1, e2, q1, q2, sz, fun e => k b H (Same.refl _) (by rw [e]; exact q2), fun _ e => k a H (Same.refl _) (by rw [e, List.append_nil]; exact q1), fun _ _ p hp => k p _ (same_new hp) (SqT.of upd_same)⟩

/-! ### the errors of names: check_unlike with both answers -/
inductive Er where
  | dup (x : Str) | unk (x : Str) | arg (p : Nat) | fin (p : Nat)
def erI : Er → Nat
  | .dup _ => 3 | .unk _ => 4 | .arg _ => 5 | .fin _ => 6
def erF : Er → List (Str × V)
  | .dup x => [("name", .str x)] | .unk x => [("name", .str x)] | .arg p => [("place", .int (p : Int))] | .fin p => [("place", .int (p : Int))]
/-- an error leaves, or all goes on -/
def ResE (C' : Nat → Addr) (H : Hp) (Q : Hp → Prop) (E : XK) : Option Er → Prop
  | none => ∀ H', Same H H' → Q H'
  | some e => ∀ d H', Same H H' → H' d = none → E (.ref (C' (erI e))) (some d) (upd H' d (.xd (erF e)))
/-- the first name that stands there for the second time -/
def dupF : List Str → List Str → Option Str
  | _, [] => none
  | seen, x :: r => if x ∈ seen then some x else dupF (seen ++ [x]) r
def dupO (l : List Str) : Option Str := dupF [] l
theorem dupF_none : ∀ {r seen : List Str}, dupF seen r = none → seen.Nodup → (seen ++ r).Nodup
  | [], seen, _, h => by rw [List.append_nil]; exact h
  | x :: r, seen, h, nd => by
    unfold dupF at h
    split at h
    · cases h
    · rename_i hx
      have := dupF_none h (by
        rw [List.nodup_append]
        exact ⟨nd, by simp, fun a ha b hb => by rw [List.mem_singleton.mp hb]; intro z; exact hx (z ▸ ha)⟩)
      rw [List.append_assoc] at this
      exact this
theorem dupO_none {l : List Str} (h : dupO l = none) : l.Nodup := by
  have := dupF_none h List.nodup_nil
  rwa [List.nil_append] at this
abbrev sUnX : Stmt := topS 55
abbrev NUnX : List Str := ["names", "at", "one"]
abbrev PUnX : List Str := ["names"]
theorem scUnX : FnScope NUnX PUnX (defScope sUnX) := ⟨rfl, rfl, rfl, by decide +kernel, rfl, by decide +kernel, by decide +kernel⟩
def spUnX (K : PySem.W.Frag) (C' : Nat → Addr) : Sp := fun vs H Q E => ∃ (q : Addr) (l : List Str), vs = [.ref q] ∧ SqL K H q (l.map V.str) ∧ ResE C' H (fun H' => Q .non H') E ((dupO l).map Er.dup)
section
variable {P : Program} {w : World} {K : PySem.W.Frag} {mg : Str → Option Value} {base : Heap} {C' : Nat → Addr}
theorem ok_UnX {f : Addr} {fd : FuncData} (F : Fun K "check_unlike" "check_unlike" sUnX f fd) (T : TxChk mg) (X : ErrH P w K mg base C') : FnOk P w K mg base (L2N.CX P w) 3 f fd PUnX (spUnX K C') := by
  refine Fun.okN F scUnX (fun vs H Q E h => ?_) (fun cdv A outer sh H vs Q E hr h => ?_)
  · obtain ⟨q, l, rfl, _⟩ := h
    rfl
  · obtain ⟨q, l, rfl, hq, h⟩ := h
    have tk := L2N.takes_of (X := cxOf (L2N.CX P w) P w K mg base NUnX "check_unlike" (defScope sUnX) f cdv A outer sh H E) (E := E) rfl rfl rfl rfl
    refine ⟨_, (pss_one (ps_for (passes_of rfl) rfl (pi_enum (by rfl) T.n_enumerate (pa_cons (pv 0) pa_nil)) (pg_tup (by rfl) (pgs_cons (pg_name (i := 1) scUnX.nd rfl (Or.inl rfl)) (pgs_cons (pg_name (i := 2) scUnX.nd rfl (Or.inl rfl)) pgs_nil)))
  (pss_one (ps_if (pt_cmpR op_in_seq (pv 2) (pe_slice sl_list (pv 0) po_none (po_some (pv 1))) (by rfl))
  (pss_one (ps_raiseX rfl tk X.h3 (hr.mono (by decide)) rfl (pa_cons (pv 2) pa_nil)))
  pss_nil)))), ?_⟩
    refine ⟨_, rfl, q, _, rfl, hq, ?_⟩
    refine for_it (walk_enum (K := K) (a := q) (xs := l.map V.str)) (fun j σ H' => dupO l = dupF (l.take j) (l.drop j) ∧ ∃ x1 x2 : Option V, σ = [some (.ref q), x1, x2] ∧ Same H H') ⟨rfl, _, _, rfl, Same.refl _⟩ (fun j σ H' _ h' => by obtain ⟨_, _, _, _, s'⟩ := h'; exact s'.seq hq) ?_ ?_
    · rintro j x σ H1 H2 hj ⟨hd, x1, x2, rfl, s1⟩ ⟨T, x, y, rfl, hT, rfl, gx, gy⟩
      have hj : j < l.length := by rwa [List.length_map] at hj
      obtain ⟨nm, hnm⟩ : ∃ nm, l[j]? = some nm := ⟨_, List.getElem?_eq_getElem hj⟩
      simp only at gx gy
      rw [List.getElem?_map, hnm] at gy
      simp only [Option.map_some, Option.some.injEq] at gx gy
      subst gx gy
      have s2 := s1.trans (same_new (o := .tup [V.int (j : Nat), V.str nm]) hT)
      refine ⟨T, _, rfl, SqT.of upd_same, rfl, _, _, rfl, _, _, rfl, rfl, ?_⟩
      refine ⟨_, rfl, _, rfl, _, rfl, _, rfl, q, _, rfl, s2.seq hq, fun p hp => ?_⟩
      rw [cut_take]
      have s3 := s2.trans (same_new (o := .lst ((l.map V.str).take j)) hp)
      rw [show l.drop j = nm :: l.drop (j + 1) from by rw [List.drop_eq_getElem_cons hj, (List.getElem?_eq_some_iff.mp hnm).2]] at hd
      refine ⟨p, _, rfl, .inl (SqL.of upd_same), rfl, by rw [← List.map_take]; exact flat_strs _, _, rfl, ite2 (fun hc => ?_) (fun hc => ?_)⟩
      · rw [← List.map_take, inV_mem] at hc
        have hd : dupO l = some nm := by rw [hd]; unfold dupF; rw [if_pos (of_decide_eq_true hc)]
        rw [hd] at h
        exact ⟨_, rfl, _, rfl, fun d hdn => h d _ s3 hdn⟩
      · rw [← List.map_take, inV_mem] at hc
        refine ⟨?_, _, _, rfl, s3⟩
        rw [hd]
        conv => lhs; unfold dupF
        rw [if_neg (fun z => hc (decide_eq_true z)), take_snoc hnm]
    · rintro σ H1 ⟨hd, x1, x2, rfl, s1⟩
      rw [List.length_map] at hd
      rw [List.drop_length] at hd
      rw [show dupO l = none from hd] at h
      exact h _ s1
end

/-! ### fits with both answers -/
abbrev sFiX : Stmt := topS 58
abbrev NFiX : List Str := ["tree", "callee", "args", "name", "params", "block", "one", "by_place", "word"]
abbrev PFiX : List Str := ["tree", "callee", "args"]
theorem scFiX : FnScope NFiX PFiX (defScope sFiX) := ⟨rfl, rfl, rfl, by decide +kernel, rfl, by decide +kernel, by decide +kernel⟩
def fitB (t : Tr) (callee : Str) (as : List Arg) : Bool := match t.fns.find? (fun f => f.name = callee) with
  | some f => decide (f.ps.map Prod.snd = as.map isPl)
  | none => false
def spFiX (K : PySem.W.Frag) : Sp := fun vs H Q _ => ∃ (v u : V) (t : Tr) (c : Str) (as : List Arg), vs = [v, .str c, u] ∧ Dp K H v (trD t) ∧ Dp K H u (.tuple (as.map argD)) ∧ as.length ≤ 900 ∧ (∀ f ∈ t.fns, f.ps.length ≤ 900) ∧ ∀ H', Same H H' → Q (.bl (fitB t c as)) H'
theorem eqv_bool_list : ∀ a b : List Bool, PyData.eqvAll (a.map .bool) (b.map .bool) = decide (a = b)
  | [], [] => by simp [PyData.eqvAll]
  | [], y :: b => by simp [PyData.eqvAll]
  | x :: a, [] => by simp [PyData.eqvAll]
  | x :: a, y :: b => by
    simp only [List.map_cons, PyData.eqvAll, PyData.eqv, eqv_bool_list a b, List.cons.injEq, Bool.decide_and]
    cases x <;> cases y <;> rfl
theorem eqv_boolsB (a b : List Bool) : PyData.eqv (.list (a.map PyData.bool)) (.list (b.map PyData.bool)) = decide (a = b) := by
  simp only [PyData.eqv, eqv_bool_list]
theorem find_at {l : List Fn} {cl : Str} {fn : Fn} {j : Nat} (h : l[j]? = some fn) (e : fn.name = cl) (no : ∀ i g, i < j → l[i]? = some g → g.name ≠ cl) : l.find? (fun f => f.name = cl) = some fn := by
  obtain ⟨hj, hg⟩ := List.getElem?_eq_some_iff.mp h
  rw [List.find?_eq_some_iff_getElem]
  refine ⟨decide_eq_true e, j, hj, hg, fun i hi => ?_⟩
  have := no i l[i] hi (List.getElem?_eq_getElem (by omega))
  simpa using this
theorem find_no {l : List Fn} {cl : Str} (no : ∀ g ∈ l, g.name ≠ cl) : l.find? (fun f => f.name = cl) = none := by
  rw [List.find?_eq_none]
  intro g hg
  simpa using no g hg
section
variable {P : Program} {w : World} {K : PySem.W.Frag} {mg : Str → Option Value} {base : Heap}
theorem ok_FiX {f : Addr} {fd : FuncData} (F : Fun K "fits" "fits" sFiX f fd) : FnOk P w K mg base CX0 1 f fd PFiX (spFiX K) := by
  refine F.ok scFiX (fun vs H Q E h => ?_) (fun cdv A outer s H vs Q E hr h => ?_)
  · obtain ⟨q, l, _, _, _, rfl, _⟩ := h
    rfl
  · obtain ⟨v, u, t, cl, as, rfl, hv, hu, la, lps, k⟩ := h
    refine ⟨_, (pss_cons (ps_for PassesOwn.never rfl (pi_tup (pe_ix (r := rIxT K) ix_tup (pv 0) pe_int (fun _ _ => rfl))) (pg_tup (by rfl) (pgs_cons (pg_name (i := 3) scFiX.nd rfl (Or.inl rfl)) (pgs_cons (pg_name (i := 4) scFiX.nd rfl (Or.inl rfl)) (pgs_cons (pg_name (i := 5) scFiX.nd rfl (Or.inl rfl)) pgs_nil))))
  (pss_one (ps_if (pt_cmpR op_eq (pv 3) (pv 1) (nomark _))
  (pss_one (ps_ret (pe_cmpR (op_eqD hr.units) (pe_lc (own := [("one", 6), ("by_place", 7)]) (g := gTup K 2 (gCons (gName 6) (gCons (gName 7) gNil))) (tt := tYes) rfl scFiX.nd (pi_tup (pv 4)) (blkOk_by (own := [("one", 6), ("by_place", 7)]) (N := NFiX) (sc := (defScope sFiX)) (by decide +kernel)) (fun _ _ _ _ _ => (pg_tup (by rfl) (pgs_cons (pg_name (i := 6) scFiX.nd rfl (Or.inl rfl)) (pgs_cons (pg_name (i := 7) scFiX.nd rfl (Or.inl rfl)) pgs_nil)))) (fun _ _ _ _ _ => pts_nil) (fun _ _ _ _ _ => (pv 7))) (pe_lc (own := [("word", 8), ("one", 6)]) (g := gTup K 2 (gCons (gName 8) (gCons (gName 6) gNil))) (tt := tYes) rfl scFiX.nd (pi_tup (pv 2)) (blkOk_by (own := [("word", 8), ("one", 6)]) (N := NFiX) (sc := (defScope sFiX)) (by decide +kernel)) (fun _ _ _ _ _ => (pg_tup (by rfl) (pgs_cons (pg_name (i := 8) scFiX.nd rfl (Or.inl rfl)) (pgs_cons (pg_name (i := 6) scFiX.nd rfl (Or.inl rfl)) pgs_nil)))) (fun _ _ _ _ _ => pts_nil) (fun _ _ _ _ _ => (pe_cmpR op_eq (pv 8) pe_str (nomark _)))) (nomark _))))
  pss_nil)))
  (pss_one (ps_ret pe_bl))), ?_⟩
    have hv : Dp K H v (.tuple [nmD t.names, nmD t.kinds, .tuple (t.keeps.map exD), .tuple (t.fns.map fnD)]) := hv
    obtain ⟨a, xs, rfl, hq, hd⟩ := hv.tupInv
    obtain ⟨x0, x1, x2, uu, rfl, _, _, _, hx⟩ := hd.four
    obtain ⟨g, gs, rfl, hg, hgd⟩ := hx.tupInv
    have pf := DpAll.map hgd
    obtain ⟨b, ys, rfl, hb, hbd⟩ := hu.tupInv
    have pa := DpAll.map hbd
    have ly : ys.length = as.length := Paired.length pa
    refine ⟨_, rfl, a, _, _, _, rfl, rfl, hq, rfl, g, rfl, ⟨_, hg⟩, ?_⟩
    refine for_tup (K := K) (a := g) (xs := gs) (fun j σ H' => (∀ i g, i < j → t.fns[i]? = some g → g.name ≠ cl) ∧ Same H H' ∧ ∃ x3 x4 x5 : Option V, σ = [some (.ref a), some (.str cl), some (.ref b), x3, x4, x5, none, none, none]) ⟨fun i g hi _ => absurd hi (Nat.not_lt_zero _), Same.refl _, none, none, none, rfl⟩ (fun j σ H' _ h' => SqT.same h'.2.1 hg) ?_ ?_
    · rintro j x σ H1 hx ⟨hno, s1, x3, x4, x5, rfl⟩
      obtain ⟨fn, hfn, hfd⟩ := Paired.at pf hx
      have hfd : Dp K H x (.tuple [.str fn.name, .tuple (fn.ps.map prD), blD fn.b]) := hfd
      obtain ⟨c, zs, rfl, hc, hcd⟩ := hfd.tupInv
      obtain ⟨u1, u2, u3, rfl, h1, h2, h3⟩ := hcd.three
      obtain ⟨p, ps, rfl, hp, hpd⟩ := h2.tupInv
      have pp := DpAll.map hpd
      have lp : ps.length = fn.ps.length := Paired.length pp
      rw [h1.strInv] at hc
      refine ⟨c, _, rfl, SqT.same s1 hc, rfl, _, _, rfl, _, _, rfl, _, _, rfl, rfl, ?_⟩
      refine ⟨_, rfl, _, rfl, rfl, _, rfl, ?_⟩
      by_cases e : fn.name = cl
      · refine iteS (decide_eq_true (by rw [e])) ?_
        have lf := lps fn (List.mem_of_getElem? hfn)
        have efit : fitB t cl as = decide (fn.ps.map Prod.snd = as.map isPl) := by
          unfold fitB
          rw [find_at hfn e hno]
        refine ⟨_, rfl, p, rfl, ⟨_, SqT.same s1 hp⟩, fun D hD => ?_⟩
        refine lc_tup (K := K) (a := p) (xs := ps) (fun i H' => Same H1 H' ∧ H' D = some (.lst (((fn.ps.take i).map Prod.snd).map V.bl))) ⟨same_new hD, upd_same⟩ (fun i H' _ h' => SqT.same (s1.trans h'.1) hp) ?_ ?_
        · rintro i z H2 hz ⟨s2, eD⟩
          obtain ⟨pr, ht, htd⟩ := Paired.at pp hz
          have htd : Dp K H z (.tuple [.str pr.1, .bool pr.2]) := htd
          obtain ⟨d, zs, rfl, hd, hdd⟩ := htd.tupInv
          obtain ⟨u, w, rfl, hu, hw⟩ := hdd.two
          rw [hu.strInv, Dp.blInv hw] at hd
          have hi : i < ps.length := (List.getElem?_eq_some_iff.mp hz).1
          refine ⟨d, _, rfl, SqT.same (s1.trans s2) hd, rfl, _, _, rfl, _, _, rfl, rfl, rfl, _, rfl, _, eD, small1000 (by rw [List.length_map, List.length_map, List.length_take]; omega), fun c o z => ?_, ?_⟩
          · rw [upd_ne (ne_of_none z hD)]
            exact s2 _ _ z
          · rw [upd_same, take_snoc ht, List.map_append, List.map_append]
            rfl
        · rintro H2 ⟨s2, eD⟩
          rw [lp, List.take_length] at eD
          have s3 := s1.trans s2
          refine ⟨_, rfl, b, rfl, ⟨_, SqT.same s3 hb⟩, fun D2 hD2 => ?_⟩
          refine lc_tup (K := K) (a := b) (xs := ys) (fun i H' => Same H2 H' ∧ H' D2 = some (.lst (((as.take i).map isPl).map V.bl))) ⟨same_new hD2, upd_same⟩ (fun i H' _ h' => SqT.same (s3.trans h'.1) hb) ?_ ?_
          · rintro i z H4 hz ⟨s4, eD2⟩
            obtain ⟨g2, hg, hgd⟩ := Paired.at pa hz
            have hi : i < ys.length := (List.getElem?_eq_some_iff.mp hz).1
            have fin : (((as.take i).map isPl).map V.bl).length < sizeLine ∧ Same H2 (upd H4 D2 (.lst (((as.take i).map isPl).map V.bl ++ [.bl (isPl g2)]))) ∧ upd H4 D2 (.lst (((as.take i).map isPl).map V.bl ++ [.bl (isPl g2)])) D2 = some (.lst (((as.take (i + 1)).map isPl).map V.bl)) := by
              refine ⟨small1000 (by rw [List.length_map, List.length_map, List.length_take]; omega), fun c o z => ?_, ?_⟩
              · rw [upd_ne (ne_of_none z hD2)]
                exact s4 _ _ z
              · rw [upd_same, take_snoc hg, List.map_append, List.map_append]
                rfl
            cases g2 with
            | place n =>
              have hgd : Dp K H z (.tuple [.str "place", .str n]) := hgd
              obtain ⟨d, zs, rfl, hd, hdd⟩ := hgd.tupInv
              obtain ⟨u, w, rfl, hu, hw⟩ := hdd.two
              rw [hu.strInv] at hd
              refine ⟨d, _, rfl, SqT.same (s3.trans s4) hd, rfl, _, _, rfl, _, _, rfl, rfl, rfl, _, rfl, rfl, _, eD2, fin.1, ?_⟩
              rw [decide_eq_true rfl]
              exact fin.2
            | value n =>
              have hgd : Dp K H z (.tuple [.str "value", exD n]) := hgd
              obtain ⟨d, zs, rfl, hd, hdd⟩ := hgd.tupInv
              obtain ⟨u, w, rfl, hu, hw⟩ := hdd.two
              rw [hu.strInv] at hd
              refine ⟨d, _, rfl, SqT.same (s3.trans s4) hd, rfl, _, _, rfl, _, _, rfl, rfl, rfl, _, rfl, rfl, _, eD2, fin.1, ?_⟩
              rw [decide_eq_false (by decide +kernel)]
              exact fin.2
          · rintro H4 ⟨s4, eD2⟩
            rw [ly, List.take_length] at eD2
            refine ⟨_, _, .lst (SqL.of (s4 _ _ eD)) (dp_bools _), .lst (SqL.of eD2) (dp_bools _), shaped_bools _, shaped_bools _, ?_⟩
            rw [eqv_boolsB, ← efit]
            exact k _ (s3.trans s4)
      · refine iteE (decide_eq_false (fun z => e (by injection z))) ?_
        refine ⟨fun i g hi hg => ?_, s1, _, _, _, rfl⟩
        rcases Nat.lt_or_ge i j with z | z
        · exact hno i g z hg
        · rw [show i = j by omega, hfn] at hg
          injection hg with hg
          rw [← hg]
          exact e
    · rintro σ H1 ⟨hno, s1, x3, x4, x5, rfl⟩
      have efit : fitB t cl as = false := by
        unfold fitB
        rw [find_no fun g hg => ?_]
        obtain ⟨i, hi⟩ := List.mem_iff_getElem?.mp hg
        exact hno i g (by rw [Paired.length pf]; exact (List.getElem?_eq_some_iff.mp hi).1) hi
      rw [efit] at k
      exact k _ s1
end

/-! ### check_statement -/
abbrev sChT : Stmt := topS 59
abbrev NChT : List Str := ["tree", "known", "place", "statement", "word", "name", "target", "callee", "args", "enter", "leave", "kinds", "block", "handlers", "final", "number", "inner"]
abbrev PChT : List Str := ["tree", "known", "place", "statement"]
theorem scChT : FnScope NChT PChT (defScope sChT) := ⟨rfl, rfl, rfl, by decide +kernel, rfl, by decide +kernel, by decide +kernel⟩
def knG (vs ks fs : List Str) (w : Str) : List Str := if w = wv then vs else if w = wk then ks else fs
/-- the dict of the known names -/
def KnAt (K : PySem.W.Frag) (H : Hp) (v : V) (vs ks fs : List Str) : Prop := ∃ d qv qk qf, v = .ref d ∧ H d = some (.dK [(.inr wv, .ref qv), (.inr wk, .ref qk), (.inr wf, .ref qf)]) ∧ H qv = some (.lst (vs.map V.str)) ∧ SqT K H qk (ks.map V.str) ∧ H qf = some (.lst (fs.map V.str))
theorem KnAt.same {K : PySem.W.Frag} {H H' : Hp} (s : Same H H') {v : V} {vs ks fs : List Str} (h : KnAt K H v vs ks fs) : KnAt K H' v vs ks fs :=
  let ⟨d, qv, qk, qf, e, h1, h2, h3, h4⟩ := h
  ⟨d, qv, qk, qf, e, s _ _ h1, s _ _ h2, SqT.same s h3, s _ _ h4⟩
def badF (s : St) : Bool := match s with
  | .whl _ => true | .try_ _ _ _ => true | .undo _ _ => true | .with_ _ _ _ _ => true | .ret _ => true
  | _ => false
section
variable {P : Program} {w : World} {K : PySem.W.Frag} {mg : Str → Option Value} {base : Heap}
theorem kn_get {K : PySem.W.Frag} {H : Hp} {v : V} {vs ks fs : List Str} (h : KnAt K H v vs ks fs) {w : Str} (hw : w = wv ∨ w = wk ∨ w = wf) : ∃ d q, v = .ref d ∧ DGet H d (.str w) (some (.ref q)) ∧ (SqL K H q ((knG vs ks fs w).map V.str) ∨ SqT K H q ((knG vs ks fs w).map V.str)) := by
  obtain ⟨d, qv, qk, qf, rfl, h1, h2, h3, h4⟩ := h
  rcases hw with rfl | rfl | rfl
  · exact ⟨d, qv, rfl, .inl ⟨_, .inr wv, Rd.of h1, rfl, by kernel_rfl⟩, .inl (SqL.of h2)⟩
  · exact ⟨d, qk, rfl, .inl ⟨_, .inr wk, Rd.of h1, rfl, by kernel_rfl⟩, .inr h3⟩
  · exact ⟨d, qf, rfl, .inl ⟨_, .inr wf, Rd.of h1, rfl, by kernel_rfl⟩, .inl (SqL.of h4)⟩
end

/-! ### check_statement with both answers -/
abbrev sChX : Stmt := topS 59
abbrev NChX : List Str := ["tree", "known", "place", "statement", "word", "name", "target", "callee", "args", "enter", "leave", "kinds", "block", "handlers", "final", "number", "inner"]
abbrev PChX : List Str := ["tree", "known", "place", "statement"]
theorem scChX : FnScope NChX PChX (defScope sChX) := ⟨rfl, rfl, rfl, by decide +kernel, rfl, by decide +kernel, by decide +kernel⟩
def unkN (kn : Str → List Str) (l : List (Str × Str)) : Option Str := (l.find? fun q => decide (q.2 ∉ kn q.1)).map Prod.snd
def stE (t : Tr) (vn ks fs : List Str) (pl : Nat) (st : St) : Option Er := match unkN (knG vn ks fs) (namedS st) with
  | some x => some (.unk x)
  | none => match st with
    | .call _ g as => if fitB t g as then none else some (.arg pl)
    | .with_ e l _ _ => if fitB t e.1 e.2 && fitB t l.1 l.2 then none else some (.arg pl)
    | .try_ _ _ f => if (allB f 0).any (fun p => badF p.2) then some (.fin pl) else none
    | _ => none
def spChX (K : PySem.W.Frag) (C' : Nat → Addr) (n : Nat) : Sp := fun vs H Q E => ∃ (v kn u : V) (pl : Nat) (t : Tr) (vn ks fs : List Str) (st : St), vs = [v, kn, .int (pl : Int), u] ∧ Dp K H v (trD t) ∧ KnAt K H kn vn ks fs ∧ Dp K H u (stD st) ∧ okS st ∧ dpS st ≤ n ∧ szS st ≤ 900 ∧ (namedS st).length ≤ 900 ∧
  (∀ f ∈ t.fns, f.ps.length ≤ 900) ∧ ResE C' H (fun H' => Q .non H') E (stE t vn ks fs pl st)
theorem unk_at {kn : Str → List Str} {l : List (Str × Str)} {i : Nat} {wd nm : Str} (h : l[i]? = some (wd, nm)) (q : nm ∉ kn wd) (no : ∀ j q, j < i → l[j]? = some q → q.2 ∈ kn q.1) : unkN kn l = some nm := by
  obtain ⟨hi, hg⟩ := List.getElem?_eq_some_iff.mp h
  unfold unkN
  have e : l.find? (fun q => decide (q.2 ∉ kn q.1)) = some (wd, nm) := by
    rw [List.find?_eq_some_iff_getElem]
    refine ⟨decide_eq_true q, i, hi, hg, fun j hj => ?_⟩
    have := no j l[j] hj (List.getElem?_eq_getElem (by omega))
    simpa using this
  rw [e]
  rfl
theorem unk_no {kn : Str → List Str} {l : List (Str × Str)} (no : ∀ q ∈ l, q.2 ∈ kn q.1) : unkN kn l = none := by
  unfold unkN
  rw [List.find?_eq_none.mpr fun q hq => by simpa using no q hq]
  rfl
theorem named_word (st : St) : ∀ q ∈ namedS st, q.1 = wv ∨ q.1 = wk ∨ q.1 = wf := by
  intro q hq
  have mp : ∀ {α : Type} (l : List α) (w : Str) (f : α → Str), (w = wv ∨ w = wk ∨ w = wf) → q ∈ l.map (fun n => (w, f n)) → q.1 = wv ∨ q.1 = wk ∨ q.1 = wf := fun l w f hw h => by
    obtain ⟨n, _, rfl⟩ := List.mem_map.mp h
    exact hw
  have ca : ∀ (g : Str) (as : List Arg), q ∈ ((wf, g) :: (argsN as).map fun n => (wv, n)) → q.1 = wv ∨ q.1 = wk ∨ q.1 = wf := fun g as h => by
    rcases List.mem_cons.mp h with rfl | h
    · exact .inr (.inr rfl)
    · exact mp _ wv id (.inl rfl) h
  cases st with
  | set x e => exact mp e.ts wv Prod.fst (.inl rfl) hq
  | ret e => exact mp e.ts wv Prod.fst (.inl rfl) hq
  | call x g as => exact ca g as hq
  | risk ks => exact mp ks wk id (.inr (.inl rfl)) hq
  | raise k =>
    rw [show q = (wk, k) from List.mem_singleton.mp hq]
    exact .inr (.inl rfl)
  | try_ b hs f =>
    obtain ⟨h, _, hq⟩ := List.mem_flatMap.mp (show q ∈ hs.flatMap fun h => h.ks.map fun n => (wk, n) from hq)
    exact mp _ wk id (.inr (.inl rfl)) hq
  | undo ns b => exact mp ns wv id (.inl rfl) hq
  | with_ e l ks b =>
    rcases List.mem_append.mp (show q ∈ (((wf, e.1) :: (argsN e.2).map fun n => (wv, n)) ++ ((wf, l.1) :: (argsN l.2).map fun n => (wv, n))) ++ ks.map fun n => (wk, n) from hq) with h | h
    · rcases List.mem_append.mp h with h | h
      · exact ca _ _ h
      · exact ca _ _ h
    · exact mp ks wk id (.inr (.inl rfl)) h
  | _ => nomatch hq
section
variable {P : Program} {w : World} {K : PySem.W.Frag} {mg : Str → Option Value} {base : Heap} {C' : Nat → Addr}
theorem ok_ChX {n : Nat} {f : Addr} {fd : FuncData} (F : Fun K "check_statement" "check_statement" sChX f fd) (GN : Has P w K mg base CX0 3 "named_in" PNmI (spNmI K 2)) (X : ErrH P w K mg base C') (GF : Has P w K mg base CX0 1 "fits" PFiX (spFiX K)) (GA : Has P w K mg base CX0 (4 + n) "all_numbered" PAllN (spAllN K n)) : FnOk P w K mg base (L2N.CX P w) (4 + n + 1) f fd PChX (spChX K C' n) := by
  refine Fun.okN F scChX (fun vs H Q E h => ?_) (fun cdv A outer sh H vs Q E hr h => ?_)
  · obtain ⟨_, _, _, _, _, _, _, _, _, rfl, _⟩ := h
    rfl
  · obtain ⟨v, kn, u, pl, t, vn, ks, fs, st, rfl, hv, hk, hu, oks, dps, szs, ln, lps, h⟩ := h
    have tk := L2N.takes_of (X := cxOf (L2N.CX P w) P w K mg base NChX "check_statement" (defScope sChX) f cdv A outer sh H E) (E := E) rfl rfl rfl rfl
    have hu0 := hu_of hr
    have hr1 := hr.mono (j := 1) (by omega)
    have hr3 := hr.mono (j := 3) (by omega)
    refine ⟨_, (pss_cons (ps_for (passes_of rfl) rfl (pi_list (pe_callH GN hr3 rfl pass0 (pa_cons (pv 3) pa_nil))) (pg_tup (by rfl) (pgs_cons (pg_name (i := 4) scChX.nd rfl (Or.inl rfl)) (pgs_cons (pg_name (i := 5) scChX.nd rfl (Or.inl rfl)) pgs_nil)))
  (pss_one (ps_if (pt_cmpR op_notIn_seq (pv 5) (pe_dget hu0 (pv 1) (pv 4) (fun _ _ => rfl)) (by rfl))
  (pss_one (ps_raiseX rfl tk X.h4 (hr.mono (j := 2) (by omega)) rfl (pa_cons (pv 5) pa_nil)))
  pss_nil)))
  (pss_one (ps_match (pv 3) (pcs_cons scChX.nd (pm_seq rfl (pms_cons pm_str (pms_cons (pm_as (i := 6) rfl (Or.inl rfl)) (pms_cons (pm_as (i := 7) rfl (Or.inl rfl)) (pms_cons (pm_as (i := 8) rfl (Or.inl rfl)) pms_nil)))))
  (pss_one (ps_if (pt_not (pt_val (pe_callH GF hr1 rfl pass0 (pa_cons (pv 0) (pa_cons (pv 7) (pa_cons (pv 8) pa_nil))))))
  (pss_one (ps_raiseX rfl tk X.h5 (hr.mono (j := 2) (by omega)) rfl (pa_cons (pv 2) pa_nil)))
  pss_nil))
  (pcs_cons scChX.nd (pm_seq rfl (pms_cons pm_str (pms_cons (pm_as (i := 9) rfl (Or.inl rfl)) (pms_cons (pm_as (i := 10) rfl (Or.inl rfl)) (pms_cons (pm_as (i := 11) rfl (Or.inl rfl)) (pms_cons (pm_as (i := 12) rfl (Or.inl rfl)) pms_nil))))))
  (pss_one (ps_if (PW.pt (pw_or (pt_not (pt_val (pe_callH GF hr1 rfl pass0 (pa_cons (pv 0) (pa_cons (pe_ix (r := rIxT K) ix_tup (pv 9) pe_int (fun _ _ => rfl)) (pa_cons (pe_ix (r := rIxT K) ix_tup (pv 9) pe_int (fun _ _ => rfl)) pa_nil)))))) (pw_or1 (pt_not (pt_val (pe_callH GF hr1 rfl pass0 (pa_cons (pv 0) (pa_cons (pe_ix (r := rIxT K) ix_tup (pv 10) pe_int (fun _ _ => rfl)) (pa_cons (pe_ix (r := rIxT K) ix_tup (pv 10) pe_int (fun _ _ => rfl)) pa_nil)))))))))
  (pss_one (ps_raiseX rfl tk X.h5 (hr.mono (j := 2) (by omega)) rfl (pa_cons (pv 2) pa_nil)))
  pss_nil))
  (pcs_cons scChX.nd (pm_seq rfl (pms_cons pm_str (pms_cons (pm_as (i := 12) rfl (Or.inl rfl)) (pms_cons (pm_as (i := 13) rfl (Or.inl rfl)) (pms_cons (pm_as (i := 14) rfl (Or.inl rfl)) pms_nil)))))
  (pss_one (ps_for (passes_of rfl) rfl (pi_list (pe_callH GA hr rfl pass0 (pa_cons (pv 14) (pa_cons pe_int pa_nil)))) (pg_tup (by rfl) (pgs_cons (pg_name (i := 15) scChX.nd rfl (Or.inl rfl)) (pgs_cons (pg_name (i := 16) scChX.nd rfl (Or.inl rfl)) pgs_nil)))
  (pss_one (ps_if (pt_cmpR op_in_seq (pe_ix (r := rIxT K) ix_tup (pv 16) pe_int (fun _ _ => rfl)) (pe_tup (pa_cons pe_str (pa_cons pe_str (pa_cons pe_str (pa_cons pe_str (pa_cons pe_str pa_nil)))))) (by rfl))
  (pss_one (ps_raiseX rfl tk X.h6 (hr.mono (j := 2) (by omega)) rfl (pa_cons (pv 2) pa_nil)))
  pss_nil))))
  pcs_nil)))))), ?_⟩
    have rk : rkS st ≤ 2 := by cases st <;> simp [rkS]
    refine ⟨_, rfl, u, st, rfl, hu, oks, rk, ln, fun L ls H1 s1 nL eL pL => ?_⟩
    refine ⟨L, rfl, ⟨_, SqL.of eL⟩, ?_⟩
    refine for_list (K := K) (a := L) (xs := ls) (fun i σ H' => H' = H1 ∧ (∀ j q, j < i → (namedS st)[j]? = some q → q.2 ∈ knG vn ks fs q.1) ∧ ∃ x4 x5 : Option V, σ = [some v, some kn, some (.int (pl : Int)), some u, x4, x5, none, none, none, none, none, none, none, none, none, none, none]) ⟨rfl, fun j q hj _ => absurd hj (Nat.not_lt_zero _), _, _, rfl⟩ (fun j σ H' _ h' => SqL.of (by rw [h'.1]; exact eL)) ?_ ?_
    · rintro i x σ H2 hx ⟨rfl, hall, x4, x5, rfl⟩
      obtain ⟨⟨wd, nm⟩, hq, a, rfl, ha⟩ := Paired.at pL hx
      have q1 := named_word st _ (List.mem_of_getElem? hq)
      obtain ⟨d, q, rfl, dg, sq⟩ := kn_get (hk.same s1) q1
      refine ⟨a, _, rfl, ha, rfl, _, _, rfl, _, _, rfl, rfl, ?_⟩
      refine ⟨_, rfl, _, rfl, _, rfl, d, _, rfl, dg, q, _, rfl, sq, rfl, flat_strs _, _, rfl, ?_⟩
      rw [if_pos rfl, inV_mem]
      by_cases q2 : nm ∈ knG vn ks fs wd
      · refine iteE (by rw [decide_eq_true q2]; rfl) ⟨rfl, fun j q hj hg => ?_, _, _, rfl⟩
        rcases Nat.lt_or_ge j i with z | z
        · exact hall j q z hg
        · rw [show j = i by omega, hq] at hg
          injection hg with hg
          rw [← hg]
          exact q2
      · refine iteS (by rw [decide_eq_false q2]; rfl) ⟨_, rfl, _, rfl, fun d hd => ?_⟩
        have hu : unkN (knG vn ks fs) (namedS st) = some nm := unk_at hq q2 hall
        unfold stE at h
        rw [hu] at h
        exact h d _ s1 hd
    · rintro σ H2 ⟨rfl, hall, x4, x5, rfl⟩
      have hnone : unkN (knG vn ks fs) (namedS st) = none := unk_no fun q hq => by
        obtain ⟨i, hi⟩ := List.mem_iff_getElem?.mp hq
        exact hall i q (by rw [Paired.length pL]; exact (List.getElem?_eq_some_iff.mp hi).1) hi
      unfold stE at h
      rw [hnone] at h
      simp only at h
      obtain ⟨a, xs, rfl, hq, hd⟩ := stInv (hu.same s1)
      refine ⟨_, rfl, ?_⟩
      have s0 := s1
      cases st <;> simp only [wordS] at hq
      case call g gg as =>
        have h : ResE C' H (fun H' => Q .non H') E (if fitB t gg as then none else some (.arg pl)) := h
        obtain ⟨x, y, z, rfl, h1, h2, h3⟩ := DpAll.three hd
        rw [h2.strInv] at hq
        have oks : (∀ x, g = some x → okN1 x) ∧ okN1 gg ∧ okAs as := oks
        repeat (first | refine case_len hq (Nat.ne_of_beq_eq_false rfl) ?_ | refine case_word hq rfl (by decide +kernel) ?_)
        refine case_hit hq rfl ⟨_, _, rfl, _, _, rfl, _, _, rfl, ?_⟩
        refine ⟨_, rfl, _, rfl, _, rfl, _, _, t, gg, as, rfl, hv.same s1, h3, oks.2.2.1, lps, fun H3 s3 => ?_⟩
        cases hf : fitB t gg as with
        | true =>
          rw [hf] at h
          exact ⟨true, rfl, iteE rfl (h _ (s1.trans s3))⟩
        | false =>
          rw [hf] at h
          exact ⟨false, rfl, iteS rfl ⟨_, rfl, _, rfl, fun d hd => h d _ (s1.trans s3) hd⟩⟩
      case with_ e l ks p =>
        have h : ResE C' H (fun H' => Q .non H') E (if fitB t e.1 e.2 && fitB t l.1 l.2 then none else some (.arg pl)) := h
        have oks : (okCal e ∧ okCal l ∧ okNs ks) ∧ (p.length ≤ 900 ∧ okL p) := oks
        obtain ⟨x, y, z, u, rfl, h1, h2, h3, h4⟩ := DpAll.four hd
        have h1 : Dp K H2 x (.tuple [.str e.1, .tuple (e.2.map argD)]) := h1
        have h2 : Dp K H2 y (.tuple [.str l.1, .tuple (l.2.map argD)]) := h2
        obtain ⟨x0, ex, rfl, hx0, hxd⟩ := h1.tupInv
        obtain ⟨e1, e2, rfl, he1, he2⟩ := hxd.two
        obtain ⟨y0, ey, rfl, hy0, hyd⟩ := h2.tupInv
        obtain ⟨l1, l2, rfl, hl1, hl2⟩ := hyd.two
        rw [he1.strInv] at hx0
        rw [hl1.strInv] at hy0
        repeat (first | refine case_len hq (Nat.ne_of_beq_eq_false rfl) ?_ | refine case_word hq rfl (by decide +kernel) ?_)
        refine case_hit hq rfl ⟨_, _, rfl, _, _, rfl, _, _, rfl, _, _, rfl, ?_⟩
        refine ⟨_, rfl, _, rfl, x0, _, _, _, rfl, rfl, hx0, rfl, _, rfl, x0, _, _, _, rfl, rfl, hx0, rfl, _, _, t, e.1, e.2, rfl, hv.same s1, he2, oks.1.1.2.1, lps, fun H3 s3 => ?_⟩
        cases hf : fitB t e.1 e.2 with
        | false =>
          rw [hf] at h
          exact ⟨false, rfl, iteS rfl (iteS rfl ⟨_, rfl, _, rfl, fun d hd => h d _ (s1.trans s3) hd⟩)⟩
        | true =>
        rw [hf] at h
        refine ⟨true, rfl, iteE rfl ?_⟩
        refine ⟨_, rfl, _, rfl, y0, _, _, _, rfl, rfl, SqT.same s3 hy0, rfl, _, rfl, y0, _, _, _, rfl, rfl, SqT.same s3 hy0, rfl, _, _, t, l.1, l.2, rfl, (hv.same s1).same s3, hl2.same s3, oks.1.2.1.2.1, lps, fun H4 s4 => ?_⟩
        cases hg : fitB t l.1 l.2 with
        | false =>
          rw [hg] at h
          exact ⟨false, rfl, iteS rfl ⟨_, rfl, _, rfl, fun d hd => h d _ ((s1.trans s3).trans s4) hd⟩⟩
        | true =>
          rw [hg] at h
          exact ⟨true, rfl, iteE rfl (h _ ((s1.trans s3).trans s4))⟩
      case try_ p hs q0 =>
        have h : ResE C' H (fun H' => Q .non H') E (if (allB q0 0).any (fun p => badF p.2) then some (.fin pl) else none) := h
        have oks : (p.length ≤ 900 ∧ okL p) ∧ (hs.length ≤ 900 ∧ okHs hs) ∧ (q0.length ≤ 900 ∧ okL q0) := oks
        have dps : max (dpB p) (max (dpHs hs) (dpB q0)) ≤ n := dps
        have szs : szB p + (szHs hs + szB q0) ≤ 900 := szs
        obtain ⟨x, y, z, rfl, h1, h2, h3⟩ := DpAll.three hd
        repeat (first | refine case_len hq (Nat.ne_of_beq_eq_false rfl) ?_ | refine case_word hq rfl (by decide +kernel) ?_)
        refine case_hit hq rfl ⟨_, _, rfl, _, _, rfl, _, _, rfl, ?_⟩
        refine ⟨_, rfl, z, q0, 0, rfl, h3, Nat.le_trans (Nat.le_trans (Nat.le_max_right _ _) (Nat.le_max_right _ _)) dps, oks.2.2, by omega, fun M ms H3 s3 nM eM pM => ?_⟩
        refine ⟨M, rfl, ⟨_, SqL.of eM⟩, ?_⟩
        refine for_list (K := K) (a := M) (xs := ms) (fun i σ H' => Same H3 H' ∧ (∀ j q, j < i → (allB q0 0)[j]? = some q → badF q.2 = false) ∧ ∃ x15 x16 : Option V, σ = [some v, some kn, some (.int (pl : Int)), some (.ref a), x4, x5, none, none, none, none, none, none, some x, some y, some z, x15, x16]) ⟨Same.refl _, fun j q hj _ => absurd hj (Nat.not_lt_zero _), _, _, rfl⟩ (fun j σ H' _ h' => SqL.of (h'.1 _ _ eM)) ?_ ?_
        · rintro i w σ H4 hw ⟨s4, hal2, x15, x16, rfl⟩
          obtain ⟨⟨num, st⟩, hp, b, u, rfl, hb, hpd⟩ := Paired.at pM hw
          obtain ⟨c, zs, rfl, hc, hcd⟩ := stInv hpd
          refine ⟨b, _, rfl, SqT.same s4 hb, rfl, _, _, rfl, _, _, rfl, rfl, ?_⟩
          have hc : SqT K H3 c (V.str (wordS st) :: zs) := hc
          refine ⟨_, rfl, c, _, _, _, rfl, rfl, SqT.same s4 hc, atI_nat (j := 0) rfl, (by show 5 ≤ sizeLine; decide), fun tt htt => ?_⟩
          have s5 := same_new (o := .tup [V.str "while", V.str "try", V.str "undo", V.str "with", V.str "return"]) htt
          have hw2 : inV (V.str (wordS st)) [V.str "while", V.str "try", V.str "undo", V.str "with", V.str "return"] = badF st := by
            cases st <;> simp only [wordS, badF] <;> decide +kernel
          refine ⟨tt, _, rfl, .inr (SqT.of upd_same), rfl, rfl, _, rfl, ?_⟩
          rw [hw2]
          cases hb2 : badF st with
          | true =>
            refine iteS rfl ⟨_, rfl, _, rfl, fun d hd => ?_⟩
            have hany : ((allB q0 0).any fun p => badF p.2) = true := List.any_eq_true.mpr ⟨_, List.mem_of_getElem? hp, hb2⟩
            rw [if_pos hany] at h
            exact h d _ (((s1.trans s3).trans s4).trans s5) hd
          | false =>
            refine iteE rfl ⟨s4.trans s5, fun j q hj hg => ?_, _, _, rfl⟩
            rcases Nat.lt_or_ge j i with z | z
            · exact hal2 j q z hg
            · rw [show j = i by omega, hp] at hg
              injection hg with hg
              rw [← hg]
              exact hb2
        · rintro σ H4 ⟨s4, hal2, _⟩
          have hany : ¬ ((allB q0 0).any fun p => badF p.2) = true := fun z => by
            obtain ⟨p, hp, hb⟩ := List.any_eq_true.mp z
            obtain ⟨i, hi⟩ := List.mem_iff_getElem?.mp hp
            rw [hal2 i p (by rw [Paired.length pM]; exact (List.getElem?_eq_some_iff.mp hi).1) hi] at hb
            cases hb
          rw [if_neg hany] at h
          exact h _ ((s1.trans s3).trans s4)
      all_goals
        first
          | obtain ⟨_, rfl, _⟩ := DpAll.one hd
          | obtain ⟨_, _, rfl, _, _⟩ := DpAll.two hd
        repeat (first | refine case_len hq (Nat.ne_of_beq_eq_false rfl) ?_ | refine case_word hq rfl (by decide +kernel) ?_)
        exact h _ s1
end

/-! ### check_names -/
mutual
theorem le_allS : ∀ (s : St) (n : Nat), ∀ p ∈ allS s n, dpS p.2 ≤ dpS s ∧ szS p.2 ≤ szS s
  | .ite a b, n, p, hp => by
    have ea := dpB_eq a
    have eb := dpB_eq b
    show _ ≤ max (dpB a) (dpB b) ∧ _ ≤ szB a + szB b
    rcases List.mem_append.mp (show p ∈ allB a n ++ allB b (n + szB a) from hp) with z | z
    · have := le_allB a _ p z
      exact ⟨Nat.le_trans (by omega) (Nat.le_max_left _ _), by omega⟩
    · have := le_allB b _ p z
      exact ⟨Nat.le_trans (by omega) (Nat.le_max_right _ _), by omega⟩
  | .whl b, n, p, hp => by
    have := le_allB b n p hp
    have e := dpB_eq b
    exact ⟨by show _ ≤ dpB b; omega, by show _ ≤ szB b; omega⟩
  | .try_ b hs f, n, p, hp => by
    have eb := dpB_eq b
    have ef := dpB_eq f
    show _ ≤ max (dpB b) (max (dpHs hs) (dpB f)) ∧ _ ≤ szB b + (szHs hs + szB f)
    rcases List.mem_append.mp (show p ∈ allB b n ++ (allHs hs (n + szB b) ++ allB f (n + szB b + szHs hs)) from hp) with z | z
    · have := le_allB b _ p z
      exact ⟨Nat.le_trans (by omega) (Nat.le_max_left _ _), by omega⟩
    · rcases List.mem_append.mp z with z | z
      · have := le_allHs hs _ p z
        exact ⟨Nat.le_trans (Nat.le_trans this.1 (Nat.le_max_left _ _)) (Nat.le_max_right _ _), by omega⟩
      · have := le_allB f _ p z
        exact ⟨Nat.le_trans (Nat.le_trans (by omega) (Nat.le_max_right _ _)) (Nat.le_max_right _ _), by omega⟩
  | .undo ns b, n, p, hp => by
    have := le_allB b n p hp
    have e := dpB_eq b
    exact ⟨by show _ ≤ dpB b; omega, by show _ ≤ szB b; omega⟩
  | .with_ e l ks b, n, p, hp => by
    have := le_allB b n p hp
    have e := dpB_eq b
    exact ⟨by show _ ≤ dpB b; omega, by show _ ≤ szB b; omega⟩
  | .set _ _, _, p, hp => nomatch hp
  | .input _, _, p, hp => nomatch hp
  | .call _ _ _, _, p, hp => nomatch hp
  | .risk _, _, p, hp => nomatch hp
  | .raise _, _, p, hp => nomatch hp
  | .ret _, _, p, hp => nomatch hp
theorem le_allB : ∀ (b : List St) (n : Nat), ∀ p ∈ allB b n, dpS p.2 ≤ dpIn b ∧ szS p.2 + 1 ≤ szB b
  | [], _, p, hp => nomatch hp
  | s :: r, n, p, hp => by
    show _ ≤ max (dpS s) (dpIn r) ∧ _ ≤ 1 + szS s + szB r
    rcases List.mem_cons.mp (show p ∈ (n, s) :: (allS s (n + 1) ++ allB r (n + 1 + szS s)) from hp) with z | z
    · rw [z]
      exact ⟨Nat.le_max_left _ _, by show szS s + 1 ≤ _; omega⟩
    · rcases List.mem_append.mp z with z | z
      · have := le_allS s _ p z
        exact ⟨Nat.le_trans this.1 (Nat.le_max_left _ _), by omega⟩
      · have := le_allB r _ p z
        exact ⟨Nat.le_trans this.1 (Nat.le_max_right _ _), by omega⟩
theorem le_allH : ∀ (x : Hd) (n : Nat), ∀ p ∈ allH x n, dpS p.2 ≤ dpH x ∧ szS p.2 ≤ szH x
  | .mk ks b, n, p, hp => by
    have := le_allB b n p hp
    have e := dpB_eq b
    exact ⟨by show _ ≤ dpB b; omega, by show _ ≤ szB b; omega⟩
theorem le_allHs : ∀ (hs : List Hd) (n : Nat), ∀ p ∈ allHs hs n, dpS p.2 ≤ dpHs hs ∧ szS p.2 ≤ szHs hs
  | [], _, p, hp => nomatch hp
  | x :: r, n, p, hp => by
    show _ ≤ max (dpH x) (dpHs r) ∧ _ ≤ szH x + szHs r
    rcases List.mem_append.mp (show p ∈ allH x n ++ allHs r (n + szH x) from hp) with z | z
    · have := le_allH x _ p z
      exact ⟨Nat.le_trans this.1 (Nat.le_max_left _ _), by omega⟩
    · have := le_allHs r _ p z
      exact ⟨Nat.le_trans this.1 (Nat.le_max_right _ _), by omega⟩
end
abbrev sChN : Stmt := topS 60
abbrev NChN : List Str := ["tree", "names", "kinds", "keeps", "functions", "everywhere", "name", "params", "block", "function", "inner", "constant", "terms", "factor", "known", "place", "statement"]
abbrev PChN : List Str := ["tree"]
theorem scChN : FnScope NChN PChN (defScope sChN) := ⟨rfl, rfl, rfl, by decide +kernel, rfl, by decide +kernel, by decide +kernel⟩
def evT (t : Tr) : List Str := t.names ++ (t.kinds ++ t.fns.map Fn.name)
def vnT (t : Tr) (f : Fn) : List Str := t.names ++ (prs f ++ innerF t.names (prs f) f.b)
section
variable {P : Program} {w : World} {K : PySem.W.Frag} {mg : Str → Option Value} {base : Heap}
end

/-! ### check_names with both answers -/
abbrev sChY : Stmt := topS 60
abbrev NChY : List Str := ["tree", "names", "kinds", "keeps", "functions", "everywhere", "name", "params", "block", "function", "inner", "constant", "terms", "factor", "known", "place", "statement"]
abbrev PChY : List Str := ["tree"]
theorem scChY : FnScope NChY PChY (defScope sChY) := ⟨rfl, rfl, rfl, by decide +kernel, rfl, by decide +kernel, by decide +kernel⟩
def fbO (t : Tr) (f : Fn) : Option Er := (dupO (evT t ++ (prs f ++ innerF t.names (prs f) f.b))).map Er.dup
def fpO (t : Tr) (p : Str × Int) : Option Er := if p.1 ∈ t.names then none else some (.unk p.1)
def fcO (t : Tr) (e : Ex) : Option Er := e.ts.findSome? (fpO t)
def fdO (t : Tr) (f : Fn) : Option Er := (allB f.b 0).findSome? fun p => stE t (vnT t f) t.kinds (t.fns.map Fn.name) p.1 p.2
/-- the first error of a tree's names -/
def orE (a b : Option Er) : Option Er := match a with
  | some e => some e
  | none => b
def errT (t : Tr) : Option Er := orE ((dupO (evT t)).map Er.dup) (orE (t.fns.findSome? (fbO t)) (orE (t.keeps.findSome? (fcO t)) (t.fns.findSome? (fdO t))))
theorem fs_at {α : Type} {f : α → Option Er} : ∀ {l : List α} {j : Nat} {x : α} {e : Er}, l[j]? = some x → f x = some e → (∀ i y, i < j → l[i]? = some y → f y = none) → l.findSome? f = some e
  | [], j, x, e, h, _, _ => by cases h
  | y :: r, 0, x, e, h, hx, _ => by
    injection h with h
    rw [List.findSome?_cons, h, hx]
  | y :: r, j + 1, x, e, h, hx, no => by
    rw [List.findSome?_cons, no 0 y (Nat.succ_pos _) rfl]
    exact fs_at (l := r) (j := j) h hx fun i z hi hz => no (i + 1) z (by omega) hz
theorem fs_none {α : Type} {f : α → Option Er} {l : List α} (no : ∀ i y, i < l.length → l[i]? = some y → f y = none) : l.findSome? f = none := by
  rw [List.findSome?_eq_none_iff]
  intro x hx
  obtain ⟨i, hi⟩ := List.mem_iff_getElem?.mp hx
  exact no i x (List.getElem?_eq_some_iff.mp hi).1 hi
theorem no_succ {α : Type} {f : α → Option Er} {l : List α} {j : Nat} {x : α} (no : ∀ i y, i < j → l[i]? = some y → f y = none) (hx : l[j]? = some x) (e : f x = none) : ∀ i y, i < j + 1 → l[i]? = some y → f y = none := fun i y hi hy => by
  rcases Nat.lt_or_ge i j with z | z
  · exact no i y z hy
  · rw [show i = j by omega, hx] at hy
    injection hy with hy
    rw [← hy]
    exact e
section
variable {C' : Nat → Addr} {H H1 : Hp} {Q Q1 : Hp → Prop} {E : XK} {o1 o2 : Option Er}
theorem ResE.left (h : ResE C' H Q E (orE o1 o2)) (s : Same H H1) (k : o1 = none → ∀ H', Same H1 H' → Q1 H') : ResE C' H1 Q1 E o1 := by
  cases o1 with
  | none => exact k rfl
  | some e => exact fun d H' s' hd => h d H' (s.trans s') hd
theorem ResE.pass (e : o1 = none) (h : ResE C' H Q E (orE o1 o2)) : ResE C' H Q E o2 := by
  rw [e] at h
  exact h
theorem ResE.at {α : Type} {l : List α} {f : α → Option Er} {j : Nat} {x : α} (h : ResE C' H Q E (orE (l.findSome? f) o2)) (hx : l[j]? = some x) (no : ∀ i y, i < j → l[i]? = some y → f y = none) (s : Same H H1) (k : f x = none → ∀ H', Same H1 H' → Q1 H') : ResE C' H1 Q1 E (f x) := by
  cases e : f x with
  | none => exact k e
  | some e1 =>
    rw [fs_at hx e no] at h
    exact fun d H' s' hd => h d H' (s.trans s') hd
end
def spChY (K : PySem.W.Frag) (C' : Nat → Addr) (n : Nat) : Sp := fun vs H Q E => ∃ (v : V) (t : Tr), vs = [v] ∧ Dp K H v (trD t) ∧ okTr n t ∧ SmallT t ∧ (∀ f ∈ t.fns, ∀ p ∈ allB f.b 0, (namedS p.2).length ≤ 900) ∧ ResE C' H (fun H' => Q .non H') E (errT t)
section
variable {P : Program} {w : World} {K : PySem.W.Frag} {mg : Str → Option Value} {base : Heap} {C' : Nat → Addr}
theorem ok_ChY {n : Nat} {f : Addr} {fd : FuncData} (F : Fun K "check_names" "check_names" sChY f fd) (T : TxChk mg) (GO : Has P w K mg base CX0 (4 + n + 1 + 1) "own_names" POwn (spOwn K n)) (X : ErrH P w K mg base C') (GU : Has P w K mg base (L2N.CX P w) 3 "check_unlike" PUnX (spUnX K C')) (GA : Has P w K mg base CX0 (4 + n) "all_numbered" PAllN (spAllN K n)) (GS : Has P w K mg base (L2N.CX P w) (4 + n + 1) "check_statement" PChX (spChX K C' n)) : FnOk P w K mg base (L2N.CX P w) (4 + n + 1 + 1 + 1) f fd PChY (spChY K C' n) := by
  refine Fun.okN F scChY (fun vs H Q E h => ?_) (fun cdv A outer sh H vs Q E hr h => ?_)
  · obtain ⟨v, e, rfl, _⟩ := h
    rfl
  · obtain ⟨v, t, rfl, hv, ok, sm, ln, h⟩ := h
    have tk := L2N.takes_of (X := cxOf (L2N.CX P w) P w K mg base NChY "check_names" (defScope sChY) f cdv A outer sh H E) (E := E) rfl rfl rfl rfl
    have lps : ∀ f ∈ t.fns, f.ps.length ≤ 900 := fun f hf => by have := sm.ps f hf; omega
    have hu0 := hu_of hr
    have hr3 := hr.mono (j := 3) (by omega)
    have hr4 := hr.mono (j := 4 + n) (by omega)
    have hr5 := hr.mono (j := 4 + n + 1) (by omega)
    refine ⟨_, (pss_cons (ps_asg (pv 0) (pg_tup (by rfl) (pgs_cons (pg_name (i := 1) scChY.nd rfl (Or.inl rfl)) (pgs_cons (pg_name (i := 2) scChY.nd rfl (Or.inl rfl)) (pgs_cons (pg_name (i := 3) scChY.nd rfl (Or.inl rfl)) (pgs_cons (pg_name (i := 4) scChY.nd rfl (Or.inl rfl)) pgs_nil))))))
  (pss_cons (ps_set (i := 5) scChY.nd rfl (Or.inl rfl) (pe_lst (StX.pa_star (pv 1) (StX.pa_star (pv 2) (StX.pa_star (pe_lc (own := [("name", 6), ("params", 7), ("block", 8)]) (g := gTup K 3 (gCons (gName 6) (gCons (gName 7) (gCons (gName 8) gNil)))) (tt := tYes) rfl scChY.nd (pi_tup (pv 4)) (blkOk_by (own := [("name", 6), ("params", 7), ("block", 8)]) (N := NChY) (sc := (defScope sChY)) (by decide +kernel)) (fun _ _ _ _ _ => (pg_tup (by rfl) (pgs_cons (pg_name (i := 6) scChY.nd rfl (Or.inl rfl)) (pgs_cons (pg_name (i := 7) scChY.nd rfl (Or.inl rfl)) (pgs_cons (pg_name (i := 8) scChY.nd rfl (Or.inl rfl)) pgs_nil))))) (fun _ _ _ _ _ => pts_nil) (fun _ _ _ _ _ => (pv 6))) pa_nil)))))
  (pss_cons (ps_expr (pe_callSH GU hr3 rfl (L2N.passAt tk) (pa_cons (pv 5) pa_nil)))
  (pss_cons (ps_for (passes_of rfl) rfl (pi_tup (pv 4)) (pg_name (i := 9) scChY.nd rfl (Or.inl rfl))
  (pss_cons (ps_asg (pe_callH GO hr rfl pass0 (pa_cons (pv 0) (pa_cons (pv 9) pa_nil))) (pg_tup (by rfl) (pgs_cons (pg_name (i := 7) scChY.nd rfl (Or.inl rfl)) (pgs_cons (pg_name (i := 10) scChY.nd rfl (Or.inl rfl)) pgs_nil))))
  (pss_one (ps_expr (pe_callSH GU hr3 rfl (L2N.passAt tk) (pa_cons (pe_lst (StX.pa_star (pv 5) (StX.pa_star (pv 7) (StX.pa_star (pv 10) pa_nil)))) pa_nil))))))
  (pss_cons (ps_for (passes_of rfl) rfl (pi_tup (pv 3)) (pg_tup (by rfl) (pgs_cons (pg_name (i := 11) scChY.nd rfl (Or.inl rfl)) (pgs_cons (pg_name (i := 12) scChY.nd rfl (Or.inl rfl)) pgs_nil)))
  (pss_one (ps_for (passes_of rfl) rfl (pi_tup (pv 12)) (pg_tup (by rfl) (pgs_cons (pg_name (i := 6) scChY.nd rfl (Or.inl rfl)) (pgs_cons (pg_name (i := 13) scChY.nd rfl (Or.inl rfl)) pgs_nil)))
  (pss_one (ps_if (pt_cmpR op_notIn_seq (pv 6) (pv 1) (by rfl))
  (pss_one (ps_raiseX rfl tk X.h4 (hr.mono (j := 2) (by omega)) rfl (pa_cons (pv 6) pa_nil)))
  pss_nil)))))
  (pss_one (ps_for (passes_of rfl) rfl (pi_tup (pv 4)) (pg_name (i := 9) scChY.nd rfl (Or.inl rfl))
  (pss_cons (ps_asg (pe_callH GO hr rfl pass0 (pa_cons (pv 0) (pa_cons (pv 9) pa_nil))) (pg_tup (by rfl) (pgs_cons (pg_name (i := 7) scChY.nd rfl (Or.inl rfl)) (pgs_cons (pg_name (i := 10) scChY.nd rfl (Or.inl rfl)) pgs_nil))))
  (pss_cons (ps_set (i := 14) scChY.nd rfl (Or.inl rfl) (pe_disp (pps_cons pe_str (pe_lst (StX.pa_star (pv 1) (StX.pa_star (pv 7) (StX.pa_star (pv 10) pa_nil)))) (pps_cons pe_str (pv 2) (pps_cons pe_str (pe_slice sl_list (pv 5) (po_some (pe_op op_add (pe_callB call_len_seq (by rfl) T.n_len bb_len (pa_cons (pv 1) pa_nil)) (pe_callB call_len_seq (by rfl) T.n_len bb_len (pa_cons (pv 2) pa_nil)))) po_none) pps_nil))) (by rfl) (by rfl) (by decide) (by decide)))
  (pss_one (ps_for (passes_of rfl) rfl (pi_list (pe_callH GA hr4 rfl pass0 (pa_cons (pe_ix (r := rIxT K) ix_tup (pv 9) pe_int (fun _ _ => rfl)) (pa_cons pe_int pa_nil)))) (pg_tup (by rfl) (pgs_cons (pg_name (i := 15) scChY.nd rfl (Or.inl rfl)) (pgs_cons (pg_name (i := 16) scChY.nd rfl (Or.inl rfl)) pgs_nil)))
  (pss_one (ps_expr (pe_callSH GS hr5 rfl (L2N.passAt tk) (pa_cons (pv 0) (pa_cons (pv 14) (pa_cons (pv 15) (pa_cons (pv 16) pa_nil)))))))))))))))))), ?_⟩
    obtain ⟨okn, okk, oke, lf, okf⟩ := ok
    have hv0 := hv
    have hv : Dp K H v (.tuple [nmD t.names, nmD t.kinds, .tuple (t.keeps.map exD), .tuple (t.fns.map fnD)]) := hv
    obtain ⟨a, xs, rfl, hq, hd⟩ := hv.tupInv
    obtain ⟨x, y, z, u, rfl, hx, hy, hz, hu⟩ := hd.four
    obtain ⟨b1, ys1, rfl, hb1, hd1⟩ := hx.tupInv
    obtain ⟨b2, ys2, rfl, hb2, hd2⟩ := hy.tupInv
    obtain ⟨b3, ys3, rfl, hb3, hd3⟩ := hz.tupInv
    obtain ⟨c, zs, rfl, hc, hzd⟩ := hu.tupInv
    have pf := DpAll.map hzd
    have pk := DpAll.map hd3
    have e1 : ys1 = t.names.map V.str := dp_strs hd1
    have e2 : ys2 = t.kinds.map V.str := dp_strs hd2
    subst e1 e2
    have lz : zs.length = t.fns.length := Paired.length pf
    have lF := sm.fns
    have lN := sm.names
    have lK := sm.kinds
    refine ⟨_, rfl, a, _, rfl, hq, rfl, _, _, rfl, _, _, rfl, _, _, rfl, _, _, rfl, rfl, ?_⟩
    refine ⟨_, rfl, b1, _, rfl, .inl hb1, _, rfl, b2, _, rfl, .inl hb2, ?_⟩
    refine ⟨_, rfl, c, rfl, ⟨_, hc⟩, fun D hD => ?_⟩
    refine lc_tup (K := K) (a := c) (xs := zs) (fun i H' => Same H H' ∧ H' D = some (.lst (((t.fns.take i).map Fn.name).map V.str))) ⟨same_new hD, upd_same⟩ (fun i H' _ h' => SqT.same h'.1 hc) ?_ ?_
    · rintro i x H1 hx ⟨s1, eD⟩
      obtain ⟨fn, hfn, hfd⟩ := Paired.at pf hx
      have hi : i < zs.length := (List.getElem?_eq_some_iff.mp hx).1
      have hfd : Dp K H x (.tuple [.str fn.name, .tuple (fn.ps.map prD), blD fn.b]) := hfd
      obtain ⟨d, ds, rfl, hd5, hdd⟩ := hfd.tupInv
      obtain ⟨u1, u2, u3, rfl, g1, _, _⟩ := hdd.three
      rw [g1.strInv] at hd5
      refine ⟨d, _, rfl, SqT.same s1 hd5, rfl, _, _, rfl, _, _, rfl, _, _, rfl, rfl, wipe3 (by decide) (by decide) (by decide), ?_⟩
      refine ⟨V.str fn.name, by kernel_rfl, _, eD, small1000 (by rw [List.length_map, List.length_map, List.length_take]; omega), fun c o z => ?_, ?_⟩
      · rw [upd_ne (ne_of_none z hD)]
        exact s1 _ _ z
      · rw [upd_same, take_snoc hfn, List.map_append, List.map_append]
        rfl
    · rintro H1 ⟨s1, eD⟩
      rw [lz, List.take_length] at eD
      refine ⟨D, _, rfl, .inr (SqL.of eD), ?_⟩
      have eev : t.names.map V.str ++ (t.kinds.map V.str ++ ((t.fns.map Fn.name).map V.str ++ [])) = (evT t).map V.str := by
        unfold evT
        rw [List.append_nil, List.map_append, List.map_append]
      have lev : (evT t).length ≤ 13 := by
        unfold evT
        rw [List.length_append, List.length_append, List.length_map]
        omega
      refine ⟨Nat.le_of_lt (small1000 (by rw [eev, List.length_map]; omega)), fun q hq1 => ?_⟩
      have s2 := same_new (o := .lst (t.names.map V.str ++ (t.kinds.map V.str ++ ((t.fns.map Fn.name).map V.str ++ [])))) hq1
      obtain ⟨G1, eG1⟩ : ∃ G, G = upd H1 q (.lst (t.names.map V.str ++ (t.kinds.map V.str ++ ((t.fns.map Fn.name).map V.str ++ [])))) := ⟨_, rfl⟩
      have eq : G1 q = some (.lst ((evT t).map V.str)) := by rw [eG1, upd_same, eev]
      rw [← eG1] at s2 ⊢
      have s3 := s1.trans s2
      refine ⟨_, rfl, q, evT t, rfl, SqL.of eq, ResE.left h s3 fun e0 G2 s4 => ?_⟩
      have h := ResE.pass e0 h
      have s5 := s3.trans s4
      have eq := s4 _ _ eq
      clear eG1 hq1 s2 s3 s4 s1 eD
      refine ⟨_, rfl, c, rfl, ⟨_, SqT.same s5 hc⟩, ?_⟩
      refine for_tup (K := K) (a := c) (xs := zs) (fun i σ H' => Same G2 H' ∧ (∀ j f, j < i → t.fns[j]? = some f → fbO t f = none) ∧ ∃ x7 x9 x10 : Option V, σ = [some (.ref a), some (.ref b1), some (.ref b2), some (.ref b3), some (.ref c), some (.ref q), none, x7, none, x9, x10, none, none, none, none, none, none]) ⟨Same.refl _, fun j f hj _ => absurd hj (Nat.not_lt_zero _), _, _, _, rfl⟩ (fun j σ H' _ h' => SqT.same (s5.trans h'.1) hc) ?_ ?_
      · rintro i x σ H3 hx ⟨s6, hno, x7, x9, x10, rfl⟩
        obtain ⟨fn, hfn, hfd⟩ := Paired.at pf hx
        have mf := List.mem_of_getElem? hfn
        have sz1 := sm.sz1 mf
        have ps1 := sm.ps fn mf
        have in1 := sm.inn fn mf
        have s7 := s5.trans s6
        refine ⟨_, rfl, _, rfl, _, x, t, fn, rfl, hv0.same s7, okn.1, hfd.same s7, okf fn mf, by omega, by omega, fun r a' c' H4 s8 f1 f2 f3 ne e1 e2 e3 => ?_⟩
        refine ⟨r, _, rfl, SqT.of e1, rfl, _, _, rfl, _, _, rfl, rfl, ?_⟩
        refine ⟨_, rfl, q, _, rfl, .inr (SqL.of ((s6.trans s8) _ _ eq)), _, rfl, a', _, rfl, .inr (SqL.of e2), _, rfl, c', _, rfl, .inr (SqL.of e3), ?_⟩
        have el : (evT t).map V.str ++ ((prs fn).map V.str ++ ((innerF t.names (prs fn) fn.b).map V.str ++ [])) = (evT t ++ (prs fn ++ innerF t.names (prs fn) fn.b)).map V.str := by
          rw [List.append_nil, List.map_append, List.map_append]
        have lpr : (prs fn).length ≤ 3 := by unfold prs; rw [List.length_map]; exact ps1
        refine ⟨Nat.le_of_lt (small1000 (by rw [el, List.length_map, List.length_append, List.length_append]; omega)), fun q2 hq2 => ?_⟩
        have s9 := same_new (o := .lst ((evT t).map V.str ++ ((prs fn).map V.str ++ ((innerF t.names (prs fn) fn.b).map V.str ++ [])))) hq2
        refine ⟨q2, _, rfl, SqL.of (by rw [← el]; exact upd_same), ResE.at (f := fbO t) h hfn hno ((s7.trans s8).trans s9) fun e0 G5 s10 => ?_⟩
        exact ⟨((s6.trans s8).trans s9).trans s10, no_succ hno hfn e0, _, _, _, rfl⟩
      · rintro σ H3 ⟨s6, hno, x7, x9, x10, rfl⟩
        have s7 := s5.trans s6
        have eq := s6 _ _ eq
        have h := ResE.pass (fs_none (by rw [← lz]; exact hno)) h
        clear hno
        refine ⟨_, rfl, b3, rfl, ⟨_, SqT.same s7 hb3⟩, ?_⟩
        refine for_tup (K := K) (a := b3) (xs := ys3) (fun i σ H' => Same H3 H' ∧ (∀ j e, j < i → t.keeps[j]? = some e → fcO t e = none) ∧ ∃ x6 x11 x12 x13 : Option V, σ = [some (.ref a), some (.ref b1), some (.ref b2), some (.ref b3), some (.ref c), some (.ref q), x6, x7, none, x9, x10, x11, x12, x13, none, none, none]) ⟨Same.refl _, fun j f hj _ => absurd hj (Nat.not_lt_zero _), _, _, _, _, rfl⟩ (fun j σ H' _ h' => SqT.same (s7.trans h'.1) hb3) ?_ ?_
        · rintro i x σ H4 hx ⟨s8, hno, x6, x11, x12, x13, rfl⟩
          obtain ⟨e, he, hed⟩ := Paired.at pk hx
          have me := List.mem_of_getElem? he
          have hed : Dp K H x (.tuple [.int e.c, .tuple (e.ts.map fun p => .tuple [.str p.1, .int p.2])]) := hed
          obtain ⟨d, ds, rfl, hd1, hdd⟩ := hed.tupInv
          obtain ⟨u1, u2, rfl, g1, g2⟩ := hdd.two
          obtain ⟨b4, ts, rfl, hb4, hbd4⟩ := g2.tupInv
          have pt := DpAll.map hbd4
          have s9 := s7.trans s8
          refine ⟨d, _, rfl, SqT.same s9 hd1, rfl, _, _, rfl, _, _, rfl, rfl, ?_⟩
          refine ⟨_, rfl, b4, rfl, ⟨_, SqT.same s9 hb4⟩, ?_⟩
          refine for_tup (K := K) (a := b4) (xs := ts) (fun i σ H' => H' = H4 ∧ (∀ j p, j < i → e.ts[j]? = some p → fpO t p = none) ∧ ∃ x6 x13 : Option V, σ = [some (.ref a), some (.ref b1), some (.ref b2), some (.ref b3), some (.ref c), some (.ref q), x6, x7, none, x9, x10, some u1, some (.ref b4), x13, none, none, none]) ⟨rfl, fun j f hj _ => absurd hj (Nat.not_lt_zero _), _, _, rfl⟩ (fun j σ H' _ h' => by rw [h'.1]; exact SqT.same s9 hb4) ?_ ?_
          · rintro j y σ H5 hy ⟨rfl, hnp, x6, x13, rfl⟩
            obtain ⟨pr, ht, htd⟩ := Paired.at pt hy
            obtain ⟨c3, zs3, rfl, hc3, hcd3⟩ := htd.tupInv
            obtain ⟨u, w, rfl, hu, hw⟩ := hcd3.two
            rw [hu.strInv, hw.intInv] at hc3
            refine ⟨c3, _, rfl, SqT.same s9 hc3, rfl, _, _, rfl, _, _, rfl, rfl, ?_⟩
            refine ⟨_, rfl, _, rfl, b1, _, rfl, .inr (SqT.same s9 hb1), rfl, flat_strs _, _, rfl, ?_⟩
            rw [if_pos rfl, inV_mem]
            by_cases hp : pr.1 ∈ t.names
            · refine iteE (by rw [decide_eq_true hp]; rfl) ⟨rfl, no_succ hnp ht (by unfold fpO; rw [if_pos hp]), _, _, rfl⟩
            · refine iteS (by rw [decide_eq_false hp]; rfl) ⟨_, rfl, _, rfl, fun d hd => ?_⟩
              have e1 : fpO t pr = some (.unk pr.1) := by unfold fpO; rw [if_neg hp]
              have e2 : fcO t e = some (.unk pr.1) := fs_at ht e1 hnp
              rw [fs_at he e2 hno] at h
              exact h d _ s9 hd
          · rintro σ H5 ⟨rfl, hnp, x6, x13, rfl⟩
            exact ⟨s8, no_succ hno he (fs_none (by rw [← Paired.length pt]; exact hnp)), _, _, _, _, rfl⟩
        · rintro σ H4 ⟨s8, hno, x6, x11, x12, x13, rfl⟩
          have h := ResE.pass (fs_none (by rw [← Paired.length pk]; exact hno)) h
          clear hno
          have s9 := s7.trans s8
          have eq := s8 _ _ eq
          refine ⟨_, rfl, c, rfl, ⟨_, SqT.same s9 hc⟩, ?_⟩
          refine for_tup (K := K) (a := c) (xs := zs) (fun i σ H' => Same H4 H' ∧ (∀ j f, j < i → t.fns[j]? = some f → fdO t f = none) ∧ ∃ x7 x9 x10 x14 x15 x16 : Option V, σ = [some (.ref a), some (.ref b1), some (.ref b2), some (.ref b3), some (.ref c), some (.ref q), x6, x7, none, x9, x10, x11, x12, x13, x14, x15, x16]) ⟨Same.refl _, fun j f hj _ => absurd hj (Nat.not_lt_zero _), _, _, _, _, _, _, rfl⟩ (fun j σ H' _ h' => SqT.same (s9.trans h'.1) hc) ?_ ?_
          · rintro i x σ H5 hx ⟨s10, hno, x7, x9, x10, x14, x15, x16, rfl⟩
            obtain ⟨fn, hfn, hfd⟩ := Paired.at pf hx
            have mf := List.mem_of_getElem? hfn
            have sz1 := sm.sz1 mf
            have ps1 := sm.ps fn mf
            have in1 := sm.inn fn mf
            have okn := okf fn mf
            have s11 := s9.trans s10
            refine ⟨_, rfl, _, rfl, _, x, t, fn, rfl, hv0.same s11, by omega, hfd.same s11, okf fn mf, by omega, by omega, fun r a' c' H6 s12 f1 f2 f3 ne e1 e2 e3 => ?_⟩
            refine ⟨r, _, rfl, SqT.of e1, rfl, _, _, rfl, _, _, rfl, rfl, ?_⟩
            have s13 := s11.trans s12
            have lpr : (prs fn).length ≤ 3 := by unfold prs; rw [List.length_map]; exact ps1
            intro dk hdk
            have s14 := s13.trans (same_new (o := .dK []) hdk)
            have k67 := same_new (o := .dK []) hdk
            have edk : upd H6 dk (.dK []) dk = some (.dK []) := upd_same
            have ea6 := (same_new (o := .dK []) hdk) _ _ e2
            have ec6 := (same_new (o := .dK []) hdk) _ _ e3
            have eq6 := (same_new (o := .dK []) hdk) _ _ ((s10.trans s12) _ _ eq)
            generalize upd H6 dk (.dK []) = H7 at *
            refine ⟨_, rfl, b1, _, rfl, .inl (SqT.same s14 hb1), _, rfl, a', _, rfl, .inr (SqL.of ea6), _, rfl, c', _, rfl, .inr (SqL.of ec6), ?_⟩
            have el : t.names.map V.str ++ ((prs fn).map V.str ++ ((innerF t.names (prs fn) fn.b).map V.str ++ [])) = (vnT t fn).map V.str := by
              unfold vnT
              rw [List.append_nil, List.map_append, List.map_append]
            refine ⟨Nat.le_of_lt (small1000 (by rw [el, List.length_map]; unfold vnT; rw [List.length_append, List.length_append]; omega)), fun qv hqv => ?_⟩
            have s15 := same_new (o := .lst (t.names.map V.str ++ ((prs fn).map V.str ++ ((innerF t.names (prs fn) fn.b).map V.str ++ [])))) hqv
            have ev : upd H7 qv (.lst (t.names.map V.str ++ ((prs fn).map V.str ++ ((innerF t.names (prs fn) fn.b).map V.str ++ [])))) qv = some (.lst ((vnT t fn).map V.str)) := by rw [upd_same, el]
            have edk := s15 _ _ edk
            have eq7 := s15 _ _ eq6
            have s16 := s14.trans s15
            generalize upd H7 qv (.lst (t.names.map V.str ++ ((prs fn).map V.str ++ ((innerF t.names (prs fn) fn.b).map V.str ++ [])))) = H8 at *
            refine ⟨_, rfl, _, rfl, _, rfl, b1, _, rfl, .inr (SqT.same s16 hb1), _, rfl, b2, _, rfl, .inr (SqT.same s16 hb2), _, _, rfl, rfl, _, rfl, q, _, rfl, SqL.of eq7, fun qf hqf => ?_⟩
            have lsum : ((t.names.map V.str).length : Int) + ((t.kinds.map V.str).length : Int) = ((t.names.length + t.kinds.length : Nat) : Int) := by rw [List.length_map, List.length_map]; omega
            have ecut : cutV ((evT t).map V.str) (some (((t.names.map V.str).length : Int) + ((t.kinds.map V.str).length : Int))) none = (t.fns.map Fn.name).map V.str := by
              rw [lsum, cut_drop, ← List.map_drop]
              unfold evT
              rw [← List.append_assoc, ← List.length_append, List.drop_left]
            have s17 := same_new (o := .lst (cutV ((evT t).map V.str) (some (((t.names.map V.str).length : Int) + ((t.kinds.map V.str).length : Int))) none)) hqf
            have ef : upd H8 qf (.lst (cutV ((evT t).map V.str) (some (((t.names.map V.str).length : Int) + ((t.kinds.map V.str).length : Int))) none)) qf = some (.lst ((t.fns.map Fn.name).map V.str)) := by rw [upd_same, ecut]
            have edk := s17 _ _ edk
            have ev := s17 _ _ ev
            have eq8 := s17 _ _ eq7
            have s18 := s16.trans s17
            generalize upd H8 qf (.lst (cutV ((evT t).map V.str) (some (((t.names.map V.str).length : Int) + ((t.kinds.map V.str).length : Int))) none)) = H9 at *
            have nd : dk ≠ qv ∧ dk ≠ qf ∧ dk ≠ q := ⟨ne_of edk ev (by intro z; cases z), ne_of edk ef (by intro z; cases z), ne_of edk eq8 (by intro z; cases z)⟩
            refine ⟨edk, [(.inr wv, .ref qv), (.inr wk, .ref b2), (.inr wf, .ref qf)], rfl, (by show 3 ≤ 15; decide), ?_⟩
            have em : mergeK [] [((.inr wv : Key), V.ref qv), (.inr wk, .ref b2), (.inr wf, .ref qf)] = [(.inr wv, .ref qv), (.inr wk, .ref b2), (.inr wf, .ref qf)] := by kernel_rfl
            rw [em]
            have sG : Same H6 (upd H9 dk (.dK [(.inr wv, .ref qv), (.inr wk, .ref b2), (.inr wf, .ref qf)])) := fun b o z => by
              rw [upd_ne (ne_of_none z hdk)]
              exact s17 _ _ (s15 _ _ (k67 _ _ z))
            have kn : KnAt K (upd H9 dk (.dK [(.inr wv, .ref qv), (.inr wk, .ref b2), (.inr wf, .ref qf)])) (.ref dk) (vnT t fn) t.kinds (t.fns.map Fn.name) := by
              refine ⟨dk, qv, b2, qf, rfl, upd_same, ?_, SqT.same sG (SqT.same s13 hb2), ?_⟩
              · rw [upd_ne nd.1.symm]; exact ev
              · rw [upd_ne nd.2.1.symm]; exact ef
            have s19 := s13.trans sG
            have sH := (s10.trans s12).trans sG
            clear em ecut lsum el s18 s17 s16 s15 s14 k67 hqf hqv
            generalize upd H9 dk (.dK [(.inr wv, .ref qv), (.inr wk, .ref b2), (.inr wf, .ref qf)]) = H10 at *
            have hfd2 : Dp K H x (.tuple [.str fn.name, .tuple (fn.ps.map prD), blD fn.b]) := hfd
            obtain ⟨fa, fs, rfl, hfa, hfdd⟩ := hfd2.tupInv
            obtain ⟨v1, v2, v3, rfl, _, _, w3⟩ := hfdd.three
            refine ⟨_, rfl, fa, _, _, _, rfl, rfl, SqT.same s19 hfa, rfl, v3, fn.b, 0, rfl, w3.same s19, okn.2.2.2.1, okn.2.2.1, by omega, fun L ls H11 s20 nL eL pL => ?_⟩
            refine ⟨L, rfl, ⟨_, SqL.of eL⟩, ?_⟩
            refine for_list (K := K) (a := L) (xs := ls) (fun i σ H' => Same H11 H' ∧ (∀ j p, j < i → (allB fn.b 0)[j]? = some p → stE t (vnT t fn) t.kinds (t.fns.map Fn.name) p.1 p.2 = none) ∧ ∃ x15 x16 : Option V, σ = [some (.ref a), some (.ref b1), some (.ref b2), some (.ref b3), some (.ref c), some (.ref q), x6, some (.ref a'), none, some (.ref fa), some (.ref c'), x11, x12, x13, some (.ref dk), x15, x16]) ⟨Same.refl _, fun j f hj _ => absurd hj (Nat.not_lt_zero _), _, _, rfl⟩ (fun j σ H' _ h' => SqL.of (h'.1 _ _ eL)) ?_ ?_
            · rintro i2 y σ H12 hy ⟨s21, hnp, x15, x16, rfl⟩
              obtain ⟨⟨num, st⟩, hp, b, u, rfl, hb, hpd⟩ := Paired.at pL hy
              have mp := List.mem_of_getElem? hp
              have le := le_allB fn.b 0 _ mp
              have oks := ok_allB fn.b 0 okn.2.2.1.2 _ mp
              have db := dpB_eq fn.b
              have dn := okn.2.2.2.1
              simp only at le
              refine ⟨b, _, rfl, SqT.same s21 hb, rfl, _, _, rfl, _, _, rfl, rfl, ?_⟩
              refine ⟨_, rfl, _, rfl, _, rfl, _, rfl, .ref a, .ref dk, u, num, t, vnT t fn, t.kinds, t.fns.map Fn.name, st, rfl, hv0.same ((s19.trans s20).trans s21), kn.same (s20.trans s21), hpd.same s21, oks, by omega, by omega, ln fn mf _ mp, lps, ?_⟩
              cases he : stE t (vnT t fn) t.kinds (t.fns.map Fn.name) num st with
              | none => exact fun H13 s22 => ⟨s21.trans s22, no_succ hnp hp he, _, _, rfl⟩
              | some e1 =>
                have e2 : fdO t fn = some e1 := by
                  unfold fdO
                  refine fs_at hp ?_ hnp
                  exact he
                rw [fs_at hfn e2 hno] at h
                exact fun d H13 s22 hd => h d H13 (((s19.trans s20).trans s21).trans s22) hd
            · rintro σ H12 ⟨s21, hnp, x15, x16, rfl⟩
              exact ⟨(sH.trans s20).trans s21, no_succ hno hfn (fs_none (by rw [← Paired.length pL]; exact hnp)), _, _, _, _, _, _, rfl⟩
          · rintro σ H5 ⟨s10, hno, _⟩
            rw [fs_none (by rw [← lz]; exact hno)] at h
            exact h _ (s9.trans s10)
end

/-! ### class Program, errors of names included -/
abbrev sPIX : Stmt := inClass (topS 62) 0
abbrev NPIX : List Str := ["self", "tree"]
abbrev PPIX : List Str := ["self", "tree"]
theorem scPIX : FnScope NPIX PPIX (defScope sPIX) := ⟨rfl, rfl, rfl, by decide +kernel, rfl, by decide +kernel, by decide +kernel⟩
/-- a program at a -/
def PrgAt (K : PySem.W.Frag) (C : Addr) (H : Hp) (a : Addr) (t : Tr) : Prop := ∃ dx v g, H a = some (.ins C dx [("content", v), ("globals", g)]) ∧ Dp K H v (trD t) ∧ Dp K H g (nmD t.names)
theorem noL_pr (p : Str × Bool) : noL (prD p) = true := rfl
theorem noL_fn (f : Fn) : noL (fnD f) = true := by
  simp only [fnD, noL, noLs, noL_bl, Bool.true_and, Bool.and_true]
  exact noLs_map noL_pr _
theorem noL_tr (t : Tr) : noL (trD t) = true := by
  simp only [trD, noL, noLs, noL_nm, Bool.true_and, Bool.and_true]
  rw [noLs_map noL_ex, noLs_map noL_fn]
  rfl
theorem PrgAt.same {K : PySem.W.Frag} {C : Addr} {H H' : Hp} (s : Same H H') {a : Addr} {t : Tr} (h : PrgAt K C H a t) : PrgAt K C H' a t :=
  let ⟨dx, v, g, h1, h2, h3⟩ := h
  ⟨dx, v, g, s _ _ h1, h2.same s, h3.same s⟩
theorem PrgAt.tps {K : PySem.W.Frag} {C : Addr} {H H' : Hp} {a : Addr} (h0 : H' a = H a) (s : Tps H H') {t : Tr} (h : PrgAt K C H a t) : PrgAt K C H' a t :=
  let ⟨dx, v, g, h1, h2, h3⟩ := h
  ⟨dx, v, g, h0.trans h1, h2.tps s (noL_tr t), h3.tps s (noL_nm _)⟩
structure TxPrg (K : PySem.W.Frag) (C : Addr) : Prop where
  cl : Cls K C
  nC : NoAttr K C "content"
  nG : NoAttr K C "globals"
/-- what Program(tree) does with a tree of the right form and size -/
def ResP (K : PySem.W.Frag) (C : Addr) (C' : Nat → Addr) (H : Hp) (S : Addr) (t : Tr) (Q : Hp → Prop) (E : XK) : Option Er → Prop
  | none => ∀ H', PrgAt K C H' S t → (∀ b o, H b = some o → b ≠ S → H' b = some o) → Q H'
  | some e => ∀ d H', Same H H' → H' d = none → E (.ref (C' (erI e))) (some d) (upd H' d (.xd (erF e)))
def spPIX (K : PySem.W.Frag) (C : Addr) (C' : Nat → Addr) (n : Nat) : Sp := fun vs H Q E => ∃ (S dx : Addr) (v : V) (t : Tr), vs = [.ref S, v] ∧ H S = some (.ins C dx []) ∧ Dp K H v (trD t) ∧ okTr n t ∧ SmallT t ∧ (∀ f ∈ t.fns, ∀ p ∈ allB f.b 0, (namedS p.2).length ≤ 900) ∧ ResP K C C' H S t (fun H' => Q .non H') E (errT t)
section
variable {P : Program} {w : World} {K : PySem.W.Frag} {mg : Str → Option Value} {base : Heap} {C : Addr} {C' : Nat → Addr}
theorem ok_PIX {n : Nat} {f : Addr} {fd : FuncData} (F : Fun K "__init__" "Program.__init__" sPIX f fd) (TC : TxPrg K C) (GT : Has P w K mg base CX0 (6 + 3 * n + 1) "is_tree" PIsTree (spIsTree K n)) (GS : Has P w K mg base CX0 (4 + n + 1 + 1 + 1) "check_sizes" PChS (spChS K n)) (GN : Has P w K mg base (L2N.CX P w) (4 + n + 1 + 1 + 1) "check_names" PChY (spChY K C' n)) : FnOk P w K mg base (L2N.CX P w) (6 + 3 * n + 1 + 1) f fd PPIX (spPIX K C C' n) := by
  refine Fun.okN F scPIX (fun vs H Q E h => ?_) (fun cdv A outer sh H vs Q E hr h => ?_)
  · obtain ⟨S, dx, v, t, rfl, _⟩ := h
    rfl
  · obtain ⟨S, dx, v, t, rfl, e1, hv, ok, sm, ln, h⟩ := h
    have tk := L2N.takes_of (X := cxOf (L2N.CX P w) P w K mg base NPIX "Program.__init__" (defScope sPIX) f cdv A outer sh H E) (E := E) rfl rfl rfl rfl
    have hr7 := hr.mono (j := 4 + n + 1 + 1 + 1) (by omega)
    refine ⟨_, (pss_cons (ps_if (pt_not (pt_val (pe_callH GT hr rfl pass0 (pa_cons (pv 1) pa_nil))))
  (pss_one ps_never)
  pss_nil)
  (pss_cons (ps_expr (pe_callH GS hr7 rfl pass0 (pa_cons (pv 1) pa_nil)))
  (pss_cons (ps_expr (pe_callSH GN hr7 rfl (L2N.passAt tk) (pa_cons (pv 1) pa_nil)))
  (pss_cons (ps_fld (pv 0) (pv 1) rfl)
  (pss_one (ps_fld (pv 0) (pe_ix (r := rIxT K) ix_tup (pv 1) pe_int (fun _ _ => rfl)) rfl)))))), ?_⟩
    refine ⟨_, rfl, v, t, rfl, hv, ok, fun H1 s1 => ⟨true, rfl, ?_⟩⟩
    refine ⟨_, rfl, v, t, rfl, hv.same s1, ok, sm, fun H2 s2 => ?_⟩
    refine ⟨_, rfl, v, t, rfl, hv.same (s1.trans s2), ok, sm, ln, ?_⟩
    cases he : errT t with
    | some e =>
      rw [he] at h
      exact fun d H' s' hd => h d H' ((s1.trans s2).trans s') hd
    | none =>
    rw [he] at h
    intro H3 s3
    have s4 := (s1.trans s2).trans s3
    have hv4 := hv.same s4
    have hv5 : Dp K H3 v (.tuple [nmD t.names, nmD t.kinds, .tuple (t.keeps.map exD), .tuple (t.fns.map fnD)]) := hv4
    obtain ⟨a, xs, rfl, hq, hd⟩ := hv5.tupInv
    obtain ⟨x, y, z, u, rfl, hx, _, _, _⟩ := hd.four
    have e3 := s4 _ _ e1
    have tp : Tps H3 (upd H3 S (.ins C dx (putF "content" (.ref a) []))) := Tps.ins e3
    refine ⟨_, rfl, _, rfl, S, C, dx, [], rfl, e3, TC.cl, TC.nC, (by show 0 < 1000; decide), ?_⟩
    have e4 : upd H3 S (.ins C dx (putF "content" (.ref a) [])) S = some (.ins C dx (putF "content" (.ref a) [])) := upd_same
    refine ⟨_, rfl, a, _, _, _, rfl, rfl, tp.sqt hq, rfl, _, rfl, S, C, dx, _, rfl, e4, TC.cl, TC.nG, (by show 1 < 1000; decide), ?_⟩
    have tp2 : Tps (upd H3 S (.ins C dx (putF "content" (.ref a) []))) (upd (upd H3 S (.ins C dx (putF "content" (.ref a) []))) S (.ins C dx (putF "globals" x (putF "content" (.ref a) [])))) := Tps.ins e4
    refine h _ ⟨dx, .ref a, x, ?_, (hv4.tps tp (noL_tr t)).tps tp2 (noL_tr t), (hx.tps tp (noL_nm _)).tps tp2 (noL_nm _)⟩ fun b o z hb => ?_
    · rw [upd_same]
      kernel_rfl
    · rw [upd_ne hb, upd_ne hb]
      exact s4 _ _ z
end

structure LsAt (H : Hp) (p c q : Addr) (xs : List V) : Prop where
  e : H q = some (.lst xs)
  n1 : q ≠ p
  n2 : q ≠ c
theorem LsAt.but {H H' : Hp} {p c q : Addr} {xs : List V} (h : LsAt H p c q xs) (b : But p c H H') : LsAt H' p c q xs := ⟨b _ _ h.e h.n1 h.n2, h.n1, h.n2⟩
theorem LsAt.same {H H' : Hp} {p c q : Addr} {xs : List V} (h : LsAt H p c q xs) (b : Same H H') : LsAt H' p c q xs := ⟨b _ _ h.e, h.n1, h.n2⟩
theorem LsAt.new {H : Hp} {p c q : Addr} {xs : List V} {lim : V} {n : Nat} (h : PoolAt H p c lim n) (hq : H q = none) : LsAt (upd H q (.lst xs)) p c q xs := ⟨upd_same, h.ne1 hq, h.ne2 hq⟩
theorem LsAt.upd {H : Hp} {p c q r : Addr} {xs : List V} {o : HO} (h : LsAt H p c q xs) (n : q ≠ r) : LsAt (upd H r o) p c q xs := ⟨by rw [upd_ne n]; exact h.e, h.n1, h.n2⟩
theorem cut_upto {l : List Str} {r : Int} (r0 : 0 ≤ r) : cutV (l.map V.str) none (some r) = (l.take r.toNat).map V.str := by
  obtain ⟨a, rfl⟩ : ∃ a : Nat, r = (a : Int) := ⟨r.toNat, by omega⟩
  rw [cut_take, List.map_take, Int.toNat_natCast]
theorem But.tps {p c : Addr} {H H' : Hp} {lim : V} {n : Nat} (b : But p c H H') (P0 : PoolAt H p c lim n) : Tps H H' := by
  obtain ⟨i, cs, cn, sd, md, e1, e2, _⟩ := P0
  exact ⟨fun a xs e => b _ _ e (ne_of e e1 (by intro z; cases z)) (ne_of e e2 (by intro z; cases z)), fun a o xs e => b _ _ e (ne_of e e1 (by intro z; cases z)) (ne_of e e2 (by intro z; cases z))⟩

/-! ### the law's drawn programs: expressions, args, calls -/
theorem bb_sorted : bootBuiltins "sorted" = some (.builtin "sorted") := by decide +kernel
structure TxGen (mg : Str → Option Value) : Prop where
  n_sorted : mg "sorted" = none
  n_tuple : mg "tuple" = none
  n_range : mg "range" = none
  n_len : mg "len" = none
theorem nl_tr {a b c : List Nat} (h1 : ¬ b < a) (h2 : ¬ c < b) : ¬ c < a := fun h => (List.le_trans (α := Nat) h1 h2) h
theorem rise_pw : ∀ (l : List Str) (p : Str), PyProof.Rows.risingS p l = true → (p :: l).Pairwise fun a b => ¬ b.cps.toList < a.cps.toList
  | [], p, _ => List.pairwise_singleton _ _
  | x :: r, p, h => by
    have h : (!PySem.Spec.ltCps x.cps.toList p.cps.toList && PyProof.Rows.risingS x r) = true := h
    rw [Bool.and_eq_true, Bool.not_eq_true', PyProof.Rows.ltCps_eq, decide_eq_false_iff_not] at h
    have ih := rise_pw r x h.2
    refine List.pairwise_cons.mpr ⟨fun y hy => ?_, ih⟩
    rcases List.mem_cons.mp hy with rfl | hy
    · exact h.1
    · exact nl_tr h.1 ((List.pairwise_cons.mp ih).1 y hy)
def asc (a b : Str) : Prop := a.cps.toList < b.cps.toList
theorem sort_asc {l : List Str} (h : PyProof.Rows.sortedS l = true) (nd : l.Nodup) : l.Pairwise asc := by
  have pw : l.Pairwise fun a b => ¬ b.cps.toList < a.cps.toList := by
    cases l with
    | nil => exact .nil
    | cons x r => exact rise_pw r x h
  refine (List.Pairwise.and pw nd).imp fun {a b} ⟨h1, h2⟩ => ?_
  unfold asc
  rcases Classical.em (a.cps.toList < b.cps.toList) with z | z
  · exact z
  · exact absurd (TL.ext_tl (List.le_antisymm (α := Nat) h1 z)) h2
/-- an expression over some names, with small numbers -/
structure EX (own : List Str) (e : Ex) : Prop where
  c : -3 ≤ e.c ∧ e.c ≤ 3
  nm : ∀ p ∈ e.ts, p.1 ∈ own ∧ p.2 ≠ 0 ∧ -4 ≤ p.2 ∧ p.2 ≤ 4
  up : (e.ts.map Prod.fst).Pairwise asc
  ln : e.ts.length ≤ own.length
theorem But.of {p c : Addr} {H H' : Hp} (s : Same H H') : But p c H H' := fun b o e _ _ => s b o e

/-! ### k10: _law_pick, _law_sum, _law_call -/
abbrev sLPk : Stmt := topS 75
abbrev NLPk : List Str := ["_law_pool_here", "_law_words"]
abbrev PLPk : List Str := ["_law_pool_here", "_law_words"]
theorem scLPk : FnScope NLPk PLPk (defScope sLPk) := ⟨rfl, rfl, rfl, by decide +kernel, rfl, by decide +kernel, by decide +kernel⟩
abbrev sLSu : Stmt := topS 76
abbrev NLSu : List Str := ["_law_pool_here", "_law_words", "_law_word"]
abbrev PLSu : List Str := ["_law_pool_here", "_law_words"]
theorem scLSu : FnScope NLSu PLSu (defScope sLSu) := ⟨rfl, rfl, rfl, by decide +kernel, rfl, by decide +kernel, by decide +kernel⟩
abbrev sLCl : Stmt := topS 77
abbrev NLCl : List Str := ["_law_pool_here", "_law_words", "_law_args", "_law_k"]
abbrev PLCl : List Str := ["_law_pool_here", "_law_words"]
theorem scLCl : FnScope NLCl PLCl (defScope sLCl) := ⟨rfl, rfl, rfl, by decide +kernel, rfl, by decide +kernel, by decide +kernel⟩
structure EX2 (ws : List Str) (e : Ex) : Prop where
  c : e.c = 1
  nm : ∀ p ∈ e.ts, p.1 ∈ ws ∧ (p.2 = 2 ∨ p.2 = 3)
  up : (e.ts.map Prod.fst).Pairwise asc
  ln : e.ts.length ≤ ws.length
def WdAt (H : Hp) (p c w : Addr) (ws : List Str) : Prop := LsAt H p c w (ws.map V.str) ∧ ws.Nodup ∧ 2 ≤ ws.length ∧ ws.length ≤ 16
theorem WdAt.but {H H' : Hp} {p c w : Addr} {ws : List Str} (h : WdAt H p c w ws) (b : But p c H H') : WdAt H' p c w ws := ⟨h.1.but b, h.2⟩
theorem WdAt.same {H H' : Hp} {p c w : Addr} {ws : List Str} (h : WdAt H p c w ws) (b : Same H H') : WdAt H' p c w ws := ⟨h.1.same b, h.2⟩
def spLPk : Sp := fun vs H Q _ => ∃ (p c w : Addr) (lim : V) (n : Nat) (ws : List Str), vs = [.ref p, .ref w] ∧ PoolAt H p c lim n ∧ n + 10 < 100000000000 ∧ LsAt H p c w (ws.map V.str) ∧ 1 ≤ ws.length ∧ ws.length ≤ 16 ∧
  ∀ (x : Str) (H' : Hp), x ∈ ws → PoolAt H' p c lim (n + 1) → But p c H H' → Q (.str x) H'
def spLSu (K : PySem.W.Frag) : Sp := fun vs H Q _ => ∃ (p c w : Addr) (lim : V) (n : Nat) (ws : List Str), vs = [.ref p, .ref w] ∧ PoolAt H p c lim n ∧ n + 100 < 100000000000 ∧ WdAt H p c w ws ∧
  ∀ (v : V) (e : Ex) (H' : Hp), EX2 ws e → Dp K H' v (exD e) → PoolAt H' p c lim (n + 20) → But p c H H' → Q v H'
def WA2 (ws : List Str) : Arg → Prop
  | .place n => n ∈ ws
  | .value e => EX2 ws e
structure WC2 (ws : List Str) (c : Cal) : Prop where
  hd : c.1 ∈ ws
  ln : c.2.length ≤ 2
  as : ∀ a ∈ c.2, WA2 ws a
def spLCl (K : PySem.W.Frag) : Sp := fun vs H Q _ => ∃ (p c w : Addr) (lim : V) (n : Nat) (ws : List Str), vs = [.ref p, .ref w] ∧ PoolAt H p c lim n ∧ n + 1000 < 100000000000 ∧ WdAt H p c w ws ∧
  ∀ (v : V) (cl : Cal) (H' : Hp), WC2 ws cl → Dp K H' v (calD cl) → PoolAt H' p c lim (n + 100) → But p c H H' → Q v H'
section
variable {P : Program} {w : World} {K : PySem.W.Frag} {mg : Str → Option Value} {base : Heap}
theorem ok_LPk {f : Addr} {fd : FuncData} (F : Fun K "_law_pick" "_law_pick" sLPk f fd) (T : TxGen mg) (GD : Has P w K mg base CX0 2 "_law_draw" PDraw spDraw) : FnOk P w K mg base CX0 3 f fd PLPk spLPk := by
  refine F.ok scLPk (fun vs H Q E h => ?_) (fun cdv A outer s H vs Q E hr h => ?_)
  · obtain ⟨p, c, w, lim, n, ws, rfl, _⟩ := h
    rfl
  · obtain ⟨p, c, w, lim, n, ws, rfl, P0, hn, lw, l1, l2, k⟩ := h
    refine ⟨_, (pss_one (ps_ret (pe_ix (r := rIxL K) ix_list (pv 1) (pe_callH GD hr rfl pass0 (pa_cons (pv 0) (pa_cons (pe_callB call_len_seq (by rfl) T.n_len bb_len (pa_cons (pv 1) pa_nil)) pa_nil))) (fun _ _ => rfl)))), ?_⟩
    refine ⟨_, rfl, _, rfl, _, rfl, w, _, rfl, .inl (SqL.of lw.e), p, c, lim, n, _, rfl, P0, by omega, by rw [List.length_map]; omega, by rw [List.length_map]; omega, fun r H4 r0 r1 P4 b4 => ?_⟩
    obtain ⟨x, hx, mx⟩ := atI_in (xs := ws.map V.str) r0 r1
    obtain ⟨nm, hnm, rfl⟩ := List.mem_map.mp mx
    exact ⟨w, _, _, _, rfl, rfl, SqL.of (lw.but b4).e, hx, k nm H4 hnm P4 b4⟩
theorem ok_LSu {f : Addr} {fd : FuncData} (F : Fun K "_law_sum" "_law_sum" sLSu f fd) (T : TxGen mg) (GD : Has P w K mg base CX0 2 "_law_draw" PDraw spDraw) : FnOk P w K mg base CX0 3 f fd PLSu (spLSu K) := by
  refine F.ok scLSu (fun vs H Q E h => ?_) (fun cdv A outer s H vs Q E hr h => ?_)
  · obtain ⟨p, c, w, lim, n, ws, rfl, _⟩ := h
    rfl
  · obtain ⟨p, c, w, lim, n, ws, rfl, P0, hn, ⟨lw, nd, l1, l2⟩, k⟩ := h
    refine ⟨_, (pss_one (ps_ret (pe_tup (pa_cons pe_int (pa_cons (pe_callTy call_tuple_of (by rfl) T.n_tuple bb_tuple (pa_cons (pe_lc (own := [("_law_word", 2)]) (g := gName 2) rfl scLSu.nd (pi_list (pe_callB cr_sortedS (by rfl) T.n_sorted bb_sorted (pa_cons (pv 1) pa_nil))) (blkOk_by (own := [("_law_word", 2)]) (N := NLSu) (sc := (defScope sLSu)) (by decide +kernel)) (fun _ _ _ _ _ => (pg_name (i := 2) scLSu.nd rfl (Or.inl rfl))) (fun _ _ _ _ _ => (pts_one (pt_cmpR op_eq (pe_callH GD hr rfl pass0 (pa_cons (pv 0) (pa_cons pe_int pa_nil))) pe_int (nomark _)))) (fun _ _ _ _ _ => (pe_tup (pa_cons (pv 2) (pa_cons pe_int pa_nil))))) pa_nil)) pa_nil))))), ?_⟩
    refine ⟨_, rfl, w, ws, rfl, SqL.of lw.e, by omega, fun ys L perm srt hL => ?_⟩
    have s2 := same_new (o := .lst (ys.map V.str)) hL
    have P2 := P0.same s2
    have ly : ys.length = ws.length := perm.length_eq
    have as := sort_asc srt (perm.nodup_iff.mpr nd)
    have L2 : LsAt (upd H L (.lst (ys.map V.str))) p c L (ys.map V.str) := LsAt.new P0 hL
    generalize upd H L (.lst (ys.map V.str)) = H2 at *
    refine ⟨L, rfl, ⟨_, SqL.of L2.e⟩, fun D hD => ?_⟩
    have Dp' := P2.ne1 hD
    have Dc' := P2.ne2 hD
    have LD : L ≠ D := ne_of_none L2.e hD
    refine lc_list (K := K) (a := L) (xs := ys.map V.str) (fun j H' => PoolAt H' p c lim (n + j) ∧ But p c H2 H' ∧ LsAt H' p c L (ys.map V.str) ∧ ∃ (us : List V) (es : List (Str × Int)), H' D = some (.lst us) ∧ us.length ≤ j ∧ Paired (fun x pr => Dp K H' x (.tuple [.str pr.1, .int pr.2])) us es ∧ (∀ pr ∈ es, pr.2 = 2) ∧ (es.map Prod.fst).Sublist (ys.take j))
      ⟨P2.same (same_new hD), But.of (same_new hD), L2.same (same_new hD), [], [], upd_same, Nat.le_refl _, .nil, fun _ z => (nomatch z), List.Sublist.refl _⟩ (fun j H' _ h' => SqL.of h'.2.2.1.e) ?_ ?_
    · rintro j x H3 hx ⟨P3, b3, L3, us, es, eq3, lu, pu, pe, sub⟩
      have hj : j < ys.length := by
        have := (List.getElem?_eq_some_iff.mp hx).1
        rwa [List.length_map] at this
      obtain ⟨nm, hnm⟩ : ∃ nm, ys[j]? = some nm := ⟨_, List.getElem?_eq_getElem hj⟩
      rw [List.getElem?_map, hnm] at hx
      simp only [Option.map_some, Option.some.injEq] at hx
      subst hx
      refine ⟨rfl, _, rfl, p, c, lim, n + j, 4, rfl, P3, by omega, by decide, by decide, fun r H4 r0 r1 P4 b4 => ?_⟩
      have b34 := b3.trans b4
      have L4 := L3.but b4
      have eq4 := b4 _ _ eq3 Dp' Dc'
      have pu4 : Paired (fun x pr => Dp K H4 x (.tuple [.str pr.1, .int pr.2])) us es := Paired.mapP pu fun _ pr z => Dp.tps (b4.tps P3) z rfl
      have sub2 : (es.map Prod.fst).Sublist (ys.take (j + 1)) := sub.trans (List.take_sublist_take_left (Nat.le_succ j))
      refine ⟨rfl, _, rfl, ite2 (fun hc => ?_) (fun hc => ?_)⟩
      · refine ⟨_, rfl, (by show 2 ≤ sizeLine; decide), fun t ht => ?_⟩
        have s5 := same_new (o := .tup [V.str nm, V.int 2]) ht
        have eq5 := s5 _ _ eq4
        refine ⟨_, eq5, small1000 (by omega), ?_⟩
        have t5 : Tps (upd H4 t (.tup [V.str nm, V.int 2])) (upd (upd H4 t (.tup [V.str nm, V.int 2])) D (.lst (us ++ [.ref t]))) := Tps.lst eq5
        have t6 := (Tps.of s5).trans t5
        refine ⟨(P4.same s5).upd Dp' Dc', fun b o z h1 h2 => ?_, (L4.same s5).upd LD, us ++ [.ref t], es ++ [(nm, 2)], upd_same, by rw [List.length_append]; show us.length + 1 ≤ j + 1; omega, ?_, ?_, ?_⟩
        · rw [upd_ne (ne_of_none z hD)]
          exact s5 _ _ (b34 _ _ z h1 h2)
        · exact Paired.snoc (Paired.mapP pu4 fun _ pr z => Dp.tps t6 z rfl) (.tup (SqT.of (t5.1 _ _ upd_same)) (.cons (.str _) (.cons (.int _) .nil)))
        · intro pr hpr
          rcases List.mem_append.mp hpr with z | z
          · exact pe pr z
          · rw [List.mem_singleton.mp z]
        · rw [List.map_append, take_snoc hnm]
          exact List.Sublist.append sub (List.Sublist.refl _)
      · exact ⟨P4, b34, L4, us, es, eq4, by omega, pu4, pe, sub2⟩
    · rintro H3 ⟨P3, b3, L3, us, es, eq3, lu, pu, pe, sub⟩
      rw [List.length_map] at P3 sub lu
      rw [List.take_length] at sub
      refine ⟨D, us, rfl, .inl ⟨SqL.of eq3, fun l hl => ?_⟩⟩
      have s5 := same_new (o := .tup us) hl
      refine ⟨(by show 2 ≤ sizeLine; decide), fun t ht => ?_⟩
      have s6 := same_new (o := .tup [.int 1, .ref l]) ht
      have lse := sub.length_le
      rw [List.length_map] at lse
      refine k _ ⟨1, es⟩ _ ⟨rfl, fun q hq => ?_, as.sublist sub, by show es.length ≤ _; omega⟩ (.tup (SqT.of upd_same) (.cons (.int _) (.cons (.tup (SqT.same s6 (SqT.of upd_same)) (DpAll.ofPaired (Paired.mapP pu fun _ _ z => z.same (s5.trans s6)))) .nil))) (((P3.same s5).same s6).mono (by omega)) (fun b o z h1 h2 => s6 _ _ (s5 _ _ (b3 _ _ (s2 _ _ z) h1 h2)))
      exact ⟨perm.mem_iff.mp (sub.subset (List.mem_map.mpr ⟨q, hq, rfl⟩)), .inl (pe q hq)⟩
theorem ok_LCl {f : Addr} {fd : FuncData} (F : Fun K "_law_call" "_law_call" sLCl f fd) (T : TxGen mg) (GD : Has P w K mg base CX0 2 "_law_draw" PDraw spDraw) (GP : Has P w K mg base CX0 3 "_law_pick" PLPk spLPk) (GS : Has P w K mg base CX0 3 "_law_sum" PLSu (spLSu K)) : FnOk P w K mg base CX0 4 f fd PLCl (spLCl K) := by
  refine F.ok scLCl (fun vs H Q E h => ?_) (fun cdv A outer s H vs Q E hr h => ?_)
  · obtain ⟨p, c, w, lim, n, ws, rfl, _⟩ := h
    rfl
  · obtain ⟨p, c, w, lim, n, ws, rfl, P0, hn, lw, k⟩ := h
    have hr2 := hr.mono (j := 2) (by omega)
    refine ⟨_, (pss_cons (ps_set (i := 2) scLCl.nd rfl (Or.inl rfl) (pe_lst pa_nil))
  (pss_cons (ps_for PassesOwn.never rfl (pi_range1 (by rfl) T.n_range (pa_cons (pe_callH GD hr2 rfl pass0 (pa_cons (pv 0) (pa_cons pe_int pa_nil))) pa_nil)) (pg_name (i := 3) scLCl.nd rfl (Or.inl rfl))
  (pss_one (ps_expr (pe_bm PySem.F.plainAttrs_list PySem.F.slot_list_append PySem.F.type_list_append mt_append (pv 2) (pa_cons (pe_ifExp (pt_cmpR op_eq (pe_callH GD hr2 rfl pass0 (pa_cons (pv 0) (pa_cons pe_int pa_nil))) pe_int (nomark _)) (pe_tup (pa_cons pe_str (pa_cons (pe_callH GP hr rfl pass0 (pa_cons (pv 0) (pa_cons (pv 1) pa_nil))) pa_nil))) (pe_tup (pa_cons pe_str (pa_cons (pe_callH GS hr rfl pass0 (pa_cons (pv 0) (pa_cons (pv 1) pa_nil))) pa_nil)))) pa_nil)))))
  (pss_one (ps_ret (pe_tup (pa_cons (pe_callH GP hr rfl pass0 (pa_cons (pv 0) (pa_cons (pv 1) pa_nil))) (pa_cons (pe_callTy call_tuple_of (by rfl) T.n_tuple bb_tuple (pa_cons (pv 2) pa_nil)) pa_nil))))))), ?_⟩
    refine ⟨(by show 0 ≤ sizeLine; decide), fun q hq => ?_⟩
    have s1 := same_new (o := .lst []) hq
    have P1 := P0.same s1
    have qp := P0.ne1 hq
    have qc := P0.ne2 hq
    have qw : w ≠ q := ne_of_none lw.1.e hq
    have lw1 := lw.same s1
    have e1 : upd H q (.lst []) q = some (.lst []) := upd_same
    generalize upd H q (.lst []) = H1 at *
    refine ⟨_, rfl, p, c, lim, n, 3, rfl, P1, by omega, by decide, by decide, fun r H2 r0 r1 P2 b2 => ?_⟩
    have eq2 := b2 _ _ e1 qp qc
    have b12 : But p c H H2 := (But.of s1).trans b2
    have lw2 := lw1.but b2
    refine ⟨r, rfl, by omega, by omega, ?_⟩
    refine for_range (lo := 0) (n := r.toNat) (fun i σ H' => (∃ x3 : Option V, σ = [some (.ref p), some (.ref w), some (.ref q), x3]) ∧ PoolAt H' p c lim (n + 1 + 30 * i) ∧ But p c H H' ∧ WdAt H' p c w ws ∧ ∃ (us : List V) (as : List Arg), H' q = some (.lst us) ∧ us.length = i ∧ Paired (fun x g => Dp K H' x (argD g)) us as ∧ ∀ g ∈ as, WA2 ws g)
      ⟨⟨_, rfl⟩, P2, b12, lw2, [], [], eq2, rfl, .nil, fun _ z => (nomatch z)⟩ ?_ ?_
    · rintro i σ H3 hi ⟨⟨x3, rfl⟩, P3, b3, lw3, us, as, eq3, lu, pu, pw⟩
      have fin : ∀ (H5 : Hp) (t : Addr) (ga : Arg), WA2 ws ga → H5 q = some (.lst us) → But p c H3 H5 → PoolAt H5 p c lim (n + 1 + 30 * i + 30) → Dp K H5 (.ref t) (argD ga) → us.length < sizeLine ∧
          ((∃ x3 : Option V, [some (V.ref p), some (.ref w), some (.ref q), some (.int (0 + (i : Int)))] = [some (V.ref p), some (.ref w), some (.ref q), x3]) ∧ PoolAt (upd H5 q (.lst (us ++ [.ref t]))) p c lim (n + 1 + 30 * (i + 1)) ∧ But p c H (upd H5 q (.lst (us ++ [.ref t]))) ∧ WdAt (upd H5 q (.lst (us ++ [.ref t]))) p c w ws ∧ ∃ (us' : List V) (as : List Arg), upd H5 q (.lst (us ++ [.ref t])) q = some (.lst us') ∧ us'.length = i + 1 ∧ Paired (fun x g => Dp K (upd H5 q (.lst (us ++ [.ref t]))) x (argD g)) us' as ∧ ∀ g ∈ as, WA2 ws g) := by
        intro H5 t ga wa eq5 b5 P5 dt
        have t5 : Tps H5 (upd H5 q (.lst (us ++ [.ref t]))) := Tps.lst eq5
        refine ⟨small1000 (by omega), ⟨_, rfl⟩, ?_, fun b o z h1 h2 => ?_, ⟨(lw3.but b5).1.upd qw, lw.2⟩, us ++ [.ref t], as ++ [ga], upd_same, by rw [List.length_append, lu]; rfl, ?_, ?_⟩
        · exact (P5.upd qp qc).mono (by omega)
        · rw [upd_ne (ne_of_none z hq)]
          exact b5 _ _ (b3 _ _ z h1 h2) h1 h2
        · exact Paired.snoc (Paired.mapP pu fun _ g z => Dp.tps ((b5.tps P3).trans t5) z (noL_arg g)) (Dp.tps t5 dt (noL_arg ga))
        · intro g hgm
          rcases List.mem_append.mp hgm with z | z
          · exact pw g z
          · rw [List.mem_singleton.mp z]; exact wa
      refine ⟨_, rfl, .inl ⟨rfl, _, SqL.of eq3⟩, _, rfl, p, c, lim, n + 1 + 30 * i, 3, rfl, P3, by omega, by decide, by decide, fun r2 H4 q0 q1 P4 b4 => ⟨rfl, _, rfl, ite2 (fun hc => ?_) (fun hc => ?_)⟩⟩
      · have l2 := lw3.2.2
        refine ⟨_, rfl, _, rfl, p, c, w, lim, n + 1 + 30 * i + 1, ws, rfl, P4, by omega, (lw3.but b4).1, by omega, by omega, fun x H5 hx P5 b5 => ?_⟩
        have b45 := b4.trans b5
        refine ⟨(by show 2 ≤ sizeLine; decide), fun t ht => ?_⟩
        have s6 := same_new (o := .tup [V.str "place", V.str x]) ht
        obtain ⟨f1, f2⟩ := fin _ t (.place x) hx (s6 _ _ (b45 _ _ eq3 qp qc)) (fun b o z h1 h2 => s6 _ _ (b45 _ _ z h1 h2)) ((P5.same s6).mono (by omega)) (.tup (SqT.of upd_same) (.cons (.str _) (.cons (.str _) .nil)))
        exact ⟨q, _, _, rfl, rfl, s6 _ _ (b45 _ _ eq3 qp qc), f1, f2⟩
      · refine ⟨_, rfl, _, rfl, p, c, w, lim, n + 1 + 30 * i + 1, ws, rfl, P4, by omega, lw3.but b4, fun v e H5 ex dv P5 b5 => ?_⟩
        have b45 := b4.trans b5
        refine ⟨(by show 2 ≤ sizeLine; decide), fun t ht => ?_⟩
        have s6 := same_new (o := .tup [V.str "value", v]) ht
        obtain ⟨f1, f2⟩ := fin _ t (.value e) ex (s6 _ _ (b45 _ _ eq3 qp qc)) (fun b o z h1 h2 => s6 _ _ (b45 _ _ z h1 h2)) ((P5.same s6).mono (by omega)) (.tup (SqT.of upd_same) (.cons (.str _) (.cons (dv.same s6) .nil)))
        exact ⟨q, _, _, rfl, rfl, s6 _ _ (b45 _ _ eq3 qp qc), f1, f2⟩
    · rintro σ H3 ⟨⟨x3, rfl⟩, P3, b3, lw3, us, as, eq3, lu, pu, pw⟩
      have l2 := lw3.2.2
      refine ⟨_, rfl, _, rfl, p, c, w, lim, _, ws, rfl, P3, by omega, lw3.1, by omega, by omega, fun x H4 hx P4 b4 => ?_⟩
      have eq4 := b4 _ _ eq3 qp qc
      have pu4 := Paired.mapP pu fun _ g z => Dp.tps (b4.tps P3) z (noL_arg g)
      refine ⟨_, rfl, q, us, rfl, .inl ⟨SqL.of eq4, fun l hl => ?_⟩⟩
      have s5 := same_new (o := .tup us) hl
      refine ⟨(by show 2 ≤ sizeLine; decide), fun t ht => ?_⟩
      have s6 := same_new (o := .tup [.str x, .ref l]) ht
      have lub := Paired.length pu
      exact k _ (x, as) _ ⟨hx, by show as.length ≤ 2; omega, pw⟩ (.tup (SqT.of upd_same) (.cons (.str _) (.cons (.tup (SqT.same s6 (SqT.of upd_same)) (DpAll.ofPaired (Paired.mapP pu4 fun _ _ z => z.same (s5.trans s6)))) .nil))) (((P4.same s5).same s6).mono (by omega)) (fun b o z h1 h2 => s6 _ _ (s5 _ _ (b4 _ _ (b3 _ _ z h1 h2) h1 h2)))
end

/-! ### k10: _law_piece -/
abbrev sLPi : Stmt := topS 78
abbrev NLPi : List Str := ["_law_pool_here", "_law_words", "_law_depth", "_law_choice", "_law_inner"]
abbrev PLPi : List Str := ["_law_pool_here", "_law_words", "_law_depth"]
theorem scLPi : FnScope NLPi PLPi (defScope sLPi) := ⟨rfl, rfl, rfl, by decide +kernel, rfl, by decide +kernel, by decide +kernel⟩
inductive PcK (ws : List Str) : Nat → St → Prop
  | set {d : Nat} {x : Str} {e : Ex} (hx : x ∈ ws) (he : EX2 ws e) : PcK ws d (.set x e)
  | input {d : Nat} {x : Str} (hx : x ∈ ws) : PcK ws d (.input x)
  | call {d : Nat} {o : Option Str} {c : Cal} (ho : ∀ y, o = some y → y ∈ ws) (hc : WC2 ws c) : PcK ws d (.call o c.1 c.2)
  | raise {d : Nat} {x : Str} (hx : x ∈ ws) : PcK ws d (.raise x)
  | risk {d : Nat} {x : Str} (hx : x ∈ ws) : PcK ws d (.risk [x])
  | ret {d : Nat} {e : Ex} (he : EX2 ws e) : PcK ws d (.ret e)
  | ite {d : Nat} {s : St} (h : PcK ws d s) : PcK ws (d + 1) (.ite [s] [])
  | whl {d : Nat} {s : St} (h : PcK ws d s) : PcK ws (d + 1) (.whl [s])
  | undo {d : Nat} {s : St} {x y : Str} (hx : x ∈ ws) (hy : y ∈ ws) (h : PcK ws d s) : PcK ws (d + 1) (.undo [x, y] [s])
  | with_ {d : Nat} {s : St} {x : Str} {e l : Cal} (he : WC2 ws e) (hl : WC2 ws l) (hx : x ∈ ws) (h : PcK ws d s) : PcK ws (d + 1) (.with_ e l [x] [s])
  | try_ {d : Nat} {s : St} {x : Str} (hx : x ∈ ws) (h : PcK ws d s) : PcK ws (d + 1) (.try_ [] [.mk [x] []] [s])
def opV : Option Str → V
  | none => .non
  | some x => .str x
def spLPi (K : PySem.W.Frag) (m : Nat) : Sp := fun vs H Q _ => ∃ (p c w : Addr) (lim : V) (n : Nat) (ws : List Str) (j : Nat), vs = [.ref p, .ref w, .int (j : Int)] ∧ j < m ∧ PoolAt H p c lim n ∧ n + 1000 * (j + 1) < 10000000000 ∧ WdAt H p c w ws ∧
  ∀ (v : V) (s : St) (H' : Hp), PcK ws j s → Dp K H' v (stD s) → PoolAt H' p c lim (n + 1000 * (j + 1)) → But p c H H' → Q v H'
section
variable {P : Program} {w : World} {K : PySem.W.Frag} {mg : Str → Option Value} {base : Heap}
theorem ok_LPi {m : Nat} {f : Addr} {fd : FuncData} (F : Fun K "_law_piece" "_law_piece" sLPi f fd) (T : TxGen mg) (GD : Has P w K mg base CX0 2 "_law_draw" PDraw spDraw) (GP : Has P w K mg base CX0 3 "_law_pick" PLPk spLPk) (GS : Has P w K mg base CX0 3 "_law_sum" PLSu (spLSu K)) (GC : Has P w K mg base CX0 4 "_law_call" PLCl (spLCl K)) (GR : Has P w K mg base CX0 (5 + m) "_law_piece" PLPi (spLPi K m)) : FnOk P w K mg base CX0 (5 + m + 1) f fd PLPi (spLPi K (m + 1)) := by
  refine F.ok scLPi (fun vs H Q E h => ?_) (fun cdv A outer s H vs Q E hr h => ?_)
  · obtain ⟨p, c, w, lim, n, ws, j, rfl, _⟩ := h
    rfl
  · obtain ⟨p, c, w, lim, n, ws, j, rfl, hj, P0, hn, lw, k⟩ := h
    have hr2 := hr.mono (j := 2) (by omega)
    have hr3 := hr.mono (j := 3) (by omega)
    have hr4 := hr.mono (j := 4) (by omega)
    refine ⟨_, (pss_cons (ps_set (i := 3) scLPi.nd rfl (Or.inl rfl) (pe_callH GD hr2 rfl pass0 (pa_cons (pv 0) (pa_cons pe_int pa_nil))))
  (pss_cons (ps_if (pt_cmpR op_lt (pv 3) pe_int (nomark _))
  (pss_one (ps_ret (pe_tup (pa_cons pe_str (pa_cons (pe_callH GP hr3 rfl pass0 (pa_cons (pv 0) (pa_cons (pv 1) pa_nil))) (pa_cons (pe_callH GS hr3 rfl pass0 (pa_cons (pv 0) (pa_cons (pv 1) pa_nil))) pa_nil))))))
  pss_nil)
  (pss_cons (ps_if (pt_cmpR op_lt (pv 3) pe_int (nomark _))
  (pss_one (ps_ret (pe_tup (pa_cons pe_str (pa_cons (pe_callH GP hr3 rfl pass0 (pa_cons (pv 0) (pa_cons (pv 1) pa_nil))) pa_nil)))))
  pss_nil)
  (pss_cons (ps_if (pt_cmpR op_lt (pv 3) pe_int (nomark _))
  (pss_one (ps_ret (pe_op op_catT (pe_tup (pa_cons pe_str (pa_cons (pe_ix (r := rIxL K) ix_list (pe_lst (pa_cons pe_non (pa_cons (pe_callH GP hr3 rfl pass0 (pa_cons (pv 0) (pa_cons (pv 1) pa_nil))) pa_nil))) (pe_callH GD hr2 rfl pass0 (pa_cons (pv 0) (pa_cons pe_int pa_nil))) (fun _ _ => rfl)) pa_nil))) (pe_callH GC hr4 rfl pass0 (pa_cons (pv 0) (pa_cons (pv 1) pa_nil))))))
  pss_nil)
  (pss_cons (ps_if (pt_cmpR op_lt (pv 3) pe_int (nomark _))
  (pss_one (ps_ret (pe_ix (r := rIxL K) ix_list (pe_lst (pa_cons (pe_tup (pa_cons pe_str (pa_cons (pe_callH GP hr3 rfl pass0 (pa_cons (pv 0) (pa_cons (pv 1) pa_nil))) pa_nil))) (pa_cons (pe_tup (pa_cons pe_str (pa_cons (pe_tup (pa_cons (pe_callH GP hr3 rfl pass0 (pa_cons (pv 0) (pa_cons (pv 1) pa_nil))) pa_nil)) pa_nil))) pa_nil))) (pe_callH GD hr2 rfl pass0 (pa_cons (pv 0) (pa_cons pe_int pa_nil))) (fun _ _ => rfl))))
  pss_nil)
  (pss_cons (ps_if (PW.pt (pw_or (pt_cmpR op_eq (pv 2) pe_int (nomark _)) (pw_or1 (pt_cmpR op_lt (pv 3) pe_int (nomark _)))))
  (pss_one (ps_ret (pe_tup (pa_cons pe_str (pa_cons (pe_callH GS hr3 rfl pass0 (pa_cons (pv 0) (pa_cons (pv 1) pa_nil))) pa_nil)))))
  pss_nil)
  (pss_cons (ps_set (i := 4) scLPi.nd rfl (Or.inl rfl) (pe_tup (pa_cons (pe_callH GR hr rfl pass0 (pa_cons (pv 0) (pa_cons (pv 1) (pa_cons (pe_op op_sub (pv 2) pe_int) pa_nil)))) pa_nil)))
  (pss_cons (ps_if (pt_cmpR op_lt (pv 3) pe_int (nomark _))
  (pss_one (ps_ret (pe_ifExp (pt_cmpR op_gt (pe_callH GD hr2 rfl pass0 (pa_cons (pv 0) (pa_cons pe_int pa_nil))) pe_int (nomark _)) (pe_tup (pa_cons pe_str (pa_cons (pv 4) (pa_cons (pe_tup pa_nil) pa_nil)))) (pe_tup (pa_cons pe_str (pa_cons (pv 4) pa_nil))))))
  pss_nil)
  (pss_cons (ps_if (pt_cmpR op_lt (pv 3) pe_int (nomark _))
  (pss_one (ps_ret (pe_tup (pa_cons pe_str (pa_cons (pe_tup (pa_cons (pe_callH GP hr3 rfl pass0 (pa_cons (pv 0) (pa_cons (pv 1) pa_nil))) (pa_cons (pe_callH GP hr3 rfl pass0 (pa_cons (pv 0) (pa_cons (pv 1) pa_nil))) pa_nil))) (pa_cons (pv 4) pa_nil))))))
  pss_nil)
  (pss_cons (ps_if (pt_cmpR op_lt (pv 3) pe_int (nomark _))
  (pss_one (ps_ret (pe_tup (pa_cons pe_str (pa_cons (pe_callH GC hr4 rfl pass0 (pa_cons (pv 0) (pa_cons (pv 1) pa_nil))) (pa_cons (pe_callH GC hr4 rfl pass0 (pa_cons (pv 0) (pa_cons (pv 1) pa_nil))) (pa_cons (pe_tup (pa_cons (pe_callH GP hr3 rfl pass0 (pa_cons (pv 0) (pa_cons (pv 1) pa_nil))) pa_nil)) (pa_cons (pv 4) pa_nil))))))))
  pss_nil)
  (pss_one (ps_ret (pe_tup (pa_cons pe_str (pa_cons (pe_tup pa_nil) (pa_cons (pe_tup (pa_cons (pe_tup (pa_cons (pe_tup (pa_cons (pe_callH GP hr3 rfl pass0 (pa_cons (pv 0) (pa_cons (pv 1) pa_nil))) pa_nil)) (pa_cons (pe_tup pa_nil) pa_nil))) pa_nil)) (pa_cons (pv 4) pa_nil))))))))))))))))), ?_⟩
    have l1 := lw.2.2.1
    have l2 := lw.2.2.2
    refine ⟨_, rfl, p, c, lim, n, 11, rfl, P0, by omega, by decide, by decide, fun r H1 r0 r1 P1 b1 => ?_⟩
    have lw1 := lw.but b1
    refine ⟨_, rfl, _, _, rfl, rfl, _, rfl, ite2 (fun h1 => ?_) (fun h1 => ?_)⟩
    · -- set
      refine ⟨_, rfl, _, rfl, p, c, w, lim, n + 1, ws, rfl, P1, by omega, lw1.1, by omega, by omega, fun x H2 hx P2 b2 => ?_⟩
      refine ⟨_, rfl, _, rfl, p, c, w, lim, n + 1 + 1, ws, rfl, P2, by omega, lw1.but b2, fun v e H3 he dv P3 b3 => ?_⟩
      refine ⟨(by show 3 ≤ sizeLine; decide), fun t ht => ?_⟩
      have s4 := same_new (o := .tup [V.str "set", V.str x, v]) ht
      exact k _ (.set x e) _ (.set hx he) (.tup (SqT.of upd_same) (.cons (.str _) (.cons (.str _) (.cons (dv.same s4) .nil)))) ((P3.same s4).mono (by omega)) (((b1.trans b2).trans b3).trans (But.of s4))
    refine ⟨_, rfl, _, _, rfl, rfl, _, rfl, ite2 (fun h2 => ?_) (fun h2 => ?_)⟩
    · -- input
      refine ⟨_, rfl, _, rfl, p, c, w, lim, n + 1, ws, rfl, P1, by omega, lw1.1, by omega, by omega, fun x H2 hx P2 b2 => ?_⟩
      refine ⟨(by show 2 ≤ sizeLine; decide), fun t ht => ?_⟩
      have s4 := same_new (o := .tup [V.str "input", V.str x]) ht
      exact k _ (.input x) _ (.input hx) (.tup (SqT.of upd_same) (.cons (.str _) (.cons (.str _) .nil))) ((P2.same s4).mono (by omega)) ((b1.trans b2).trans (But.of s4))
    refine ⟨_, rfl, _, _, rfl, rfl, _, rfl, ite2 (fun h3 => ?_) (fun h3 => ?_)⟩
    · -- call
      refine ⟨_, rfl, _, rfl, p, c, w, lim, n + 1, ws, rfl, P1, by omega, lw1.1, by omega, by omega, fun x H2 hx P2 b2 => ?_⟩
      have lw2 := lw1.but b2
      refine ⟨(by show 2 ≤ sizeLine; decide), fun D hD => ?_⟩
      have s3 := same_new (o := .lst [.non, .str x]) hD
      have P3 := P2.same s3
      have eD3 : upd H2 D (.lst [.non, .str x]) D = some (.lst [.non, .str x]) := upd_same
      have nDp := P2.ne1 hD
      have nDc := P2.ne2 hD
      have lw3 := lw2.same s3
      generalize upd H2 D (.lst [.non, .str x]) = H3 at *
      refine ⟨_, rfl, p, c, lim, n + 1 + 1, 2, rfl, P3, by omega, by decide, by decide, fun r2 H4 q0 q1 P4 b4 => ?_⟩
      have eD4 := b4 _ _ eD3 nDp nDc
      have lw4 := lw3.but b4
      obtain ⟨o, ho, hoa⟩ : ∃ o : Option Str, (∀ y, o = some y → y ∈ ws) ∧ atI [V.non, V.str x] r2 = some (opV o) := by
        have : r2 = 0 ∨ r2 = 1 := by omega
        rcases this with rfl | rfl
        · exact ⟨none, fun y z => (by cases z), rfl⟩
        · exact ⟨some x, fun y z => (by cases z; exact hx), rfl⟩
      refine ⟨D, _, _, _, rfl, rfl, SqL.of eD4, hoa, (by show 2 ≤ sizeLine; decide), fun t ht => ?_⟩
      have s5 := same_new (o := .tup [V.str "call", opV o]) ht
      have P5 := P4.same s5
      have et5 : SqT K (upd H4 t (.tup [V.str "call", opV o])) t [V.str "call", opV o] := SqT.of upd_same
      have lw5 := lw4.same s5
      generalize upd H4 t (.tup [V.str "call", opV o]) = H5 at *
      refine ⟨_, rfl, _, rfl, p, c, w, lim, n + 1 + 1 + 1, ws, rfl, P5, by omega, lw5, fun v cl H6 wc dv P6 b6 => ?_⟩
      have dv' : Dp K H6 v (.tuple [.str cl.1, .tuple (cl.2.map argD)]) := dv
      obtain ⟨b, ys, rfl, hb, hbd⟩ := dv'.tupInv
      obtain ⟨y1, y2, rfl, d1, d2⟩ := hbd.two
      refine ⟨t, b, _, _, rfl, rfl, (b6.tps P5).sqt et5, hb, List.cons_ne_nil _ _, by show 4 ≤ sizeLine; decide, fun z => absurd z (List.cons_ne_nil _ _), fun _ q hq => ?_⟩
      have s7 := same_new (o := .tup ([V.str "call", opV o] ++ [y1, y2])) hq
      have b16 := ((((b1.trans b2).trans (But.of s3)).trans b4).trans (But.of s5)).trans b6
      refine k _ (.call o cl.1 cl.2) _ (.call ho wc) (.tup (SqT.of upd_same) (.cons (.str _) (.cons ?_ (.cons (d1.same s7) (.cons (d2.same s7) .nil))))) ((P6.same s7).mono (by omega)) (b16.trans (But.of s7))
      cases o with
      | none => exact .non
      | some y => exact .str _
    refine ⟨_, rfl, _, _, rfl, rfl, _, rfl, ite2 (fun h4 => ?_) (fun h4 => ?_)⟩
    · -- raise, risk
      refine ⟨_, rfl, _, rfl, p, c, w, lim, n + 1, ws, rfl, P1, by omega, lw1.1, by omega, by omega, fun x H2 hx P2 b2 => ?_⟩
      have lw2 := lw1.but b2
      refine ⟨(by show 2 ≤ sizeLine; decide), fun t1 h1' => ?_⟩
      have s3 := same_new (o := .tup [V.str "raise", V.str x]) h1'
      have P3 := P2.same s3
      have d1 : Dp K (upd H2 t1 (.tup [V.str "raise", V.str x])) (.ref t1) (stD (.raise x)) := .tup (SqT.of upd_same) (.cons (.str _) (.cons (.str _) .nil))
      have lw3 := lw2.same s3
      generalize upd H2 t1 (.tup [V.str "raise", V.str x]) = H3 at *
      refine ⟨_, rfl, _, rfl, p, c, w, lim, n + 1 + 1, ws, rfl, P3, by omega, lw3.1, by omega, by omega, fun y H4 hy P4 b4 => ?_⟩
      have lw4 := lw3.but b4
      have d1 := Dp.tps (b4.tps P3) d1 (noL_st _)
      refine ⟨(by show 1 ≤ sizeLine; decide), fun t2 h2' => ⟨(by show 2 ≤ sizeLine; decide), fun t3 h3' => ⟨(by show 2 ≤ sizeLine; decide), fun D hD => ?_⟩⟩⟩
      have s5 := same_new (o := .tup [V.str y]) h2'
      have d2 : Dp K (upd H4 t2 (.tup [V.str y])) (.ref t2) (nmD [y]) := .tup (SqT.of upd_same) (.cons (.str _) .nil)
      have P5 := P4.same s5
      generalize upd H4 t2 (.tup [V.str y]) = H5 at *
      have s6 := same_new (o := .tup [V.str "risk", .ref t2]) h3'
      have d3 : Dp K (upd H5 t3 (.tup [V.str "risk", .ref t2])) (.ref t3) (stD (.risk [y])) := .tup (SqT.of upd_same) (.cons (.str _) (.cons (d2.same s6) .nil))
      have P6 := P5.same s6
      generalize upd H5 t3 (.tup [V.str "risk", .ref t2]) = H6 at *
      have s7 := same_new (o := .lst [.ref t1, .ref t3]) hD
      have eD : upd H6 D (.lst [.ref t1, .ref t3]) D = some (.lst [.ref t1, .ref t3]) := upd_same
      have nDp := P6.ne1 hD
      have nDc := P6.ne2 hD
      have P7 := P6.same s7
      have d1 := d1.same ((s5.trans s6).trans s7)
      have d3 := d3.same s7
      generalize upd H6 D (.lst [.ref t1, .ref t3]) = H7 at *
      refine ⟨_, rfl, p, c, lim, _, 2, rfl, P7, by omega, by decide, by decide, fun r2 H8 q0 q1 P8 b8 => ?_⟩
      have eD8 := b8 _ _ eD nDp nDc
      have b18 := ((((((b1.trans b2).trans (But.of s3)).trans b4).trans (But.of s5)).trans (But.of s6)).trans (But.of s7)).trans b8
      have : r2 = 0 ∨ r2 = 1 := by omega
      rcases this with rfl | rfl
      · exact ⟨D, _, _, _, rfl, rfl, SqL.of eD8, rfl, k _ (.raise x) _ (.raise hx) (Dp.tps (b8.tps P7) d1 (noL_st _)) (P8.mono (by omega)) b18⟩
      · exact ⟨D, _, _, _, rfl, rfl, SqL.of eD8, rfl, k _ (.risk [y]) _ (.risk hy) (Dp.tps (b8.tps P7) d3 (noL_st _)) (P8.mono (by omega)) b18⟩
    have retn : ∀ σ : L2.St, σ = [some (V.ref p), some (.ref w), some (.int (j : Int)), some (.int r), none] → tRet (tTup (tCons (tC (V.str (Str.ofString "return"))) (tCons (tCall (spLSu K) [] E0 (tCons (tVar 0) (tCons (tVar 1) tNil))) tNil))) { nx := fun _ H' => Q .non H', rt := Q } σ H1 := by
      rintro σ rfl
      refine ⟨_, rfl, _, rfl, p, c, w, lim, n + 1, ws, rfl, P1, by omega, lw1, fun v e H3 he dv P3 b3 => ?_⟩
      refine ⟨(by show 2 ≤ sizeLine; decide), fun t ht => ?_⟩
      have s4 := same_new (o := .tup [V.str "return", v]) ht
      exact k _ (.ret e) _ (.ret he) (.tup (SqT.of upd_same) (.cons (.str _) (.cons (dv.same s4) .nil))) ((P3.same s4).mono (by omega)) ((b1.trans b3).trans (But.of s4))
    refine ⟨_, rfl, rfl, _, rfl, ite2 (fun h5 => retn _ rfl) (fun h5 => ?_)⟩
    have hj0 : j ≠ 0 := fun z => h5 (decide_eq_true (by rw [z]; rfl))
    obtain ⟨d, rfl⟩ : ∃ d, j = d + 1 := ⟨j - 1, by omega⟩
    refine ⟨_, rfl, _, _, rfl, rfl, _, rfl, ite2 (fun h6 => retn _ rfl) (fun h6 => ?_)⟩
    -- inner
    refine ⟨_, rfl, _, rfl, _, rfl, _, _, rfl, rfl, p, c, w, lim, n + 1, ws, d, ?_, by omega, P1, by omega, lw1, fun v st H2 pst dv P2 b2 => ?_⟩
    · show [V.ref p, V.ref w, V.int (((d + 1 : Nat) : Int) - 1)] = _
      rw [show (((d + 1 : Nat) : Int) - 1) = (d : Int) by omega]
    have lw2 := lw1.but b2
    refine ⟨(by show 1 ≤ sizeLine; decide), fun ti hti => ?_⟩
    have s3 := same_new (o := .tup [v]) hti
    have P3 := P2.same s3
    have lw3 := lw2.same s3
    have di : Dp K (upd H2 ti (.tup [v])) (.ref ti) (blD [st]) := .tup (SqT.of upd_same) (.cons (dv.same s3) .nil)
    have b13 := (b1.trans b2).trans (But.of s3)
    generalize upd H2 ti (.tup [v]) = H3 at *
    clear dv s3 b2 P2 lw2 P1 lw1 P0 lw
    refine ⟨_, rfl, _, _, rfl, rfl, _, rfl, ite2 (fun h7 => ?_) (fun h7 => ?_)⟩
    · -- if, while
      refine ⟨_, rfl, p, c, lim, _, 3, rfl, P3, by omega, by decide, by decide, fun r2 H4 q0 q1 P4 b4 => ?_⟩
      have di := Dp.tps (b4.tps P3) di (noL_bl _)
      refine ⟨_, _, rfl, rfl, _, rfl, ite2 (fun h8 => ?_) (fun h8 => ?_)⟩
      · refine ⟨_, rfl, (by show 0 ≤ sizeLine; decide), fun t1 h1' => ⟨(by show 3 ≤ sizeLine; decide), fun t2 h2' => ?_⟩⟩
        have s5 := same_new (o := .tup []) h1'
        have s6 := same_new (o := .tup [V.str "if", .ref ti, .ref t1]) h2'
        exact k _ (.ite [st] []) _ (.ite pst) (.tup (SqT.of upd_same) (.cons (.str _) (.cons (di.same (s5.trans s6)) (.cons (.tup (SqT.same s6 (SqT.of upd_same)) .nil) .nil)))) (((P4.same s5).same s6).mono (by omega)) ((b13.trans b4).trans (But.of (s5.trans s6)))
      · refine ⟨_, rfl, (by show 2 ≤ sizeLine; decide), fun t2 h2' => ?_⟩
        have s6 := same_new (o := .tup [V.str "while", .ref ti]) h2'
        exact k _ (.whl [st]) _ (.whl pst) (.tup (SqT.of upd_same) (.cons (.str _) (.cons (di.same s6) .nil))) ((P4.same s6).mono (by omega)) ((b13.trans b4).trans (But.of s6))
    refine ⟨_, rfl, _, _, rfl, rfl, _, rfl, ite2 (fun h8 => ?_) (fun h8 => ?_)⟩
    · -- undo
      refine ⟨_, rfl, _, rfl, p, c, w, lim, _, ws, rfl, P3, by omega, lw3.1, by omega, by omega, fun x H4 hx P4 b4 => ?_⟩
      have lw4 := lw3.but b4
      refine ⟨_, rfl, _, rfl, p, c, w, lim, _, ws, rfl, P4, by omega, lw4.1, by omega, by omega, fun y H5 hy P5 b5 => ?_⟩
      have di := Dp.tps ((b4.trans b5).tps P3) di (noL_bl _)
      refine ⟨(by show 2 ≤ sizeLine; decide), fun t1 h1' => ⟨_, rfl, (by show 3 ≤ sizeLine; decide), fun t2 h2' => ?_⟩⟩
      have s5 := same_new (o := .tup [V.str x, V.str y]) h1'
      have s6 := same_new (o := .tup [V.str "undo", .ref t1, .ref ti]) h2'
      exact k _ (.undo [x, y] [st]) _ (.undo hx hy pst) (.tup (SqT.of upd_same) (.cons (.str _) (.cons (.tup (SqT.same s6 (SqT.of upd_same)) (.cons (.str _) (.cons (.str _) .nil))) (.cons (di.same (s5.trans s6)) .nil)))) (((P5.same s5).same s6).mono (by omega)) (((b13.trans b4).trans b5).trans (But.of (s5.trans s6)))
    refine ⟨_, rfl, _, _, rfl, rfl, _, rfl, ite2 (fun h9 => ?_) (fun h9 => ?_)⟩
    · -- with
      refine ⟨_, rfl, _, rfl, p, c, w, lim, _, ws, rfl, P3, by omega, lw3, fun v1 c1 H4 w1 dv1 P4 b4 => ?_⟩
      have lw4 := lw3.but b4
      refine ⟨_, rfl, _, rfl, p, c, w, lim, _, ws, rfl, P4, by omega, lw4, fun v2 c2 H5 w2 dv2 P5 b5 => ?_⟩
      have lw5 := lw4.but b5
      refine ⟨_, rfl, _, rfl, p, c, w, lim, _, ws, rfl, P5, by omega, lw5.1, by omega, by omega, fun y H6 hy P6 b6 => ?_⟩
      have di := Dp.tps (((b4.trans b5).trans b6).tps P3) di (noL_bl _)
      have dv1 := Dp.tps ((b5.trans b6).tps P4) dv1 (noL_cal _)
      have dv2 := Dp.tps (b6.tps P5) dv2 (noL_cal _)
      refine ⟨(by show 1 ≤ sizeLine; decide), fun t1 h1' => ⟨_, rfl, (by show 5 ≤ sizeLine; decide), fun t2 h2' => ?_⟩⟩
      have s7 := same_new (o := .tup [V.str y]) h1'
      have s8 := same_new (o := .tup [V.str "with", v1, v2, .ref t1, .ref ti]) h2'
      have s78 := s7.trans s8
      exact k _ (.with_ c1 c2 [y] [st]) _ (.with_ w1 w2 hy pst) (.tup (SqT.of upd_same) (.cons (.str _) (.cons (dv1.same s78) (.cons (dv2.same s78) (.cons (.tup (SqT.same s8 (SqT.of upd_same)) (.cons (.str _) .nil)) (.cons (di.same s78) .nil)))))) (((P6.same s7).same s8).mono (by omega)) ((((b13.trans b4).trans b5).trans b6).trans (But.of s78))
    -- try
    refine ⟨(by show 0 ≤ sizeLine; decide), fun t1 h1' => ?_⟩
    have s5 := same_new (o := .tup []) h1'
    have d1 : Dp K (upd H3 t1 (.tup [])) (.ref t1) (blD []) := .tup (SqT.of upd_same) .nil
    have P5 := P3.same s5
    have lw5 := lw3.same s5
    have di := di.same s5
    generalize upd H3 t1 (.tup []) = H5 at *
    refine ⟨_, rfl, _, rfl, p, c, w, lim, _, ws, rfl, P5, by omega, lw5.1, by omega, by omega, fun y H6 hy P6 b6 => ?_⟩
    have di := Dp.tps (b6.tps P5) di (noL_bl _)
    have d1 := Dp.tps (b6.tps P5) d1 (noL_bl _)
    refine ⟨(by show 1 ≤ sizeLine; decide), fun t2 h2' => ⟨(by show 0 ≤ sizeLine; decide), fun t3 h3' => ⟨(by show 2 ≤ sizeLine; decide), fun t4 h4' => ⟨(by show 1 ≤ sizeLine; decide), fun t5 h5' => ⟨_, rfl, (by show 4 ≤ sizeLine; decide), fun t6 h6' => ?_⟩⟩⟩⟩⟩
    have z2 := same_new (o := .tup [V.str y]) h2'
    have z3 := same_new (o := .tup []) h3'
    have z4 := same_new (o := .tup [.ref t2, .ref t3]) h4'
    have z5 := same_new (o := .tup [.ref t4]) h5'
    have z6 := same_new (o := .tup [V.str "try", .ref t1, .ref t5, .ref ti]) h6'
    have z26 := (((z2.trans z3).trans z4).trans z5).trans z6
    have e2 : SqT K _ t2 [V.str y] := SqT.same (((z3.trans z4).trans z5).trans z6) (SqT.of upd_same)
    have e3 : SqT K _ t3 [] := SqT.same ((z4.trans z5).trans z6) (SqT.of upd_same)
    have e4 : SqT K _ t4 [.ref t2, .ref t3] := SqT.same (z5.trans z6) (SqT.of upd_same)
    have e5 : SqT K _ t5 [.ref t4] := SqT.same z6 (SqT.of upd_same)
    exact k _ (.try_ [] [.mk [y] []] [st]) _ (.try_ hy pst) (.tup (SqT.of upd_same) (.cons (.str _) (.cons (d1.same z26) (.cons (.tup e5 (.cons (.tup e4 (.cons (.tup e2 (.cons (.str _) .nil)) (.cons (.tup e3 .nil) .nil))) .nil)) (.cons (di.same z26) .nil))))) ((P6.same z26).mono (by omega)) (((b13.trans (But.of s5)).trans b6).trans (But.of z26))
theorem ok_LPis {f : Addr} {fd : FuncData} (F : Fun K "_law_piece" "_law_piece" sLPi f fd) (T : TxGen mg) (GD : Has P w K mg base CX0 2 "_law_draw" PDraw spDraw) (GP : Has P w K mg base CX0 3 "_law_pick" PLPk spLPk) (GS : Has P w K mg base CX0 3 "_law_sum" PLSu (spLSu K)) (GC : Has P w K mg base CX0 4 "_law_call" PLCl (spLCl K)) (m : mg "_law_piece" = some (.ref f)) (kp : PySem.W.keepIn K (.ref f) = true) (b : Binds K fd PLPi []) : ∀ n, FnOk P w K mg base CX0 (5 + n) f fd PLPi (spLPi K n) := by
  intro n
  induction n with
  | zero => exact ⟨fun vs H Q E h => by obtain ⟨_, _, _, _, _, _, _, _, h, _⟩ := h; exact absurd h (Nat.not_lt_zero _), fun _ _ _ _ _ _ _ _ _ _ _ _ _ h => by obtain ⟨_, _, _, _, _, _, _, _, h, _⟩ := h; exact absurd h (Nat.not_lt_zero _)⟩
  | succ n ih => exact ok_LPi F T GD GP GS GC ⟨f, fd, ih, m, kp, b⟩
end

/-! ### _law_parts, _law_size -/
abbrev sLPt : Stmt := topS 69
abbrev NLPt : List Str := ["_law_statement", "_law_handler"]
abbrev PLPt : List Str := ["_law_statement"]
theorem scLPt : FnScope NLPt PLPt (defScope sLPt) := ⟨rfl, rfl, rfl, by decide +kernel, rfl, by decide +kernel, by decide +kernel⟩
theorem Paired.mapR {α β γ : Type} {F : α → γ → Prop} {f : β → γ} : ∀ {xs : List α} {l : List β}, Paired (fun x g => F x (f g)) xs l → Paired F xs (l.map f)
  | _, _, .nil => .nil
  | _, _, .cons a b => .cons a (Paired.mapR b)
def spLPt (K : PySem.W.Frag) : Sp := fun vs H Q _ => ∃ (v : V) (s : St), vs = [v] ∧ Dp K H v (stD s) ∧ okS s ∧
  ∀ (q : Addr) (xs : List V) (H' : Hp), Same H H' → H q = none → H' q = some (.lst xs) → Paired (fun x b => Dp K H' x (blD b)) xs (parts s) → Q (.ref q) H'
section
variable {P : Program} {w : World} {K : PySem.W.Frag} {mg : Str → Option Value} {base : Heap}
theorem ok_LPt {f : Addr} {fd : FuncData} (F : Fun K "_law_parts" "_law_parts" sLPt f fd) : FnOk P w K mg base CX0 1 f fd PLPt (spLPt K) := by
  refine F.ok scLPt (fun vs H Q E h => ?_) (fun cdv A outer sh H vs Q E hr h => ?_)
  · obtain ⟨v, s, rfl, _⟩ := h
    rfl
  · obtain ⟨v, st, rfl, hv, oks, k⟩ := h
    refine ⟨_, (pss_cons (ps_if (pt_cmpR op_eq (pe_ix (r := rIxT K) ix_tup (pv 0) pe_int (fun _ _ => rfl)) pe_str (nomark _))
  (pss_one (ps_ret (pe_lst (pa_cons (pe_ix (r := rIxT K) ix_tup (pv 0) pe_int (fun _ _ => rfl)) (pa_cons (pe_ix (r := rIxT K) ix_tup (pv 0) pe_int (fun _ _ => rfl)) pa_nil)))))
  pss_nil)
  (pss_cons (ps_if (pt_cmpR op_eq (pe_ix (r := rIxT K) ix_tup (pv 0) pe_int (fun _ _ => rfl)) pe_str (nomark _))
  (pss_one (ps_ret (pe_lst (pa_cons (pe_ix (r := rIxT K) ix_tup (pv 0) pe_int (fun _ _ => rfl)) pa_nil))))
  pss_nil)
  (pss_cons (ps_if (pt_cmpR op_eq (pe_ix (r := rIxT K) ix_tup (pv 0) pe_int (fun _ _ => rfl)) pe_str (nomark _))
  (pss_one (ps_ret (pe_op op_cat (pe_op op_cat (pe_lst (pa_cons (pe_ix (r := rIxT K) ix_tup (pv 0) pe_int (fun _ _ => rfl)) pa_nil)) (pe_lc (own := [("_law_handler", 1)]) (g := gName 1) (tt := tYes) rfl scLPt.nd (pi_tup (pe_ix (r := rIxT K) ix_tup (pv 0) pe_int (fun _ _ => rfl))) (blkOk_by (own := [("_law_handler", 1)]) (N := NLPt) (sc := (defScope sLPt)) (by decide +kernel)) (fun _ _ _ _ _ => (pg_name (i := 1) scLPt.nd rfl (Or.inl rfl))) (fun _ _ _ _ _ => pts_nil) (fun _ _ _ _ _ => (pe_ix (r := rIxT K) ix_tup (pv 1) pe_int (fun _ _ => rfl))))) (pe_lst (pa_cons (pe_ix (r := rIxT K) ix_tup (pv 0) pe_int (fun _ _ => rfl)) pa_nil)))))
  pss_nil)
  (pss_cons (ps_if (pt_cmpR op_eq (pe_ix (r := rIxT K) ix_tup (pv 0) pe_int (fun _ _ => rfl)) pe_str (nomark _))
  (pss_one (ps_ret (pe_lst (pa_cons (pe_ix (r := rIxT K) ix_tup (pv 0) pe_int (fun _ _ => rfl)) pa_nil))))
  pss_nil)
  (pss_cons (ps_if (pt_cmpR op_eq (pe_ix (r := rIxT K) ix_tup (pv 0) pe_int (fun _ _ => rfl)) pe_str (nomark _))
  (pss_one (ps_ret (pe_lst (pa_cons (pe_ix (r := rIxT K) ix_tup (pv 0) pe_int (fun _ _ => rfl)) pa_nil))))
  pss_nil)
  (pss_one (ps_ret (pe_lst pa_nil)))))))), ?_⟩
    obtain ⟨va, xs, rfl, hq, hd⟩ := stInv hv
    have one : ∀ {x : V} {b : List St}, Dp K H x (blD b) → parts st = [b] → ∀ q, H q = none → Q (.ref q) (upd H q (.lst [x])) := fun {x b} hx hp q hq => by
      have s1 := same_new (o := .lst [x]) hq
      exact k q [x] _ s1 hq upd_same (by rw [hp]; exact .cons (hx.same s1) .nil)
    have emp : parts st = [] → ∀ q, H q = none → Q (.ref q) (upd H q (.lst [])) := fun hp q hq => k q [] _ (same_new hq) hq upd_same (by rw [hp]; exact .nil)
    cases st <;> simp only [wordS] at hq
    case ite a b =>
      obtain ⟨x, y, rfl, h1, h2⟩ := DpAll.two hd
      refine ⟨_, rfl, va, _, _, _, rfl, rfl, hq, rfl, rfl, _, rfl, iteS rfl ?_⟩
      refine ⟨_, rfl, va, _, _, _, rfl, rfl, hq, rfl, _, rfl, va, _, _, _, rfl, rfl, hq, rfl, (by show 2 ≤ sizeLine; decide), fun q hn => ?_⟩
      have s1 := same_new (o := .lst [x, y]) hn
      exact k q [x, y] _ s1 hn upd_same (.cons (h1.same s1) (.cons (h2.same s1) .nil))
    case whl b =>
      obtain ⟨x, rfl, h1⟩ := DpAll.one hd
      refine ⟨_, rfl, va, _, _, _, rfl, rfl, hq, rfl, rfl, _, rfl, iteE rfl ?_⟩
      refine ⟨_, rfl, va, _, _, _, rfl, rfl, hq, rfl, rfl, _, rfl, iteS rfl ?_⟩
      exact ⟨_, rfl, va, _, _, _, rfl, rfl, hq, rfl, (by show 1 ≤ sizeLine; decide), one h1 rfl⟩
    case try_ b hs f =>
      obtain ⟨x, y, z, rfl, h1, h2, h3⟩ := DpAll.three hd
      refine ⟨_, rfl, va, _, _, _, rfl, rfl, hq, rfl, rfl, _, rfl, iteE rfl ?_⟩
      refine ⟨_, rfl, va, _, _, _, rfl, rfl, hq, rfl, rfl, _, rfl, iteE rfl ?_⟩
      refine ⟨_, rfl, va, _, _, _, rfl, rfl, hq, rfl, rfl, _, rfl, iteS rfl ?_⟩
      refine ⟨_, rfl, va, _, _, _, rfl, rfl, hq, rfl, (by show 1 ≤ sizeLine; decide), fun q1 hn1 => ?_⟩
      have s1 := same_new (o := .lst [x]) hn1
      have e1 : upd H q1 (.lst [x]) q1 = some (.lst [x]) := upd_same
      generalize upd H q1 (.lst [x]) = H1 at *
      have h2' : Dp K H1 y (.tuple (hdsD hs)) := h2.same s1
      obtain ⟨ha, zs, rfl, hza, hzd⟩ := h2'.tupInv
      rw [hdsD_map] at hzd
      have pz := DpAll.map hzd
      have lz : zs.length = hs.length := Paired.length pz
      have oks' : (b.length ≤ 900 ∧ okL b) ∧ (hs.length ≤ 900 ∧ okHs hs) ∧ (f.length ≤ 900 ∧ okL f) := oks
      refine ⟨_, rfl, va, _, _, _, rfl, rfl, SqT.same s1 hq, rfl, ha, rfl, ⟨_, hza⟩, fun D hD => ?_⟩
      refine lc_tup (K := K) (a := ha) (xs := zs) (fun i H' => Same H1 H' ∧ ∃ us, H' D = some (.lst us) ∧ us.length = i ∧ Paired (fun x (g : Hd) => Dp K H' x (blD g.b)) us (hs.take i)) ⟨same_new hD, [], upd_same, rfl, .nil⟩ (fun i H' _ h' => SqT.same h'.1 hza) ?_ ?_
      · rintro i v H2 hx ⟨s2, us, eD, lus, pus⟩
        obtain ⟨g, hg, hgd⟩ := Paired.at pz hx
        have hi : i < zs.length := (List.getElem?_eq_some_iff.mp hx).1
        obtain ⟨ks, gb⟩ := g
        have hgd : Dp K H1 v (.tuple [nmD ks, .tuple (stsD gb)]) := hgd
        obtain ⟨ga, gs, rfl, hga, hgd2⟩ := hgd.tupInv
        obtain ⟨g1, g2, rfl, k1, k2⟩ := hgd2.two
        refine ⟨wipe1 (by decide), V.ref ga, by kernel_rfl, ga, _, _, _, rfl, rfl, SqT.same s2 hga, rfl, us, eD, small1000 (by omega), fun c o z => ?_, _, upd_same, by rw [List.length_append, lus]; rfl, ?_⟩
        · rw [upd_ne (ne_of_none z hD)]
          exact s2 _ _ z
        · have tp : Tps H2 (upd H2 D (.lst (us ++ [g2]))) := Tps.lst eD
          rw [take_snoc hg]
          exact Paired.snoc (Paired.mapP pus fun _ g z => Dp.tps tp z (noL_bl g.b)) (Dp.tps tp (k2.same s2) (noL_bl gb))
      · rintro H2 ⟨s2, us, eD, lus, pus⟩
        rw [lz, List.take_length] at pus
        have e1' := s2 _ _ e1
        refine ⟨q1, D, _, _, rfl, rfl, e1', eD, Nat.le_of_lt (small1000 (by show 1 + us.length ≤ _; omega)), fun q2 hq2 => ?_⟩
        have s3 := same_new (o := .lst ([x] ++ us)) hq2
        refine ⟨_, rfl, va, _, _, _, rfl, rfl, SqT.same (s1.trans (s2.trans s3)) hq, rfl, (by show 1 ≤ sizeLine; decide), fun q3 hq3 => ?_⟩
        have s4 := same_new (o := .lst [z]) hq3
        refine ⟨q2, q3, _, _, rfl, rfl, s4 _ _ upd_same, upd_same, Nat.le_of_lt (small1000 (by show ([x] ++ us).length + 1 ≤ _; rw [List.length_append]; show 1 + us.length + 1 ≤ _; omega)), fun q4 hq4 => ?_⟩
        have s5 := same_new (o := .lst (([x] ++ us) ++ [z])) hq4
        have s25 := s2.trans (s3.trans (s4.trans s5))
        have s05 := s1.trans s25
        refine k q4 _ _ s05 (none_same (s1.trans (s2.trans (s3.trans s4))) hq4) upd_same ?_
        exact Paired.app (l₁ := [x] ++ us) (l₂ := b :: hs.map Hd.b) (.cons (h1.same s05) (Paired.mapR (Paired.mapP pus fun _ _ z => z.same (s3.trans (s4.trans s5))))) (.cons (h3.same s05) .nil)
    case undo ns b =>
      obtain ⟨x, y, rfl, h1, h2⟩ := DpAll.two hd
      refine ⟨_, rfl, va, _, _, _, rfl, rfl, hq, rfl, rfl, _, rfl, iteE rfl ?_⟩
      refine ⟨_, rfl, va, _, _, _, rfl, rfl, hq, rfl, rfl, _, rfl, iteE rfl ?_⟩
      refine ⟨_, rfl, va, _, _, _, rfl, rfl, hq, rfl, rfl, _, rfl, iteE rfl ?_⟩
      refine ⟨_, rfl, va, _, _, _, rfl, rfl, hq, rfl, rfl, _, rfl, iteS rfl ?_⟩
      exact ⟨_, rfl, va, _, _, _, rfl, rfl, hq, rfl, (by show 1 ≤ sizeLine; decide), one h2 rfl⟩
    case with_ e l ks b =>
      obtain ⟨x, y, z, u, rfl, h1, h2, h3, h4⟩ := DpAll.four hd
      refine ⟨_, rfl, va, _, _, _, rfl, rfl, hq, rfl, rfl, _, rfl, iteE rfl ?_⟩
      refine ⟨_, rfl, va, _, _, _, rfl, rfl, hq, rfl, rfl, _, rfl, iteE rfl ?_⟩
      refine ⟨_, rfl, va, _, _, _, rfl, rfl, hq, rfl, rfl, _, rfl, iteE rfl ?_⟩
      refine ⟨_, rfl, va, _, _, _, rfl, rfl, hq, rfl, rfl, _, rfl, iteE rfl ?_⟩
      refine ⟨_, rfl, va, _, _, _, rfl, rfl, hq, rfl, rfl, _, rfl, iteS rfl ?_⟩
      exact ⟨_, rfl, va, _, _, _, rfl, rfl, hq, rfl, (by show 1 ≤ sizeLine; decide), one h4 rfl⟩
    all_goals
      refine ⟨_, rfl, va, _, _, _, rfl, rfl, hq, (atI_nat (j := 0) rfl), rfl, _, rfl, iteE (by decide +kernel) ?_⟩
      refine ⟨_, rfl, va, _, _, _, rfl, rfl, hq, (atI_nat (j := 0) rfl), rfl, _, rfl, iteE (by decide +kernel) ?_⟩
      refine ⟨_, rfl, va, _, _, _, rfl, rfl, hq, (atI_nat (j := 0) rfl), rfl, _, rfl, iteE (by decide +kernel) ?_⟩
      refine ⟨_, rfl, va, _, _, _, rfl, rfl, hq, (atI_nat (j := 0) rfl), rfl, _, rfl, iteE (by decide +kernel) ?_⟩
      refine ⟨_, rfl, va, _, _, _, rfl, rfl, hq, (atI_nat (j := 0) rfl), rfl, _, rfl, iteE (by decide +kernel) ?_⟩
      exact ⟨(by show 0 ≤ sizeLine; decide), emp rfl⟩
end

/-! ### k10: _law_size, _law_numbered -/
abbrev sLSz : Stmt := topS 70
abbrev NLSz : List Str := ["_law_block", "_law_total", "_law_statement", "_law_part"]
abbrev PLSz : List Str := ["_law_block"]
theorem scLSz : FnScope NLSz PLSz (defScope sLSz) := ⟨rfl, rfl, rfl, by decide +kernel, rfl, by decide +kernel, by decide +kernel⟩
abbrev sLNu : Stmt := topS 71
abbrev NLNu : List Str := ["_law_block", "_law_first", "_law_found", "_law_place", "_law_statement", "_law_inner", "_law_part"]
abbrev PLNu : List Str := ["_law_block", "_law_first"]
theorem scLNu : FnScope NLNu PLNu (defScope sLNu) := ⟨rfl, rfl, rfl, by decide +kernel, rfl, by decide +kernel, by decide +kernel⟩
structure TxK10 (mg : Str → Option Value) : Prop where
  n_sum : mg "sum" = none
  n_list : mg "list" = none
  n_len : mg "len" = none
  n_range : mg "range" = none
  n_tuple : mg "tuple" = none
  n_int : mg "int" = none
def spLSz (K : PySem.W.Frag) (n : Nat) : Sp := fun vs H Q _ => ∃ (v : V) (b : List St), vs = [v] ∧ Dp K H v (blD b) ∧ dpB b ≤ n ∧ okB b ∧ ∀ H', Same H H' → Q (.int (szB b : Int)) H'
def spLNu (K : PySem.W.Frag) (n : Nat) : Sp := fun vs H Q _ => ∃ (v : V) (b : List St) (i : Nat), vs = [v, .int (i : Int)] ∧ Dp K H v (blD b) ∧ dpB b ≤ n ∧ okB b ∧ szB b ≤ 900 ∧
  ∀ (q : Addr) (xs : List V) (H' : Hp), Same H H' → H q = none → H' q = some (.lst xs) → Paired (NumAt K H') xs (allB b i) → Q (.ref q) H'
theorem numb_get : ∀ {b : List St} {i j : Nat} {s : St}, b[j]? = some s → (numb b i)[j]? = some (i + szB (b.take j), s)
  | x :: r, i, 0, s, h => by
    injection h with h
    subst h
    rfl
  | x :: r, i, j + 1, s, h => by
    have ih := numb_get (b := r) (i := i + 1 + szS x) (j := j) (s := s) h
    show (numb r (i + 1 + szS x))[j]? = _
    rw [ih]
    show some (i + 1 + szS x + szB (r.take j), s) = some (i + (1 + szS x + szB (r.take j)), s)
    rw [show i + 1 + szS x + szB (r.take j) = i + (1 + szS x + szB (r.take j)) by omega]
theorem nparts_get : ∀ {l : List (List St)} {n j : Nat} {p : List St}, l[j]? = some p → (nparts l n)[j]? = some (n + ((l.take j).map szB).sum, p)
  | x :: r, n, 0, p, h => by
    injection h with h
    subst h
    rfl
  | x :: r, n, j + 1, p, h => by
    have ih := nparts_get (l := r) (n := n + szB x) (j := j) (p := p) h
    show (nparts r (n + szB x))[j]? = _
    rw [ih]
    show some (n + szB x + ((r.take j).map szB).sum, p) = some (n + (szB x + ((r.take j).map szB).sum), p)
    rw [Nat.add_assoc]
section
variable {P : Program} {w : World} {K : PySem.W.Frag} {mg : Str → Option Value} {base : Heap}
theorem ok_LSz {n : Nat} {f : Addr} {fd : FuncData} (F : Fun K "_law_size" "_law_size" sLSz f fd) (T : TxK10 mg) (GP : Has P w K mg base CX0 1 "_law_parts" PLPt (spLPt K)) (GS : Has P w K mg base CX0 (2 + n) "_law_size" PLSz (spLSz K n)) : FnOk P w K mg base CX0 (2 + n + 1) f fd PLSz (spLSz K (n + 1)) := by
  refine F.ok scLSz (fun vs H Q E h => ?_) (fun cdv A outer sh H vs Q E hr h => ?_)
  · obtain ⟨v, b, rfl, _⟩ := h
    rfl
  · obtain ⟨v, b, rfl, hv, hd, okb, k⟩ := h
    have hr1 := hr.mono (j := 1) (by omega)
    refine ⟨_, (pss_cons (ps_set (i := 1) scLSz.nd rfl (Or.inl rfl) pe_int)
  (pss_cons (ps_for PassesOwn.never rfl (pi_tup (pv 0)) (pg_name (i := 2) scLSz.nd rfl (Or.inl rfl))
  (pss_one (ps_set (i := 1) scLSz.nd rfl (Or.inl rfl) (pe_op op_add (pe_op op_add (pv 1) pe_int) (pe_callB (cr_sum rfl) (by rfl) T.n_sum bb_sum (pa_cons (pe_lc (own := [("_law_part", 3)]) (g := gName 3) (tt := tYes) rfl scLSz.nd (pi_list (pe_callH GP hr1 rfl pass0 (pa_cons (pv 2) pa_nil))) (blkOk_by (own := [("_law_part", 3)]) (N := NLSz) (sc := (defScope sLSz)) (by decide +kernel)) (fun _ _ _ _ _ => (pg_name (i := 3) scLSz.nd rfl (Or.inl rfl))) (fun _ _ _ _ _ => pts_nil) (fun _ _ _ _ _ => (pe_callH GS hr rfl pass0 (pa_cons (pv 3) pa_nil)))) pa_nil))))))
  (pss_one (ps_ret (pv 1))))), ?_⟩
    obtain ⟨a, xs, rfl, hq, hd⟩ := hv.tupInv
    rw [stsD_map] at hd
    have pb := hd.map
    refine ⟨_, rfl, a, rfl, ⟨_, hq⟩, ?_⟩
    refine for_tup (K := K) (a := a) (xs := xs) (fun i σ H' => ∃ x2 : Option V, σ = [some (.ref a), some (.int (szB (b.take i) : Int)), x2, none] ∧ Same H H') ⟨_, rfl, Same.refl _⟩ (fun i σ H' _ h' => by obtain ⟨_, _, s'⟩ := h'; exact SqT.same s' hq) ?_ ?_
    · rintro i x σ H1 hx ⟨x2, rfl, s1⟩
      obtain ⟨st, hst, hsd⟩ := Paired.at pb hx
      have ms := List.mem_of_getElem? hst
      have oks := okL_mem okb.2 ms
      refine ⟨_, rfl, _, _, rfl, rfl, _, rfl, x, st, rfl, hsd.same s1, oks, fun t ts H2 s2 nt e2 p2 => ?_⟩
      have lt : ts.length ≤ 902 := by rw [Paired.length p2]; exact parts_len oks
      refine ⟨t, rfl, ⟨_, SqL.of e2⟩, fun D hD => ?_⟩
      refine lc_list (K := K) (a := t) (xs := ts) (fun i H' => Same H2 H' ∧ H' D = some (.lst ((((parts st).take i).map fun p => ((szB p : Nat) : Int)).map V.int))) ⟨same_new hD, upd_same⟩ (fun i H' _ h' => SqL.of (h'.1 _ _ e2)) ?_ ?_
      · rintro j y H3 hy ⟨s3, eD⟩
        obtain ⟨p, hp, hpd⟩ := Paired.at p2 hy
        have hj : j < ts.length := (List.getElem?_eq_some_iff.mp hy).1
        have mp := List.mem_of_getElem? hp
        have hdp := dp_lt ms mp
        refine ⟨wipe1 (by decide), y, by kernel_rfl, y, p, rfl, hpd.same s3, by omega, okS_parts oks mp, fun H4 s4 => ?_⟩
        refine ⟨_, s4 _ _ eD, small1000 (by rw [List.length_map, List.length_map, List.length_take]; omega), fun c o z => ?_, ?_⟩
        · rw [upd_ne (ne_of_none z hD)]
          exact s4 _ _ (s3 _ _ z)
        · rw [upd_same, take_snoc hp, List.map_append, List.map_append]
          rfl
      · rintro H3 ⟨s3, eD⟩
        rw [Paired.length p2, List.take_length] at eD
        refine ⟨D, _, rfl, SqL.of eD, ?_⟩
        have esum : ((parts st).map fun p => ((szB p : Nat) : Int)).sum = ((szS st : Nat) : Int) := by
          rw [← sz_parts st]
          induction parts st with
          | nil => rfl
          | cons p r ih =>
            rw [List.map_cons, List.sum_cons, ih, List.map_cons, List.sum_cons]
            omega
        rw [esum]
        have e : ((szB (b.take i) : Nat) : Int) + 1 + ((szS st : Nat) : Int) = ((szB (b.take (i + 1)) : Nat) : Int) := by rw [szB_take hst]; omega
        exact ⟨_, _, rfl, rfl, _, by rw [← e]; rfl, (s1.trans s2).trans s3⟩
    · rintro σ H1 ⟨x2, rfl, s1⟩
      rw [Paired.length pb, List.take_length]
      exact ⟨_, rfl, k _ s1⟩
theorem ok_LSzs {f : Addr} {fd : FuncData} (F : Fun K "_law_size" "_law_size" sLSz f fd) (T : TxK10 mg) (GP : Has P w K mg base CX0 1 "_law_parts" PLPt (spLPt K)) (m : mg "_law_size" = some (.ref f)) (kp : PySem.W.keepIn K (.ref f) = true) (b : Binds K fd PLSz []) : ∀ n, FnOk P w K mg base CX0 (2 + n) f fd PLSz (spLSz K n) := by
  intro n
  induction n with
  | zero => exact ⟨fun vs H Q E h => by obtain ⟨_, _, _, _, h, _⟩ := h; exact (no_dp h).elim, fun _ _ _ _ _ _ _ _ _ _ _ _ _ h => by obtain ⟨_, _, _, _, h, _⟩ := h; exact (no_dp h).elim⟩
  | succ n ih => exact ok_LSz F T GP ⟨f, fd, ih, m, kp, b⟩
theorem ok_LNu {n : Nat} {f : Addr} {fd : FuncData} (F : Fun K "_law_numbered" "_law_numbered" sLNu f fd) (GP : Has P w K mg base CX0 1 "_law_parts" PLPt (spLPt K)) (GZ : Has P w K mg base CX0 (2 + n) "_law_size" PLSz (spLSz K n)) (GN : Has P w K mg base CX0 (3 + n) "_law_numbered" PLNu (spLNu K n)) : FnOk P w K mg base CX0 (3 + n + 1) f fd PLNu (spLNu K (n + 1)) := by
  refine F.ok scLNu (fun vs H Q E h => ?_) (fun cdv A outer sh H vs Q E hr h => ?_)
  · obtain ⟨v, b, i, rfl, _⟩ := h
    rfl
  · obtain ⟨v, b, i, rfl, hv, hd, okb, sz, k⟩ := h
    have hr1 := hr.mono (j := 1) (by omega)
    have hr2 := hr.mono (j := 2 + n) (by omega)
    refine ⟨_, (pss_cons (ps_set (i := 2) scLNu.nd rfl (Or.inl rfl) (pe_lst pa_nil))
  (pss_cons (ps_set (i := 3) scLNu.nd rfl (Or.inl rfl) (pv 1))
  (pss_cons (ps_for PassesOwn.never rfl (pi_tup (pv 0)) (pg_name (i := 4) scLNu.nd rfl (Or.inl rfl))
  (pss_cons (ps_expr (pe_bm PySem.F.plainAttrs_list PySem.F.slot_list_append PySem.F.type_list_append mt_append (pv 2) (pa_cons (pe_tup (pa_cons (pv 3) (pa_cons (pv 4) pa_nil))) pa_nil)))
  (pss_cons (ps_set (i := 5) scLNu.nd rfl (Or.inl rfl) (pe_op op_add (pv 3) pe_int))
  (pss_cons (ps_for PassesOwn.never rfl (pi_list (pe_callH GP hr1 rfl pass0 (pa_cons (pv 4) pa_nil))) (pg_name (i := 6) scLNu.nd rfl (Or.inl rfl))
  (pss_cons (ps_set (i := 2) scLNu.nd rfl (Or.inl rfl) (pe_op op_cat (pv 2) (pe_callH GN hr rfl pass0 (pa_cons (pv 6) (pa_cons (pv 5) pa_nil)))))
  (pss_one (ps_set (i := 5) scLNu.nd rfl (Or.inl rfl) (pe_op op_add (pv 5) (pe_callH GZ hr2 rfl pass0 (pa_cons (pv 6) pa_nil)))))))
  (pss_one (ps_set (i := 3) scLNu.nd rfl (Or.inl rfl) (pv 5)))))))
  (pss_one (ps_ret (pv 2)))))), ?_⟩
    obtain ⟨a, xs, rfl, hq, hd2⟩ := hv.tupInv
    rw [stsD_map] at hd2
    have pb := hd2.map
    have lx := Paired.length pb
    have tot : ((numb b i).flatMap allF).length ≤ 900 := by rw [← allB_flat, allB_len]; exact sz
    refine ⟨(by show 0 ≤ sizeLine; decide), fun q hqn => ⟨_, rfl, _, rfl, a, rfl, ⟨_, SqT.same (same_new hqn) hq⟩, ?_⟩⟩
    refine for_tup (K := K) (a := a) (xs := xs) (fun j σ H' => ∃ (fa : Addr) (x4 x5 x6 : Option V) (ys : List V), σ = [some (.ref a), some (.int (i : Int)), some (.ref fa), some (.int ((i + szB (b.take j) : Nat) : Int)), x4, x5, x6] ∧ Same H H' ∧ H fa = none ∧ H' fa = some (.lst ys) ∧ Paired (NumAt K H') ys (((numb b i).take j).flatMap allF)) ⟨q, none, none, none, [], rfl, same_new hqn, hqn, upd_same, .nil⟩ (fun j σ H' _ h' => by obtain ⟨_, _, _, _, _, _, s', _⟩ := h'; exact SqT.same s' hq) ?_ ?_
    · rintro j x σ H1 hx ⟨fa, x4, x5, x6, ys, rfl, s1, nfa, efa, py⟩
      obtain ⟨st, hst, hsd⟩ := Paired.at pb hx
      have ms := List.mem_of_getElem? hst
      have oks := okL_mem okb.2 ms
      have hp := numb_get (i := i) hst
      obtain ⟨num, hnum⟩ : ∃ num, num = i + szB (b.take j) := ⟨_, rfl⟩
      rw [← hnum] at hp ⊢
      have ly : ys.length ≤ 900 := by rw [Paired.length py]; exact Nat.le_trans (flat_len j) tot
      have lall := flat_len (f := allF) (l := numb b i) (j + 1)
      rw [flat_snoc hp, List.length_append] at lall
      have lF : (allF (num, st)).length = szS st + 1 := by show (allS st (num + 1)).length + 1 = _; rw [allS_len]
      rw [lF, ← Paired.length py] at lall
      refine ⟨_, rfl, .inl ⟨rfl, _, SqL.of efa⟩, _, rfl, _, rfl, (by show 2 ≤ sizeLine; decide), fun c hc => ?_⟩
      have s2 := same_new (o := .tup [.int (num : Int), x]) hc
      refine ⟨fa, _, _, rfl, rfl, s2 _ _ efa, small1000 (by omega), ?_⟩
      have tq : Tps (upd H1 c (.tup [.int (num : Int), x])) (upd (upd H1 c (.tup [.int (num : Int), x])) fa (.lst (ys ++ [.ref c]))) := Tps.lst (s2 _ _ efa)
      have t2 : Tps H1 (upd (upd H1 c (.tup [.int (num : Int), x])) fa (.lst (ys ++ [.ref c]))) := (Tps.of s2).trans tq
      have s02 : Same H (upd (upd H1 c (.tup [.int (num : Int), x])) fa (.lst (ys ++ [.ref c]))) := fun d o z => by
        rw [upd_ne (ne_of_none z nfa)]
        exact s2 _ _ (s1 _ _ z)
      have pc : Paired (NumAt K (upd (upd H1 c (.tup [.int (num : Int), x])) fa (.lst (ys ++ [.ref c])))) (ys ++ [.ref c]) (((numb b i).take j).flatMap allF ++ [(num, st)]) :=
        Paired.snoc (Paired.mapP py fun _ _ z => z.tps t2) ⟨c, x, rfl, tq.sqt (SqT.of upd_same), (hsd.same s1).tps t2 (noL_st st)⟩
      have e2 : upd (upd H1 c (.tup [.int (num : Int), x])) fa (.lst (ys ++ [.ref c])) fa = some (.lst (ys ++ [.ref c])) := upd_same
      generalize upd (upd H1 c (.tup [.int (num : Int), x])) fa (.lst (ys ++ [.ref c])) = H2 at *
      refine ⟨_, rfl, _, _, rfl, rfl, ?_⟩
      refine ⟨_, rfl, x, st, rfl, hsd.same s02, oks, fun t ts H3 s3 nt e3 p3 => ?_⟩
      have lt : ts.length ≤ 902 := by rw [Paired.length p3]; exact parts_len oks
      have s03 := s02.trans s3
      refine ⟨t, rfl, ⟨_, SqL.of e3⟩, ?_⟩
      have e3f := s3 _ _ e2
      refine for_list (K := K) (a := t) (xs := ts) (fun k' σ H' => ∃ (fb : Addr) (x6 : Option V) (zs : List V), σ = [some (.ref a), some (.int (i : Int)), some (.ref fb), some (.int (num : Int)), some x, some (.int ((num + 1 + (((parts st).take k').map szB).sum : Nat) : Int)), x6] ∧ Same H3 H' ∧ H fb = none ∧ H' fb = some (.lst zs) ∧ Paired (NumAt K H') zs (((numb b i).take j).flatMap allF ++ (num, st) :: allP ((nparts (parts st) (num + 1)).take k'))) ⟨fa, _, _, rfl, Same.refl _, nfa, e3f, Paired.mapP pc fun _ _ z => z.tps (Tps.of s3)⟩ (fun j σ H' _ h' => by obtain ⟨_, _, _, _, s', _⟩ := h'; exact SqL.of (s' _ _ e3)) ?_ ?_
      · rintro k' y σ H4 hy ⟨fb, x6, zs, rfl, s4, nfb, efb, pz⟩
        obtain ⟨p, hpp, hpd⟩ := Paired.at p3 hy
        have hk' : k' < ts.length := (List.getElem?_eq_some_iff.mp hy).1
        have mp := List.mem_of_getElem? hpp
        have hdp := dp_lt ms mp
        have okp := okS_parts oks mp
        have ltot : (allP (nparts (parts st) (num + 1))).length = szS st := by rw [allP_parts, allS_len]
        have lw := flat_len (f := fun p : Nat × List St => allB p.2 p.1) (l := nparts (parts st) (num + 1)) (k' + 1)
        have hnp := nparts_take (n := num + 1) hpp
        have hget : (nparts (parts st) (num + 1))[k']? = some (num + 1 + (((parts st).take k').map szB).sum, p) := nparts_get hpp
        obtain ⟨inn, hinn⟩ : ∃ inn, inn = num + 1 + (((parts st).take k').map szB).sum := ⟨_, rfl⟩
        rw [← hinn] at hget ⊢
        have ew : allP ((nparts (parts st) (num + 1)).take (k' + 1)) = allP ((nparts (parts st) (num + 1)).take k') ++ allB p inn := by
          unfold allP
          rw [take_snoc hget, List.flatMap_append]
          show _ ++ (allB p inn ++ []) = _
          rw [List.append_nil]
        have lw2 : (allP ((nparts (parts st) (num + 1)).take (k' + 1))).length ≤ szS st := by rw [← ltot]; exact lw
        rw [ew, List.length_append, allB_len] at lw2
        have lzs : zs.length = ys.length + (1 + (allP ((nparts (parts st) (num + 1)).take k')).length) := by
          rw [Paired.length pz, List.length_append, List.length_cons, ← Paired.length py]
          omega
        refine ⟨_, rfl, _, rfl, _, rfl, y, p, inn, rfl, hpd.same s4, by omega, okp, by omega, fun u us H5 s5 nu eu pu => ?_⟩
        have lus : us.length = szB p := by rw [Paired.length pu, allB_len]
        refine ⟨fb, u, _, _, rfl, rfl, s5 _ _ efb, eu, Nat.le_of_lt (small1000 (by omega)), fun g hg => ?_⟩
        have s6 := same_new (o := .lst (zs ++ us)) hg
        refine ⟨_, rfl, _, rfl, y, p, rfl, hpd.same ((s4.trans s5).trans s6), by omega, okp, fun H7 s7 => ?_⟩
        have s57 := (s5.trans s6).trans s7
        refine ⟨_, _, rfl, rfl, g, some y, zs ++ us, ?_, s4.trans s57, none_same (s03.trans (s4.trans s5)) hg, s7 _ _ upd_same, ?_⟩
        · have e : ((inn : Nat) : Int) + ((szB p : Nat) : Int) = ((num + 1 + (((parts st).take (k' + 1)).map szB).sum : Nat) : Int) := by
            rw [take_snoc hpp, List.map_append, List.sum_append]
            show _ = ((num + 1 + ((((parts st).take k').map szB).sum + (szB p + 0)) : Nat) : Int)
            omega
          rw [← e]
          rfl
        · rw [ew, ← List.cons_append, ← List.append_assoc]
          exact Paired.app (Paired.mapP pz fun _ _ z => z.tps (Tps.of s57)) (Paired.mapP pu fun _ _ z => z.tps (Tps.of (s6.trans s7)))
      · rintro σ H4 ⟨fb, x6, zs, rfl, s4, nfb, efb, pz⟩
        rw [Paired.length p3] at pz ⊢
        rw [List.take_length]
        rw [show (nparts (parts st) (num + 1)).take (parts st).length = nparts (parts st) (num + 1) from List.take_of_length_le (by rw [nparts_len]; exact Nat.le_refl _), allP_parts] at pz
        rw [sz_parts]
        refine ⟨_, rfl, fb, some x, some (.int ((num + 1 + szS st : Nat) : Int)), x6, zs, ?_, s03.trans s4, nfb, efb, ?_⟩
        · rw [szB_take hst, hnum]
          have e : i + szB (b.take j) + 1 + szS st = i + (szB (b.take j) + (1 + szS st)) := by omega
          rw [e]
          rfl
        · rw [flat_snoc hp]
          exact pz
    · rintro σ H1 ⟨fa, x4, x5, x6, ys, rfl, s1, nfa, efa, py⟩
      rw [lx] at py
      rw [show (numb b i).take b.length = numb b i from List.take_of_length_le (by rw [numb_len]; exact Nat.le_refl _), ← allB_flat] at py
      exact ⟨_, rfl, k fa ys H1 s1 nfa efa py⟩
theorem ok_LNus {f : Addr} {fd : FuncData} (F : Fun K "_law_numbered" "_law_numbered" sLNu f fd) (GP : Has P w K mg base CX0 1 "_law_parts" PLPt (spLPt K)) (GZ : ∀ n, Has P w K mg base CX0 (2 + n) "_law_size" PLSz (spLSz K n)) (m : mg "_law_numbered" = some (.ref f)) (kp : PySem.W.keepIn K (.ref f) = true) (bd : Binds K fd PLNu []) : ∀ n, FnOk P w K mg base CX0 (3 + n) f fd PLNu (spLNu K n) := by
  intro n
  induction n with
  | zero => exact ⟨fun vs H Q E h => by obtain ⟨_, _, _, _, _, h, _⟩ := h; exact (no_dp h).elim, fun _ _ _ _ _ _ _ _ _ _ _ _ _ h => by obtain ⟨_, _, _, _, _, h, _⟩ := h; exact (no_dp h).elim⟩
  | succ n ih => exact ok_LNu F GP (GZ n) ⟨f, fd, ih, m, kp, bd⟩
end

/-! ### k10: the plain law -/
def unkL (l known : List Str) : List Er := (l.filter fun x => decide (x ∉ known)).map Er.unk
def headsT (t : Tr) : List Str := t.fns.map Fn.name
def callU (t : Tr) (vn : List Str) (c : Cal) : List Er := unkL [c.1] (headsT t) ++ unkL (argsN c.2) vn
def ofL (t : Tr) (vn : List Str) (pl : Nat) (cs : List Cal) : List Er :=
  if (cs.flatMap (callU t vn)).isEmpty = true then (if cs.all (fun c => fitB t c.1 c.2) = true then [] else [.arg pl]) else cs.flatMap (callU t vn)
def isArg : List Er → Bool
  | .arg _ :: _ => true
  | _ => false
def ksOf : List Hd → List Str
  | .mk ks _ :: _ => ks
  | [] => []
/-- the law's list of the errors of a statement -/
def errL (t : Tr) (vn : List Str) (pl : Nat) : St → List Er
  | .set _ e => unkL (e.ts.map Prod.fst) vn
  | .ret e => unkL (e.ts.map Prod.fst) vn
  | .call _ g as => ofL t vn pl [(g, as)]
  | .with_ e l ks _ => if (isArg (ofL t vn pl [e, l]) && !(unkL ks t.kinds).isEmpty) = true then unkL ks t.kinds else ofL t vn pl [e, l] ++ unkL ks t.kinds
  | .risk ks => unkL ks t.kinds
  | .raise k => unkL [k] t.kinds
  | .undo ns _ => unkL ns vn
  | .try_ _ hs f => if (!(unkL (ksOf hs) t.kinds).isEmpty || !(allB f 0).any (fun p => badF p.2)) = true then unkL (ksOf hs) t.kinds else [.fin pl]
  | _ => []
theorem unkN_app {kn : Str → List Str} (a b : List (Str × Str)) : unkN kn (a ++ b) = (unkN kn a).or (unkN kn b) := by
  unfold unkN
  rw [List.find?_append]
  cases a.find? fun q => decide (q.2 ∉ kn q.1) <;> rfl
theorem unkN_map {kn : Str → List Str} {w : Str} : ∀ l : List Str, unkN kn (l.map fun n => (w, n)) = (l.filter fun x => decide (x ∉ kn w)).head?
  | [] => rfl
  | x :: r => by
    have ih := unkN_map (kn := kn) (w := w) r
    unfold unkN at ih ⊢
    rw [List.map_cons, List.find?_cons, List.filter_cons]
    by_cases h : x ∈ kn w
    · simp only [h, not_true, decide_false, Bool.false_eq_true, if_false]
      exact ih
    · simp only [h, not_false_eq_true, decide_true, if_true]
      rfl
theorem unkL_head {l kn : List Str} : (unkL l kn).head? = ((l.filter fun x => decide (x ∉ kn)).head?).map Er.unk := by
  unfold unkL
  rw [List.head?_map]
theorem unk_v {vn ks fs : List Str} (l : List Str) : (unkN (knG vn ks fs) (l.map fun n => (wv, n))).map Er.unk = (unkL l vn).head? := by
  rw [unkN_map, unkL_head, show knG vn ks fs wv = vn from by unfold knG; rw [if_pos rfl]]
theorem unk_k {vn ks fs : List Str} (l : List Str) : (unkN (knG vn ks fs) (l.map fun n => (wk, n))).map Er.unk = (unkL l ks).head? := by
  rw [unkN_map, unkL_head, show knG vn ks fs wk = ks from by unfold knG; rw [if_neg (by decide +kernel), if_pos rfl]]
theorem unk_f {vn ks fs : List Str} (l : List Str) : (unkN (knG vn ks fs) (l.map fun n => (wf, n))).map Er.unk = (unkL l fs).head? := by
  rw [unkN_map, unkL_head, show knG vn ks fs wf = fs from by unfold knG; rw [if_neg (by decide +kernel), if_neg (by decide +kernel)]]
theorem map_orE {a b : Option Str} : (a.or b).map Er.unk = (a.map Er.unk).or (b.map Er.unk) := by cases a <;> rfl
theorem callU_head {t : Tr} {vn : List Str} (c : Cal) : (unkN (knG vn t.kinds (headsT t)) ((wf, c.1) :: (argsN c.2).map fun n => (wv, n))).map Er.unk = (callU t vn c).head? := by
  have e : ((wf, c.1) :: (argsN c.2).map fun n => (wv, n)) = ([c.1].map fun n => (wf, n)) ++ (argsN c.2).map fun n => (wv, n) := rfl
  rw [e, unkN_app, map_orE, unk_f, unk_v]
  unfold callU
  rw [List.head?_append]
theorem head_none {α : Type} {l : List α} (h : l.head? = none) : l = [] := List.head?_eq_none_iff.mp h
theorem un_some {o : Option Str} {e : Er} (h : o.map Er.unk = some e) : ∃ x, o = some x ∧ e = .unk x := by
  cases o with
  | none => cases h
  | some x => injection h with h; exact ⟨x, rfl, h.symm⟩
theorem un_none {o : Option Str} (h : o.map Er.unk = none) : o = none := by
  cases o with
  | none => rfl
  | some x => cases h
theorem isEmp {α : Type} {l : List α} (h : l ≠ []) : l.isEmpty = false := by cases l with
  | nil => exact absurd rfl h
  | cons => rfl
theorem callU_noArg {t : Tr} {vn : List Str} (cs : List Cal) : isArg (cs.flatMap (callU t vn)) = false := by
  have h : ∀ e ∈ cs.flatMap (callU t vn), ∃ x, e = Er.unk x := fun e he => by
    obtain ⟨c, _, hc⟩ := List.mem_flatMap.mp he
    rcases List.mem_append.mp hc with z | z <;>
    · obtain ⟨x, _, rfl⟩ := List.mem_map.mp z
      exact ⟨x, rfl⟩
  cases e : cs.flatMap (callU t vn) with
  | nil => rfl
  | cons a r =>
    obtain ⟨x, hx⟩ := h a (by rw [e]; exact List.mem_cons_self)
    rw [hx]
    rfl
theorem errL_head {t : Tr} {vn : List Str} {pl : Nat} {st : St} (ht : ∀ b hs f, st = .try_ b hs f → ∃ ks c, hs = [.mk ks c]) : (errL t vn pl st).head? = stE t vn t.kinds (headsT t) pl st := by
  have simple : ∀ (l : List Er) (o : Option Str), o.map Er.unk = l.head? → l.head? = match o with
      | some x => some (Er.unk x)
      | none => none := fun l o h => by
    rw [← h]
    cases o <;> rfl
  cases st with
  | set x e =>
    have h := unk_v (vn := vn) (ks := t.kinds) (fs := headsT t) (e.ts.map Prod.fst)
    rw [List.map_map] at h
    exact simple _ _ h
  | ret e =>
    have h := unk_v (vn := vn) (ks := t.kinds) (fs := headsT t) (e.ts.map Prod.fst)
    rw [List.map_map] at h
    exact simple _ _ h
  | risk ks => exact simple _ _ (unk_k (vn := vn) (fs := headsT t) ks)
  | raise k => exact simple _ _ (unk_k (vn := vn) (fs := headsT t) [k])
  | undo ns b => exact simple _ _ (unk_v (vn := vn) (ks := t.kinds) (fs := headsT t) ns)
  | call x g as =>
    have h := callU_head (t := t) (vn := vn) (g, as)
    show (ofL t vn pl [(g, as)]).head? = stE t vn t.kinds (headsT t) pl (.call x g as)
    unfold ofL stE
    have e1 : [(g, as)].flatMap (callU t vn) = callU t vn (g, as) := by simp
    rw [e1, show namedS (.call x g as) = (wf, g) :: (argsN as).map fun n => (wv, n) from rfl]
    cases e : callU t vn (g, as) with
    | nil =>
      rw [e] at h
      rw [un_none h]
      simp only [List.isEmpty_nil, if_true, List.all_cons, List.all_nil, Bool.and_true]
      cases fitB t g as <;> rfl
    | cons a r =>
      rw [e] at h
      obtain ⟨y, h1, rfl⟩ := un_some h
      rw [h1]
      rfl
  | with_ e l ks b =>
    have h1 := callU_head (t := t) (vn := vn) e
    have h2 := callU_head (t := t) (vn := vn) l
    have h3 := unk_k (vn := vn) (ks := t.kinds) (fs := headsT t) ks
    show (if (isArg (ofL t vn pl [e, l]) && !(unkL ks t.kinds).isEmpty) = true then unkL ks t.kinds else ofL t vn pl [e, l] ++ unkL ks t.kinds).head? = stE t vn t.kinds (headsT t) pl (.with_ e l ks b)
    unfold stE
    rw [show namedS (.with_ e l ks b) = (((wf, e.1) :: (argsN e.2).map fun n => (wv, n)) ++ ((wf, l.1) :: (argsN l.2).map fun n => (wv, n))) ++ ks.map fun n => (wk, n) from rfl, unkN_app, unkN_app]
    have e1 : [e, l].flatMap (callU t vn) = callU t vn e ++ callU t vn l := by simp
    have h12 : ((unkN (knG vn t.kinds (headsT t)) ((wf, e.1) :: (argsN e.2).map fun n => (wv, n))).or (unkN (knG vn t.kinds (headsT t)) ((wf, l.1) :: (argsN l.2).map fun n => (wv, n)))).map Er.unk = ([e, l].flatMap (callU t vn)).head? := by
      rw [map_orE, h1, h2, e1, List.head?_append]
    generalize (unkN (knG vn t.kinds (headsT t)) ((wf, e.1) :: (argsN e.2).map fun n => (wv, n))).or (unkN (knG vn t.kinds (headsT t)) ((wf, l.1) :: (argsN l.2).map fun n => (wv, n))) = o at *
    generalize unkN (knG vn t.kinds (headsT t)) (ks.map fun n => (wk, n)) = o3 at *
    have na := callU_noArg (t := t) (vn := vn) [e, l]
    unfold ofL
    cases eU : [e, l].flatMap (callU t vn) with
    | cons a r =>
      rw [eU] at h12 na
      obtain ⟨y, z1, rfl⟩ := un_some h12
      rw [z1]
      simp only [List.isEmpty_cons, Bool.false_eq_true, if_false]
      rfl
    | nil =>
      rw [eU] at h12
      rw [un_none h12]
      simp only [List.isEmpty_nil, if_true, List.all_cons, List.all_nil, Bool.and_true, Option.none_or]
      cases hf : (fitB t e.1 e.2 && fitB t l.1 l.2) with
      | true =>
        simp only [if_true, isArg, Bool.false_and, Bool.false_eq_true, if_false, List.nil_append]
        rw [← h3]
        cases o3 <;> rfl
      | false =>
        simp only [Bool.false_eq_true, if_false, isArg, Bool.true_and]
        cases ek : unkL ks t.kinds with
        | nil =>
          rw [ek] at h3
          rw [un_none h3]
          rfl
        | cons a r =>
          rw [ek] at h3
          obtain ⟨y, z1, rfl⟩ := un_some h3
          rw [z1]
          rfl
  | try_ b hs f =>
    obtain ⟨ks, c, rfl⟩ := ht b hs f rfl
    have h3 := unk_k (vn := vn) (ks := t.kinds) (fs := headsT t) ks
    show (if (!(unkL ks t.kinds).isEmpty || !(allB f 0).any (fun p => badF p.2)) = true then unkL ks t.kinds else [.fin pl]).head? = stE t vn t.kinds (headsT t) pl (.try_ b [.mk ks c] f)
    unfold stE
    rw [show namedS (.try_ b [.mk ks c] f) = ks.map fun n => (wk, n) from List.append_nil _]
    cases ek : unkL ks t.kinds with
    | nil =>
      rw [ek] at h3
      rw [un_none h3]
      simp only [List.isEmpty_nil, Bool.not_true, Bool.false_or]
      cases (allB f 0).any (fun p => badF p.2) <;> rfl
    | cons a r =>
      rw [ek] at h3
      obtain ⟨y, z1, rfl⟩ := un_some h3
      rw [z1]
      rfl
  | _ => rfl

/-! ### k10: what is drawn is a tree of the right form and size -/
theorem dupF_snoc : ∀ {r seen : List Str} {x : Str}, dupF seen (r ++ [x]) = (dupF seen r).or (if x ∈ seen ++ r then some x else none)
  | [], seen, x => by
    rw [List.nil_append, List.append_nil]
    show (if x ∈ seen then some x else dupF (seen ++ [x]) []) = Option.or none _
    rw [Option.none_or]
    rfl
  | y :: r, seen, x => by
    have ih := dupF_snoc (r := r) (seen := seen ++ [y]) (x := x)
    rw [List.append_assoc] at ih
    show (if y ∈ seen then some y else dupF (seen ++ [y]) (r ++ [x])) = (if y ∈ seen then some y else dupF (seen ++ [y]) r).or _
    by_cases h : y ∈ seen
    · rw [if_pos h, if_pos h]; rfl
    · rw [if_neg h, if_neg h, ih]; rfl
theorem dupO_snoc {l : List Str} {j : Nat} {x : Str} (h : l[j]? = some x) : dupO (l.take (j + 1)) = (dupO (l.take j)).or (if x ∈ l.take j then some x else none) := by
  rw [take_snoc h]
  unfold dupO
  rw [dupF_snoc, List.nil_append]
def stepL (acc : List Str) (x : Str) : List Str := if x ∈ acc then acc else acc ++ [x]
theorem own_step {gl : List Str} : ∀ {l ps : List Str}, l.foldl stepL (gl ++ ps) = gl ++ l.foldl (stepO gl) ps
  | [], _ => rfl
  | x :: r, ps => by
    rw [List.foldl_cons, List.foldl_cons]
    have e : stepL (gl ++ ps) x = gl ++ stepO gl ps x := by
      unfold stepL stepO
      by_cases h : x ∈ ps ∨ x ∈ gl
      · rw [if_pos h, if_pos (List.mem_append.mpr h.symm)]
      · rw [if_neg h, if_neg (fun z => h (List.mem_append.mp z).symm), List.append_assoc]
    rw [e]
    exact own_step
theorem stepL_len : ∀ {l acc : List Str}, (l.foldl stepL acc).length ≤ acc.length + l.length
  | [], acc => Nat.le_refl _
  | x :: r, acc => by
    have ih := stepL_len (l := r) (acc := stepL acc x)
    have e : (stepL acc x).length ≤ acc.length + 1 := by
      unfold stepL
      split
      · omega
      · rw [List.length_append]; exact Nat.le_refl _
    rw [List.foldl_cons, List.length_cons]
    omega
theorem own_vn {t : Tr} {f : Fn} : (asgB f.b).foldl stepL (t.names ++ prs f) = vnT t f := by
  rw [own_step]
  unfold vnT innerF
  have h := ownF_pre (gl := t.names) (l := asgB f.b) (acc := prs f)
  have lp : (prs f).length = f.ps.length := by unfold prs; rw [List.length_map]
  have e := List.take_append_drop (prs f).length ((asgB f.b).foldl (stepO t.names) (prs f))
  rw [h] at e
  unfold ownF
  rw [e]
theorem PcK.all {ws : List Str} {d : Nat} {s : St} (h : PcK ws d s) : ∀ n, ∀ p ∈ allS s n, ∃ d', PcK ws d' p.2 := by
  have one : ∀ {d : Nat} {s : St}, PcK ws d s → (∀ n, ∀ p ∈ allS s n, ∃ d', PcK ws d' p.2) → ∀ n, ∀ p ∈ allB [s] n, ∃ d', PcK ws d' p.2 := fun {d s} h ih n p hp => by
    rcases List.mem_cons.mp (show p ∈ (n, s) :: (allS s (n + 1) ++ []) from hp) with z | z
    · rw [z]; exact ⟨d, h⟩
    · rw [List.append_nil] at z
      exact ih _ p z
  induction h with
  | set => exact fun n p hp => nomatch hp
  | input => exact fun n p hp => nomatch hp
  | call => exact fun n p hp => nomatch hp
  | raise => exact fun n p hp => nomatch hp
  | risk => exact fun n p hp => nomatch hp
  | ret => exact fun n p hp => nomatch hp
  | ite h ih => exact fun n p hp => (List.mem_append.mp (show p ∈ allB [_] n ++ allB [] _ from hp)).elim (one h ih n p) fun z => nomatch z
  | whl h ih => exact fun n p hp => one h ih n p hp
  | undo _ _ h ih => exact fun n p hp => one h ih n p hp
  | with_ _ _ _ h ih => exact fun n p hp => one h ih n p hp
  | try_ _ h ih =>
    intro n p hp
    rcases List.mem_append.mp (show p ∈ allB [] n ++ (allHs [.mk _ []] _ ++ allB [_] _) from hp) with z | z
    · exact nomatch z
    · rcases List.mem_append.mp z with z | z
      · exact nomatch z
      · exact one h ih _ p z
theorem PcK.sz {ws : List Str} {d : Nat} {s : St} (h : PcK ws d s) : szS s ≤ d ∧ dpS s ≤ d := by
  induction h with
  | @ite d s h ih =>
    refine ⟨?_, ?_⟩
    · show (1 + szS s + 0) + 0 ≤ _; omega
    · show max (1 + max (dpS s) 0) 1 ≤ _; omega
  | @whl d s h ih =>
    refine ⟨?_, ?_⟩
    · show 1 + szS s + 0 ≤ _; omega
    · show 1 + max (dpS s) 0 ≤ _; omega
  | @undo d s x y _ _ h ih =>
    refine ⟨?_, ?_⟩
    · show 1 + szS s + 0 ≤ _; omega
    · show 1 + max (dpS s) 0 ≤ _; omega
  | @with_ d s x e l _ _ _ h ih =>
    refine ⟨?_, ?_⟩
    · show 1 + szS s + 0 ≤ _; omega
    · show 1 + max (dpS s) 0 ≤ _; omega
  | @try_ d s x _ h ih =>
    refine ⟨?_, ?_⟩
    · show 0 + ((0 + 0) + (1 + szS s + 0)) ≤ _; omega
    · show max 1 (max (max 1 0) (1 + max (dpS s) 0)) ≤ _; omega
  | _ => exact ⟨Nat.zero_le _, Nat.zero_le _⟩
section
variable {ws : List Str}
theorem EX2.ok {e : Ex} (h : EX2 ws e) (n : ∀ x ∈ ws, okN1 x) (l : ws.length ≤ 16) : okEx e := by
  refine ⟨by have := h.ln; omega, fun p hp => ⟨n _ (h.nm p hp).1, by rcases (h.nm p hp).2 with z | z <;> omega⟩, fun i a b ha hb => ?_⟩
  have pw : e.ts.Pairwise fun a b => asc a.1 b.1 := List.pairwise_map.mp h.up
  obtain ⟨hi, ea⟩ := List.getElem?_eq_some_iff.mp ha
  obtain ⟨hj, eb⟩ := List.getElem?_eq_some_iff.mp hb
  have := List.pairwise_iff_getElem.mp pw i (i + 1) hi hj (Nat.lt_succ_self i)
  rw [ea, eb] at this
  exact this
theorem WC2.ok {c : Cal} (h : WC2 ws c) (n : ∀ x ∈ ws, okN1 x) (l : ws.length ≤ 16) : okCal c := by
  refine ⟨n _ h.hd, by have := h.ln; omega, fun a ha => ?_⟩
  have := h.as a ha
  cases a with
  | place x => exact n x this
  | value e => exact EX2.ok this n l
theorem WC2.args {c : Cal} (h : WC2 ws c) (l : ws.length ≤ 16) : (argsN c.2).length ≤ 32 := by
  have a : ∀ a ∈ c.2, (argN a).length ≤ 16 := fun a ha => by
    have := h.as a ha
    cases a with
    | place x => exact (by decide : 1 ≤ 16)
    | value e =>
      have this : EX2 ws e := this
      show (e.ts.map Prod.fst).length ≤ 16
      rw [List.length_map]
      exact Nat.le_trans this.ln l
  have g : ∀ as : List Arg, (∀ a ∈ as, (argN a).length ≤ 16) → (argsN as).length ≤ 16 * as.length := fun as => by
    induction as with
    | nil => exact fun _ => Nat.zero_le _
    | cons x r ih =>
      intro h
      have e : argsN (x :: r) = argN x ++ argsN r := by unfold argsN; rw [List.flatMap_cons]
      rw [e, List.length_append, List.length_cons]
      have := h x List.mem_cons_self
      have := ih fun y hy => h y (List.mem_cons_of_mem _ hy)
      omega
  have := g c.2 a
  have := h.ln
  omega
theorem PcK.ok {d : Nat} {s : St} (h : PcK ws d s) (n : ∀ x ∈ ws, okN1 x) (l : ws.length ≤ 16) : okS s := by
  have one : ∀ {s : St}, okS s → [s].length ≤ 900 ∧ okL [s] := fun h => ⟨by show 1 ≤ 900; decide, h, trivial⟩
  have nil : ([] : List St).length ≤ 900 ∧ okL [] := ⟨by decide, trivial⟩
  have ns1 : ∀ {x : Str}, x ∈ ws → [x] ≠ [] ∧ okNs [x] := fun h => ⟨List.cons_ne_nil _ _, by show 1 ≤ 900; decide, fun y hy => by rw [List.mem_singleton.mp hy]; exact n _ h⟩
  induction h with
  | set hx he => exact ⟨n _ hx, he.ok n l⟩
  | input hx => exact n _ hx
  | call ho hc => exact ⟨fun x z => n _ (ho x z), (hc.ok n l).1, (hc.ok n l).2⟩
  | raise hx => exact n _ hx
  | risk hx => exact ns1 hx
  | ret he => exact he.ok n l
  | ite h ih => exact ⟨one ih, nil⟩
  | whl h ih => exact one ih
  | @undo d s x y hx hy h ih =>
    refine ⟨⟨List.cons_ne_nil _ _, by show 2 ≤ 900; decide, fun z hz => ?_⟩, one ih⟩
    rcases List.mem_cons.mp hz with e | e
    · rw [e]; exact n _ hx
    · rw [List.mem_singleton.mp e]; exact n _ hy
  | with_ he hl hx h ih => exact ⟨⟨he.ok n l, hl.ok n l, (ns1 hx).2⟩, one ih⟩
  | try_ hx h ih => exact ⟨nil, ⟨by show 1 ≤ 900; decide, ⟨ns1 hx, nil⟩, trivial⟩, one ih⟩
theorem PcK.named {d : Nat} {s : St} (h : PcK ws d s) (l : ws.length ≤ 16) : (namedS s).length ≤ 70 := by
  have c2 : ∀ {c : Cal}, WC2 ws c → ((wf, c.1) :: (argsN c.2).map fun n => (wv, n)).length ≤ 33 := fun {c} h => by
    rw [List.length_cons, List.length_map]
    have := h.args l
    omega
  have ex : ∀ {e : Ex}, EX2 ws e → (e.ts.map fun p => (wv, p.1)).length ≤ 70 := fun {e} h => by
    rw [List.length_map]
    have := h.ln
    omega
  cases h with
  | set hx he => exact ex he
  | ret he => exact ex he
  | call ho hc => exact Nat.le_trans (c2 hc) (by decide)
  | @with_ d s x e l2 he hl hx h =>
    show ((((wf, e.1) :: (argsN e.2).map fun n => (wv, n)) ++ ((wf, l2.1) :: (argsN l2.2).map fun n => (wv, n))) ++ [x].map fun n => (wk, n)).length ≤ 70
    rw [List.length_append, List.length_append]
    have := c2 he
    have := c2 hl
    show _ + _ + 1 ≤ 70
    omega
  | raise hx => exact (by decide : 1 ≤ 70)
  | risk hx => exact (by decide : 1 ≤ 70)
  | try_ hx h => exact (by decide : 1 ≤ 70)
  | undo hx hy h => exact (by decide : 2 ≤ 70)
  | _ => exact Nat.zero_le _
theorem PcK.exprs {d : Nat} {s : St} (h : PcK ws d s) : (exprS s).length ≤ 4 ∧ ∀ e ∈ exprS s, EX2 ws e := by
  have ax : ∀ as : List Arg, (∀ a ∈ as, WA2 ws a) → (as.filterMap valE).length ≤ as.length ∧ ∀ e ∈ as.filterMap valE, EX2 ws e := fun as h => by
    refine ⟨List.length_filterMap_le _ _, fun e he => ?_⟩
    obtain ⟨a, ha, hv⟩ := List.mem_filterMap.mp he
    have := h a ha
    cases a with
    | place n => cases hv
    | value x => cases hv; exact this
  cases h with
  | set hx he => exact ⟨by show 1 ≤ 4; omega, fun x hx => by rw [List.mem_singleton.mp hx]; exact he⟩
  | ret he => exact ⟨by show 1 ≤ 4; omega, fun x hx => by rw [List.mem_singleton.mp hx]; exact he⟩
  | call ho hc =>
    have a := ax _ hc.as
    exact ⟨Nat.le_trans a.1 (Nat.le_trans hc.ln (by decide)), a.2⟩
  | @with_ d s x e l2 he hl hx h =>
    have a := ax (e.2 ++ l2.2) fun a ha => (List.mem_append.mp ha).elim (he.as a) (hl.as a)
    have l3 := he.ln
    have l4 := hl.ln
    rw [List.length_append] at a
    exact ⟨Nat.le_trans a.1 (by omega), a.2⟩
  | _ => exact ⟨Nat.zero_le _, fun _ z => (nomatch z)⟩
theorem PcK.asg {d : Nat} {s : St} (h : PcK ws d s) : ∀ n m, (((n, s) :: allS s m).filterMap fun p => asgS p.2).length ≤ 1 := by
  have leaf : ∀ (n : Nat) (s : St) , ([(n, s)].filterMap fun p : Nat × St => asgS p.2).length ≤ 1 := fun n s => List.length_filterMap_le _ _
  have deep : ∀ {s s' : St} (n m : Nat) (l : List (Nat × St)), asgS s = none → (∃ m', l = (m', s') :: allS s' (m' + 1)) → (∀ n m, (((n, s') :: allS s' m).filterMap fun p => asgS p.2).length ≤ 1) → (((n, s) :: l).filterMap fun p => asgS p.2).length ≤ 1 := fun {s s'} n m l e el ih => by
    obtain ⟨m', rfl⟩ := el
    rw [List.filterMap_cons_none (by exact e)]
    exact ih m' (m' + 1)
  induction h with
  | set => exact fun n m => leaf n _
  | input => exact fun n m => leaf n _
  | call => exact fun n m => leaf n _
  | raise => exact fun n m => leaf n _
  | risk => exact fun n m => leaf n _
  | ret => exact fun n m => leaf n _
  | @ite d s h ih => exact fun n m => deep n m _ rfl ⟨m, by show ((m, s) :: (allS s (m + 1) ++ [])) ++ [] = _; rw [List.append_nil, List.append_nil]⟩ ih
  | @whl d s h ih => exact fun n m => deep n m _ rfl ⟨m, by show (m, s) :: (allS s (m + 1) ++ []) = _; rw [List.append_nil]⟩ ih
  | @undo d s x y _ _ h ih => exact fun n m => deep n m _ rfl ⟨m, by show (m, s) :: (allS s (m + 1) ++ []) = _; rw [List.append_nil]⟩ ih
  | @with_ d s x e l _ _ _ h ih => exact fun n m => deep n m _ rfl ⟨m, by show (m, s) :: (allS s (m + 1) ++ []) = _; rw [List.append_nil]⟩ ih
  | @try_ d s x _ h ih => exact fun n m => deep n m _ rfl ⟨m, by show [] ++ (([] ++ []) ++ ((m, s) :: (allS s (m + 1) ++ []))) = _; rw [List.append_nil, List.append_nil, List.nil_append, List.nil_append]⟩ ih
theorem all_asg : ∀ {b : List St} {n : Nat}, (∀ s ∈ b, ∃ d, PcK ws d s) → ((allB b n).filterMap fun p => asgS p.2).length ≤ b.length
  | [], n, _ => Nat.zero_le _
  | s :: r, n, h => by
    obtain ⟨d, hs⟩ := h s List.mem_cons_self
    have ih := all_asg (b := r) (n := n + 1 + szS s) fun x hx => h x (List.mem_cons_of_mem _ hx)
    have e : allB (s :: r) n = ((n, s) :: allS s (n + 1)) ++ allB r (n + 1 + szS s) := rfl
    have := hs.asg n (n + 1)
    rw [e, List.filterMap_append, List.length_append, List.length_cons]
    omega
theorem all_pck : ∀ {b : List St} {n : Nat}, (∀ s ∈ b, ∃ d, PcK ws d s) → ∀ p ∈ allB b n, ∃ d, PcK ws d p.2
  | [], n, _, p, hp => nomatch hp
  | s :: r, n, h, p, hp => by
    obtain ⟨d, hs⟩ := h s List.mem_cons_self
    rcases List.mem_cons.mp (show p ∈ (n, s) :: (allS s (n + 1) ++ allB r (n + 1 + szS s)) from hp) with z | z
    · rw [z]; exact ⟨d, hs⟩
    · rcases List.mem_append.mp z with z | z
      · exact hs.all _ p z
      · exact all_pck (fun x hx => h x (List.mem_cons_of_mem _ hx)) p z
theorem pck_szB {d : Nat} : ∀ {b : List St}, (∀ s ∈ b, PcK ws d s) → szB b ≤ (d + 1) * b.length ∧ dpIn b ≤ d
  | [], _ => ⟨Nat.zero_le _, Nat.zero_le _⟩
  | s :: r, h => by
    have ih := pck_szB (b := r) fun x hx => h x (List.mem_cons_of_mem _ hx)
    have hs := (h s List.mem_cons_self).sz
    refine ⟨?_, ?_⟩
    · show 1 + szS s + szB r ≤ (d + 1) * (r.length + 1)
      rw [Nat.mul_succ]
      omega
    · show max (dpS s) (dpIn r) ≤ d
      omega
theorem pck_okL {b : List St} (n : ∀ x ∈ ws, okN1 x) (l : ws.length ≤ 16) (h : ∀ s ∈ b, ∃ d, PcK ws d s) : okL b := by
  induction b with
  | nil => trivial
  | cons s r ih =>
    obtain ⟨d, hs⟩ := h s List.mem_cons_self
    exact ⟨hs.ok n l, ih fun x hx => h x (List.mem_cons_of_mem _ hx)⟩
end
/-- the law's drawn tree -/
structure Tr10 (t : Tr) : Prop where
  nm : t.names.length ≤ 2 ∧ ∀ x ∈ t.names, okN1 x
  kd : t.kinds.length ≤ 2 ∧ ∀ x ∈ t.kinds, okN1 x
  kp : ∃ e, t.keeps = [e] ∧ e.c = 0 ∧ e.ts.length ≤ 16 ∧ (∀ p ∈ e.ts, okN1 p.1 ∧ p.2 = 3) ∧ (e.ts.map Prod.fst).Pairwise asc
  lf : t.fns.length ≤ 2
  fn : ∀ f ∈ t.fns, okN1 f.name ∧ (f.ps.length ≤ 2 ∧ ∀ p ∈ f.ps, okN1 p.1) ∧ f.b.length ≤ 3 ∧ ∃ ws, (∀ x ∈ ws, okN1 x) ∧ ws.length ≤ 16 ∧ ∀ s ∈ f.b, PcK ws 2 s
theorem Tr10.sz {t : Tr} (h : Tr10 t) {f : Fn} (hf : f ∈ t.fns) : szB f.b ≤ 9 ∧ dpB f.b ≤ 3 ∧ (asgB f.b).length ≤ 3 := by
  obtain ⟨_, _, lb, ws, nw, lw, hp⟩ := h.fn f hf
  have := pck_szB hp
  have a := all_asg (b := f.b) (n := 0) fun s hs => ⟨2, hp s hs⟩
  refine ⟨by omega, by rw [dpB_eq]; omega, Nat.le_trans a lb⟩
theorem Tr10.okB {t : Tr} (h : Tr10 t) {f : Fn} (hf : f ∈ t.fns) : okB f.b := by
  obtain ⟨_, _, lb, ws, nw, lw, hp⟩ := h.fn f hf
  exact ⟨by omega, pck_okL nw lw fun s hs => ⟨2, hp s hs⟩⟩
theorem Tr10.ok {t : Tr} (h : Tr10 t) : okTr 6 t := by
  obtain ⟨e, ek, ec, el, et, ep⟩ := h.kp
  refine ⟨⟨by have := h.nm.1; omega, h.nm.2⟩, ⟨by have := h.kd.1; omega, h.kd.2⟩, ⟨by rw [ek]; show 1 ≤ 900; decide, fun x hx => ?_⟩, by have := h.lf; omega, fun f hf => ?_⟩
  · rw [ek] at hx
    rw [List.mem_singleton.mp hx]
    refine ⟨⟨by omega, fun p hp => ⟨(et p hp).1, by rw [(et p hp).2]; decide⟩, fun i a b ha hb => ?_⟩, ec⟩
    have pw : e.ts.Pairwise fun a b => asc a.1 b.1 := List.pairwise_map.mp ep
    obtain ⟨hi, ea⟩ := List.getElem?_eq_some_iff.mp ha
    obtain ⟨hj, eb⟩ := List.getElem?_eq_some_iff.mp hb
    have := List.pairwise_iff_getElem.mp pw i (i + 1) hi hj (Nat.lt_succ_self i)
    rw [ea, eb] at this
    exact this
  · have s := h.sz hf
    obtain ⟨o1, o2, lb, _⟩ := h.fn f hf
    exact ⟨o1, ⟨by omega, o2.2⟩, h.okB hf, by omega, by omega⟩
theorem Tr10.small {t : Tr} (h : Tr10 t) : SmallT t := by
  obtain ⟨e, ek, ec, el, et, ep⟩ := h.kp
  have lps : ∀ f ∈ t.fns, f.ps.length ≤ 2 := fun f hf => (h.fn f hf).2.1.1
  have sum2 : ∀ l : List Fn, (∀ f ∈ l, szB f.b ≤ 9) → (l.map fun f => szB f.b).sum ≤ 9 * l.length := fun l => by
    induction l with
    | nil => exact fun _ => Nat.zero_le _
    | cons x r ih =>
      intro hl
      have := hl x List.mem_cons_self
      have := ih fun y hy => hl y (List.mem_cons_of_mem _ hy)
      rw [List.map_cons, List.sum_cons, List.length_cons]
      omega
  have ss := sum2 t.fns fun f hf => (h.sz hf).1
  have lf := h.lf
  have l2 : LIM = 1000000000000 := rfl
  refine ⟨by have := h.nm.1; omega, by have := h.kd.1; omega, by rw [ek]; show 1 ≤ 4; decide, by omega, fun f hf => by have := lps f hf; omega, fun f hf => ?_, fun f hf => ?_, by omega, fun f hf => by have := (h.sz hf).2.1; omega, ?_, ?_⟩
  · unfold plN
    rw [List.length_map]
    exact Nat.le_trans (List.length_filter_le _ _) (lps f hf)
  · have a := (ownF_len (gl := t.names) (l := asgB f.b) (acc := prs f)).2
    have b := (h.sz hf).2.2
    have lp : (prs f).length = f.ps.length := by unfold prs; rw [List.length_map]
    unfold innerF ownF
    rw [List.length_drop]
    omega
  · have e1 : ∀ f ∈ t.fns, (exsF f).length ≤ 40 := fun f hf => by
      obtain ⟨_, _, lb, ws, nw, lw, hp⟩ := h.fn f hf
      have g : ∀ l : List (Nat × St), (∀ p ∈ l, ∃ d, PcK ws d p.2) → (l.flatMap fun p : Nat × St => exprS p.2).length ≤ 4 * l.length := fun l => by
        induction l with
        | nil => exact fun _ => Nat.zero_le _
        | cons x r ih =>
          intro hl
          obtain ⟨d, hx⟩ := hl x List.mem_cons_self
          have := hx.exprs.1
          have := ih fun y hy => hl y (List.mem_cons_of_mem _ hy)
          rw [List.flatMap_cons, List.length_append, List.length_cons]
          omega
      have := g (allB f.b 0) (all_pck fun s hs => ⟨2, hp s hs⟩)
      rw [allB_len] at this
      have s9 := (h.sz hf).1
      exact Nat.le_trans this (by omega)
    have e2 : ∀ l : List Fn, (∀ f ∈ l, (exsF f).length ≤ 40) → (l.flatMap exsF).length ≤ 40 * l.length := fun l => by
      induction l with
      | nil => exact fun _ => Nat.zero_le _
      | cons x r ih =>
        intro hl
        have := hl x List.mem_cons_self
        have := ih fun y hy => hl y (List.mem_cons_of_mem _ hy)
        rw [List.flatMap_cons, List.length_append, List.length_cons]
        omega
    have := e2 t.fns e1
    unfold exsT
    rw [List.length_append, ek]
    show 1 + _ ≤ 900
    omega
  · intro x hx
    rcases List.mem_append.mp hx with z | z
    · rw [ek] at z
      rw [List.mem_singleton.mp z]
      exact ⟨⟨by omega, fun p hp => by have := (et p hp).2; omega⟩, by omega⟩
    · obtain ⟨f, hf, hm⟩ := List.mem_flatMap.mp z
      obtain ⟨p, hp, hm⟩ := List.mem_flatMap.mp hm
      obtain ⟨_, _, lb, ws, nw, lw, hpp⟩ := h.fn f hf
      obtain ⟨d, hd⟩ := all_pck (fun s hs => ⟨2, hpp s hs⟩) p hp
      have ex := hd.exprs.2 x hm
      exact ⟨⟨by have := ex.c; omega, fun q hq => by rcases (ex.nm q hq).2 with z | z <;> omega⟩, by have := ex.ln; omega⟩
theorem Tr10.named {t : Tr} (h : Tr10 t) : ∀ f ∈ t.fns, ∀ p ∈ allB f.b 0, (namedS p.2).length ≤ 900 := fun f hf p hp => by
  obtain ⟨_, _, lb, ws, nw, lw, hpp⟩ := h.fn f hf
  obtain ⟨d, hd⟩ := all_pck (fun s hs => ⟨2, hpp s hs⟩) p hp
  have := hd.named lw
  omega

/-! ### k10: _law_own_names, _law_twice -/
abbrev sLOn : Stmt := topS 72
abbrev NLOn : List Str := ["_law_tree", "_law_function", "_law_found", "_law_param", "_law_place", "_law_statement"]
abbrev PLOn : List Str := ["_law_tree", "_law_function"]
theorem scLOn : FnScope NLOn PLOn (defScope sLOn) := ⟨rfl, rfl, rfl, by decide +kernel, rfl, by decide +kernel, by decide +kernel⟩
abbrev sLTw : Stmt := topS 79
abbrev NLTw : List Str := ["_law_words", "_law_found", "_law_k"]
abbrev PLTw : List Str := ["_law_words"]
theorem scLTw : FnScope NLTw PLTw (defScope sLTw) := ⟨rfl, rfl, rfl, by decide +kernel, rfl, by decide +kernel, by decide +kernel⟩

def erD : Er → PyData
  | .dup x => .tuple [.str "twice", .str x]
  | .unk x => .tuple [.str "unknown", .str x]
  | .arg p => .tuple [.str "arguments", .int (p : Int)]
  | .fin p => .tuple [.str "finally", .int (p : Int)]
theorem noL_er (e : Er) : noL (erD e) = true := by cases e <;> rfl
def erOk : Er → Prop
  | .dup x => isName x = true
  | .unk x => isName x = true
  | _ => True
/-- a list of the law's errors -/
def ErL (K : PySem.W.Frag) (H : Hp) (q : Addr) (es : List Er) : Prop := (∃ xs, H q = some (.lst xs) ∧ Paired (fun x e => Dp K H x (erD e)) xs es) ∧ ∀ e ∈ es, erOk e
theorem ErL.same {K : PySem.W.Frag} {H H' : Hp} {q : Addr} {es : List Er} (s : Same H H') (h : ErL K H q es) : ErL K H' q es :=
  let ⟨⟨xs, e, p⟩, o⟩ := h
  ⟨⟨xs, s _ _ e, Paired.mapP p fun _ _ z => z.same s⟩, o⟩
theorem dpAll_of {K : PySem.W.Frag} {H : Hp} {β : Type} {f : β → PyData} : ∀ {xs : List V} {l : List β}, Paired (fun x b => Dp K H x (f b)) xs l → DpAll K H xs (l.map f)
  | _, _, .nil => .nil
  | _, _, .cons a b => .cons a (dpAll_of b)
theorem er_lay {es : List Er} (h : ∀ e ∈ es, erOk e) : SeqAt.shaped (.list (es.map erD)) = true := by
  have h1 : PyData.canLayAll0 (es.map erD) = true := by
    induction es with
    | nil => simp [PyData.canLayAll0]
    | cons x r ih =>
      have hx := h x List.mem_cons_self
      have k1 : PyData.canLay0 (erD x) = true := by
        cases x with
        | dup n => simp only [erD, PyData.canLay0, PyData.canLayAll0, strOk_name (show isName n = true from hx), Bool.and_true]; decide +kernel
        | unk n => simp only [erD, PyData.canLay0, PyData.canLayAll0, strOk_name (show isName n = true from hx), Bool.and_true]; decide +kernel
        | arg n => simp only [erD, PyData.canLay0, PyData.canLayAll0, Bool.and_true]; decide +kernel
        | fin n => simp only [erD, PyData.canLay0, PyData.canLayAll0, Bool.and_true]; decide +kernel
      simp only [List.map_cons, PyData.canLayAll0, k1, Bool.true_and]
      exact ih fun y hy => h y (List.mem_cons_of_mem _ hy)
  have h2 : PyData.depthAll (es.map erD) ≤ 1 := by
    clear h1 h
    induction es with
    | nil => simp [PyData.depthAll]
    | cons x r ih =>
      have k1 : PyData.depth (erD x) = 1 := by cases x <;> simp [erD, PyData.depth, PyData.depthAll]
      simp only [List.map_cons, PyData.depthAll, k1]
      omega
  unfold SeqAt.shaped
  simp only [PyData.canLay0, h1, PyData.depth, Bool.true_and]
  refine decide_eq_true ?_
  omega
theorem sh_nil : SeqAt.shaped (.list []) = true := by decide +kernel
theorem eqv_emp (ds : List PyData) : PyData.eqv (.list ds) (.list []) = ds.isEmpty := by cases ds <;> simp [PyData.eqv, PyData.eqvAll]
theorem sh_strs {l : List Str} (h : ∀ x ∈ l, isName x = true) : SeqAt.shaped (.list (l.map .str)) = true := by
  have h1 : PyData.canLayAll0 (l.map .str) = true := by
    induction l with
    | nil => simp [PyData.canLayAll0]
    | cons x r ih =>
      simp only [List.map_cons, PyData.canLayAll0, PyData.canLay0, strOk_name (h x List.mem_cons_self), Bool.true_and]
      exact ih fun y hy => h y (List.mem_cons_of_mem _ hy)
  have h2 : PyData.depthAll (l.map .str) = 0 := by
    clear h1 h
    induction l with
    | nil => simp [PyData.depthAll]
    | cons x r ih => simp only [List.map_cons, PyData.depthAll, PyData.depth, ih]; rfl
  unfold SeqAt.shaped
  simp only [PyData.canLay0, h1, PyData.depth, h2, Bool.true_and]
  rfl
theorem dp_strL {K : PySem.W.Frag} {H : Hp} : ∀ l : List Str, DpAll K H (l.map V.str) (l.map .str)
  | [] => .nil
  | x :: r => .cons (.str x) (dp_strL r)
def twL (l : List Str) : List Er := ((dupO l).map Er.dup).toList
def spLOn (K : PySem.W.Frag) (n : Nat) : Sp := fun vs H Q _ => ∃ (v u : V) (t : Tr) (f : Fn), vs = [v, u] ∧ Dp K H v (trD t) ∧ Dp K H u (fnD f) ∧ dpB f.b ≤ n ∧ okB f.b ∧ t.names.length + f.ps.length + szB f.b ≤ 900 ∧
  ∀ (q : Addr) (H' : Hp), Same H H' → H q = none → H' q = some (.lst ((vnT t f).map V.str)) → Q (.ref q) H'
def spLTw (K : PySem.W.Frag) : Sp := fun vs H Q _ => ∃ (q : Addr) (l : List Str), vs = [.ref q] ∧ SqL K H q (l.map V.str) ∧ l.length ≤ 900 ∧ (∀ x ∈ l, isName x = true) ∧
  ∀ (p : Addr) (H' : Hp), Same H H' → H p = none → ErL K H' p (twL l) → Q (.ref p) H'
section
variable {P : Program} {w : World} {K : PySem.W.Frag} {mg : Str → Option Value} {base : Heap}
theorem ok_LTw {f : Addr} {fd : FuncData} (F : Fun K "_law_twice" "_law_twice" sLTw f fd) (T : TxK10 mg) : FnOk P w K mg base CX0 1 f fd PLTw (spLTw K) := by
  refine F.ok scLTw (fun vs H Q E h => ?_) (fun cdv A outer sh H vs Q E hr h => ?_)
  · obtain ⟨q, l, rfl, _⟩ := h
    rfl
  · obtain ⟨q, l, rfl, hq, ll, nm, k⟩ := h
    refine ⟨_, (pss_cons (ps_setLc (i := 1) (own := [("_law_k", 2)]) (g := gName 2) rfl scLTw.nd rfl rfl (sw_true rfl rfl rfl (by decide +kernel)) (pi_range1 (by rfl) T.n_range (pa_cons (pe_callB call_len_seq (by rfl) T.n_len bb_len (pa_cons (pv 0) pa_nil)) pa_nil)) (blkOk_by (own := [("_law_k", 2)]) (N := NLTw) (sc := (defScope sLTw)) (by decide +kernel)) (fun _ _ _ _ _ => (pg_name (i := 2) scLTw.nd rfl (Or.inl rfl))) (fun _ _ _ _ _ => (pts_one (pt_cmpR (r := rIn K false) op_in_seq (pe_ix (r := rIxL K) ix_list (pv 0) (pv 2) (fun _ _ => rfl)) (pe_slice (r := rSlL K) sl_list (pv 0) po_none (po_some (pv 2))) (by rfl)))) (fun _ _ _ _ _ => (pe_ix (r := rIxL K) ix_list (pv 0) (pv 2) (fun _ _ => rfl))))
  (pss_one (ps_ret (pe_ifExp (pt_cmpR (op_neD hr.units) (pv 1) (pe_lst pa_nil) (nomark _)) (pe_lst (pa_cons (pe_tup (pa_cons pe_str (pa_cons (pe_ix (r := rIxL K) ix_list (pv 1) pe_int (fun _ _ => rfl)) pa_nil))) pa_nil)) (pe_lst pa_nil))))), ?_⟩
    refine ⟨_, rfl, q, _, rfl, .inl hq, _, rfl, by omega, by rw [List.length_map]; omega, fun D hD => ?_⟩
    refine lc_range (lo := 0) (n := (((l.map V.str).length : Nat) : Int).toNat) (fun i H' => Same H H' ∧ ∃ ys : List Str, H' D = some (.lst (ys.map V.str)) ∧ ys.length ≤ i ∧ ys.head? = dupO (l.take i) ∧ ∀ y ∈ ys, y ∈ l) ⟨same_new hD, [], upd_same, Nat.le_refl _, rfl, fun _ z => (nomatch z)⟩ ?_ ?_
    · rintro i H2 hi ⟨s2, ys, eD, ly, hh, my⟩
      have hi : i < l.length := by rw [List.length_map] at hi; omega
      obtain ⟨nm', hnm⟩ : ∃ nm', l[i]? = some nm' := ⟨_, List.getElem?_eq_getElem hi⟩
      have ai : atI (l.map V.str) (0 + ((i : Nat) : Int)) = some (.str nm') := by
        rw [Int.zero_add]
        exact atI_nat (by rw [List.getElem?_map, hnm]; rfl)
      refine ⟨wipe1 (by decide), V.ref q, by kernel_rfl, V.int (0 + ((i : Nat) : Int)), by kernel_rfl, q, _, _, _, rfl, rfl, s2.seq hq, ai, V.ref q, by kernel_rfl, V.int (0 + ((i : Nat) : Int)), by kernel_rfl, _, rfl, q, _, rfl, s2.seq hq, fun p hp => ?_⟩
      rw [Int.zero_add, cut_take]
      have s3 := same_new (o := .lst ((l.map V.str).take i)) hp
      have eD3 := s3 _ _ eD
      have tk1 : (l.take (i + 1)) = l.take i ++ [nm'] := take_snoc hnm
      have du := dupO_snoc hnm
      refine ⟨p, _, rfl, .inl (SqL.of upd_same), rfl, by rw [← List.map_take]; exact flat_strs _, _, rfl, ite2 (fun hc => ?_) (fun hc => ?_)⟩
      · rw [← List.map_take, inV_mem] at hc
        have hm := of_decide_eq_true hc
        refine ⟨V.ref q, by kernel_rfl, V.int ((i : Nat) : Int), by kernel_rfl, q, _, _, _, rfl, rfl, s3.seq (s2.seq hq), by rw [Int.zero_add] at ai; exact ai, _, eD3, small1000 (by rw [List.length_map]; omega), fun b o e => ?_, ys ++ [nm'], by rw [upd_same, List.map_append]; rfl, by rw [List.length_append]; show ys.length + 1 ≤ i + 1; omega, ?_, fun y hy => ?_⟩
        · rw [upd_ne (ne_of_none e hD)]
          exact s3 _ _ (s2 b o e)
        · rw [du, if_pos hm, List.head?_append, hh]
          rfl
        · rcases List.mem_append.mp hy with z | z
          · exact my y z
          · rw [List.mem_singleton.mp z]; exact List.mem_of_getElem? hnm
      · rw [← List.map_take, inV_mem] at hc
        have hm : ¬ nm' ∈ l.take i := fun z => hc (decide_eq_true z)
        refine ⟨s2.trans s3, ys, eD3, by omega, ?_, my⟩
        rw [du, if_neg hm, hh, Option.or_none]
    · rintro H2 ⟨s2, ys, eD, ly, hh, my⟩
      rw [List.length_map, Int.toNat_natCast] at hh
      rw [List.take_length] at hh
      refine ⟨_, rfl, (by show 0 ≤ sizeLine; decide), fun c0 h0 => ?_⟩
      have s3 := same_new (o := .lst []) h0
      refine ⟨_, _, .lst (SqL.of (s3 _ _ eD)) (dp_strL ys), .lst (SqL.of upd_same) .nil, sh_strs fun y hy => nm y (my y hy), sh_nil, ?_⟩
      rw [eqv_emp]
      have s03 := s2.trans s3
      cases ys with
      | nil =>
        refine ⟨_, rfl, iteE rfl ⟨(by show 0 ≤ sizeLine; decide), fun p hp => ?_⟩⟩
        have e : twL l = [] := by unfold twL; rw [← hh]; rfl
        refine k p _ (s03.trans (same_new hp)) (none_same s03 hp) ?_
        rw [e]
        exact ⟨⟨[], upd_same, .nil⟩, fun _ z => (nomatch z)⟩
      | cons y r =>
        refine ⟨_, rfl, iteS rfl ?_⟩
        have e : twL l = [.dup y] := by unfold twL; rw [← hh]; rfl
        refine ⟨_, rfl, D, _, _, _, rfl, rfl, SqL.of (s3 _ _ eD), atI_nat (j := 0) rfl, (by show 2 ≤ sizeLine; decide), fun t ht => ⟨(by show 1 ≤ sizeLine; decide), fun p hp => ?_⟩⟩
        have s4 := same_new (o := .tup [V.str "twice", V.str y]) ht
        have s5 := same_new (o := .lst [.ref t]) hp
        refine k p _ ((s03.trans s4).trans s5) (none_same (s03.trans s4) hp) ?_
        rw [e]
        exact ⟨⟨[.ref t], upd_same, .cons (.tup (SqT.same s5 (SqT.of upd_same)) (.cons (.str _) (.cons (.str _) .nil))) .nil⟩, fun x hx => by rw [List.mem_singleton.mp hx]; exact nm y (my y List.mem_cons_self)⟩
theorem ok_LOn {n : Nat} {f : Addr} {fd : FuncData} (F : Fun K "_law_own_names" "_law_own_names" sLOn f fd) (T : TxK10 mg) (GN : ∀ n, Has P w K mg base CX0 (3 + n) "_law_numbered" PLNu (spLNu K n)) : FnOk P w K mg base CX0 (3 + n + 1) f fd PLOn (spLOn K n) := by
  refine F.ok scLOn (fun vs H Q E h => ?_) (fun cdv A outer sh H vs Q E hr h => ?_)
  · obtain ⟨v, u, t, e, rfl, _⟩ := h
    rfl
  · obtain ⟨v, u, t, e, rfl, hv, hu, hdp, okb, sz, k⟩ := h
    have GN := GN n
    refine ⟨_, (pss_cons (ps_set (i := 2) scLOn.nd rfl (Or.inl rfl) (pe_op op_cat (pe_callTy call_list_of (by rfl) T.n_list bb_list (pa_cons (pe_ix (r := rIxT K) ix_tup (pv 0) pe_int (fun _ _ => rfl)) pa_nil)) (pe_lc (own := [("_law_param", 3)]) (g := gName 3) (tt := tYes) rfl scLOn.nd (pi_tup (pe_ix (r := rIxT K) ix_tup (pv 1) pe_int (fun _ _ => rfl))) (blkOk_by (own := [("_law_param", 3)]) (N := NLOn) (sc := (defScope sLOn)) (by decide +kernel)) (fun _ _ _ _ _ => (pg_name (i := 3) scLOn.nd rfl (Or.inl rfl))) (fun _ _ _ _ _ => pts_nil) (fun _ _ _ _ _ => (pe_ix (r := rIxT K) ix_tup (pv 3) pe_int (fun _ _ => rfl))))))
  (pss_cons (ps_for PassesOwn.never rfl (pi_list (pe_callH GN hr rfl pass0 (pa_cons (pe_ix (r := rIxT K) ix_tup (pv 1) pe_int (fun _ _ => rfl)) (pa_cons pe_int pa_nil)))) (pg_tup (by rfl) (pgs_cons (pg_name (i := 4) scLOn.nd rfl (Or.inl rfl)) (pgs_cons (pg_name (i := 5) scLOn.nd rfl (Or.inl rfl)) pgs_nil)))
  (pss_one (ps_if (PW.pt (pw_and (pt_cmpR op_in_seq (pe_ix (r := rIxT K) ix_tup (pv 5) pe_int (fun _ _ => rfl)) (pe_lst (pa_cons pe_str (pa_cons pe_str (pa_cons pe_str pa_nil)))) (by rfl)) (pw_and (pt_cmpR op_notN (pe_ix (r := rIxT K) ix_tup (pv 5) pe_int (fun _ _ => rfl)) pe_non (nomark _)) (pw_and1 (pt_cmpR op_notIn_seq (pe_ix (r := rIxT K) ix_tup (pv 5) pe_int (fun _ _ => rfl)) (pv 2) (by rfl))))))
  (pss_one (ps_expr (pe_bm PySem.F.plainAttrs_list PySem.F.slot_list_append PySem.F.type_list_append mt_append (pv 2) (pa_cons (pe_ix (r := rIxT K) ix_tup (pv 5) pe_int (fun _ _ => rfl)) pa_nil))))
  pss_nil)))
  (pss_one (ps_ret (pv 2))))), ?_⟩
    have hv : Dp K H v (.tuple [nmD t.names, nmD t.kinds, .tuple (t.keeps.map exD), .tuple (t.fns.map fnD)]) := hv
    have hu : Dp K H u (.tuple [.str e.name, .tuple (e.ps.map prD), blD e.b]) := hu
    obtain ⟨a, xs, rfl, hq, hd⟩ := hv.tupInv
    obtain ⟨x, y, z, uu, rfl, hx, _, _, _⟩ := hd.four
    obtain ⟨g, gs, rfl, hg, hgd⟩ := hx.tupInv
    obtain ⟨c, ys, rfl, hc, hcd⟩ := hu.tupInv
    obtain ⟨x1, x2, x3, rfl, h1, h2, h3⟩ := hcd.three
    obtain ⟨p, ps, rfl, hp, hpd⟩ := h2.tupInv
    have pp := DpAll.map hpd
    have lp : ps.length = e.ps.length := Paired.length pp
    have egs : gs = t.names.map V.str := dp_strs hgd
    subst egs
    refine ⟨_, rfl, a, _, _, _, rfl, rfl, hq, rfl, g, _, rfl, .inr hg, fun L0 hL0 => ?_⟩
    have s1 := same_new (o := .lst (t.names.map V.str)) hL0
    refine ⟨_, rfl, c, _, _, _, rfl, rfl, SqT.same s1 hc, rfl, p, rfl, ⟨_, SqT.same s1 hp⟩, fun D hD => ?_⟩
    refine lc_tup (K := K) (a := p) (xs := ps) (fun i H' => Same (upd H L0 (.lst (t.names.map V.str))) H' ∧ H' D = some (.lst ((e.ps.take i).map fun p => V.str p.1))) ⟨same_new hD, upd_same⟩ (fun i H' _ h' => SqT.same (s1.trans h'.1) hp) ?_ ?_
    · rintro i z H2 hz ⟨s2, eD⟩
      obtain ⟨pr, ht, htd⟩ := Paired.at pp hz
      have htd : Dp K H z (.tuple [.str pr.1, .bool pr.2]) := htd
      obtain ⟨c, zs, rfl, hc, hcd⟩ := htd.tupInv
      obtain ⟨u, w, rfl, hu, hw⟩ := hcd.two
      rw [hu.strInv] at hc
      have hi : i < ps.length := (List.getElem?_eq_some_iff.mp hz).1
      refine ⟨wipe1 (by decide), V.ref c, by kernel_rfl, c, _, _, _, rfl, rfl, SqT.same (s1.trans s2) hc, atI_nat (j := 0) rfl, _, eD, small1000 (by rw [List.length_map, List.length_take]; omega), fun c o z => ?_, ?_⟩
      · rw [upd_ne (ne_of_none z hD)]
        exact s2 _ _ z
      · rw [upd_same, take_snoc ht, List.map_append]
        rfl
    · rintro H2 ⟨s2, eD⟩
      rw [lp, List.take_length] at eD
      have eD : H2 D = some (.lst ((prs e).map V.str)) := by rw [eD]; unfold prs; rw [List.map_map]; rfl
      have eL0 := s2 _ _ (upd_same : upd H L0 (.lst (t.names.map V.str)) L0 = _)
      have s2 := s1.trans s2
      have lpr : (prs e).length = e.ps.length := by unfold prs; rw [List.length_map]
      refine ⟨L0, D, _, _, rfl, rfl, eL0, eD, Nat.le_of_lt (small1000 (by rw [List.length_map, List.length_map]; omega)), fun q0 hq0 => ?_⟩
      have s3 := same_new (o := .lst (t.names.map V.str ++ (prs e).map V.str)) hq0
      have e3 : upd H2 q0 (.lst (t.names.map V.str ++ (prs e).map V.str)) q0 = some (.lst ((t.names ++ prs e).map V.str)) := by rw [upd_same, List.map_append]
      have nq0 := none_same s2 hq0
      have s03 := s2.trans s3
      generalize upd H2 q0 (.lst (t.names.map V.str ++ (prs e).map V.str)) = H3 at *
      have hc3 := SqT.same s03 hc
      refine ⟨_, rfl, c, _, _, _, rfl, rfl, hc3, atI_nat (j := 2) rfl, x3, e.b, 0, rfl, h3.same s03, hdp, okb, by omega, fun L ls H4 s4 nL eL pL => ?_⟩
      have e4 := s4 _ _ e3
      have qL : q0 ≠ L := ne_of_none e3 nL
      have t2 := s03.trans s4
      refine ⟨L, rfl, ⟨_, SqL.of eL⟩, ?_⟩
      clear hc3 hpd pp h2 h3 hp hd hq hg hx hgd hcd
      have tot : (allB e.b 0).length ≤ szB e.b := by rw [allB_len]; exact Nat.le_refl _
      refine for_list (K := K) (a := L) (xs := ls) (fun j σ H' => ∃ x4 x5 : Option V, σ = [some (.ref a), some (.ref c), some (.ref q0), none, x4, x5] ∧ Same H H' ∧ Tps H4 H' ∧ H' L = some (.lst ls) ∧ H' q0 = some (.lst (((((allB e.b 0).take j).filterMap fun p => asgS p.2).foldl stepL (t.names ++ prs e)).map V.str))) ⟨_, _, rfl, t2, Tps.refl, eL, e4⟩ (fun j σ H' _ h' => by obtain ⟨_, _, _, _, _, z, _⟩ := h'; exact SqL.of z) ?_ ?_
      · rintro j x σ H5 hx ⟨x4, x5, rfl, s5, t5, eL5, eq⟩
        obtain ⟨⟨num, st⟩, hp, hpd⟩ := Paired.at pL hx
        have hj : j < ls.length := (List.getElem?_eq_some_iff.mp hx).1
        obtain ⟨b, u, rfl, hqa, hd⟩ := hpd.tps t5
        obtain ⟨c5, ys5, rfl, hc, hcd⟩ := stInv hd
        refine ⟨b, _, rfl, hqa, rfl, _, _, rfl, _, _, rfl, rfl, ?_⟩
        refine ⟨_, rfl, c5, _, _, _, rfl, rfl, hc, atI_nat (j := 0) rfl, (by show 3 ≤ sizeLine; decide), fun tt ht => ?_⟩
        have s6 := same_new (o := .lst [.str "set", .str "input", .str "call"]) ht
        have hc4 := SqT.same s6 hc
        have eq4 := s6 _ _ eq
        have hcd4 := DpAll.same s6 hcd
        have hpre : ((allB e.b 0).take (j + 1)).filterMap (fun p => asgS p.2) = ((allB e.b 0).take j).filterMap (fun p => asgS p.2) ++ (asgS st).toList := filterMap_snoc (f := fun p : Nat × St => asgS p.2) hp
        have lacc := stepL_len (l := ((allB e.b 0).take j).filterMap (fun p => asgS p.2)) (acc := t.names ++ prs e)
        have l1 := List.length_filterMap_le (fun p : Nat × St => asgS p.2) ((allB e.b 0).take j)
        rw [List.length_take] at l1
        rw [List.length_append] at lacc
        have lj : (allB e.b 0).length = ls.length := (Paired.length pL).symm
        rw [hpre, List.foldl_append]
        generalize (((allB e.b 0).take j).filterMap (fun p => asgS p.2)).foldl stepL (t.names ++ prs e) = acc at *
        have ett : upd H5 tt (.lst [V.str "set", V.str "input", V.str "call"]) tt = some (.lst [.str "set", .str "input", .str "call"]) := upd_same
        have eL6 := s6 _ _ eL5
        have s06 := s5.trans s6
        have t6 := t5.trans (Tps.of s6)
        have s0n : Same H5 (upd H5 tt (.lst [.str "set", .str "input", .str "call"])) := s6
        generalize upd H5 tt (.lst [V.str "set", V.str "input", V.str "call"]) = H6 at *
        have finN : asgS st = none → Same H H6 ∧ Tps H4 H6 ∧ H6 L = some (.lst ls) ∧ H6 q0 = some (.lst (((asgS st).toList.foldl stepL acc).map V.str)) := fun e0 => ⟨s06, t6, eL6, by rw [e0]; exact eq4⟩
        have finM : ∀ nm, asgS st = some nm → nm ∈ acc → Same H H6 ∧ Tps H4 H6 ∧ H6 L = some (.lst ls) ∧ H6 q0 = some (.lst (((asgS st).toList.foldl stepL acc).map V.str)) := fun nm e0 hm => ⟨s06, t6, eL6, by rw [e0]; show _ = some (HO.lst ((stepL acc nm).map V.str)); unfold stepL; rw [if_pos hm]; exact eq4⟩
        have fin : ∀ nm, asgS st = some nm → nm ∉ acc → Same H (upd H6 q0 (.lst (acc.map V.str ++ [.str nm]))) ∧ Tps H4 (upd H6 q0 (.lst (acc.map V.str ++ [.str nm]))) ∧ (upd H6 q0 (.lst (acc.map V.str ++ [.str nm]))) L = some (.lst ls) ∧ (upd H6 q0 (.lst (acc.map V.str ++ [.str nm]))) q0 = some (.lst (((asgS st).toList.foldl stepL acc).map V.str)) := fun nm e0 hm => by
          refine ⟨fun c o z => ?_, t6.trans (Tps.lst eq4), ?_, ?_⟩
          · rw [upd_ne (ne_of_none z nq0)]
            exact s06 _ _ z
          · rw [upd_ne qL.symm]
            exact eL6
          · rw [upd_same, e0]
            show _ = some (HO.lst ((stepL acc nm).map V.str))
            unfold stepL
            rw [if_neg hm, List.map_append]
            rfl
        have lq : (acc.map V.str).length < 1000 := by rw [List.length_map]; omega
        clear hpre hp hpd hd hc hcd hqa
        cases st <;> simp only [wordS] at hc4
        case set g e =>
          obtain ⟨x, y, rfl, h1, h2⟩ := hcd4.two
          rw [h1.strInv] at hc4
          refine ⟨tt, _, rfl, .inl (SqL.of ett), rfl, rfl, _, rfl, iteS (by simp only [wordS]; decide +kernel) ?_⟩
          refine ⟨_, rfl, c5, _, _, _, rfl, rfl, hc4, atI_nat (j := 1) rfl, rfl, _, rfl, iteS (by rw [decide_eq_false (fun z => by cases z)]; rfl) ?_⟩
          refine ⟨_, rfl, c5, _, _, _, rfl, rfl, hc4, atI_nat (j := 1) rfl, _, rfl, q0, _, rfl, .inl (SqL.of eq4), rfl, flat_strs _, _, rfl, ?_⟩
          rw [if_pos rfl, inV_mem]
          by_cases hm : g ∈ acc
          · exact iteE (by rw [decide_eq_true hm]; rfl) ⟨_, _, rfl, finM _ rfl hm⟩
          · refine iteS (by rw [decide_eq_false hm]; rfl) ?_
            refine ⟨_, rfl, .inl ⟨rfl, _, SqL.of eq4⟩, _, rfl, c5, _, _, _, rfl, rfl, hc4, atI_nat (j := 1) rfl, q0, _, _, rfl, rfl, eq4, small1000 (Nat.le_of_lt lq), ?_⟩
            exact ⟨_, _, rfl, fin _ rfl hm⟩
        case input g =>
          obtain ⟨x, rfl, h1⟩ := hcd4.one
          rw [h1.strInv] at hc4
          refine ⟨tt, _, rfl, .inl (SqL.of ett), rfl, rfl, _, rfl, iteS (by simp only [wordS]; decide +kernel) ?_⟩
          refine ⟨_, rfl, c5, _, _, _, rfl, rfl, hc4, atI_nat (j := 1) rfl, rfl, _, rfl, iteS (by rw [decide_eq_false (fun z => by cases z)]; rfl) ?_⟩
          refine ⟨_, rfl, c5, _, _, _, rfl, rfl, hc4, atI_nat (j := 1) rfl, _, rfl, q0, _, rfl, .inl (SqL.of eq4), rfl, flat_strs _, _, rfl, ?_⟩
          rw [if_pos rfl, inV_mem]
          by_cases hm : g ∈ acc
          · exact iteE (by rw [decide_eq_true hm]; rfl) ⟨_, _, rfl, finM _ rfl hm⟩
          · refine iteS (by rw [decide_eq_false hm]; rfl) ?_
            refine ⟨_, rfl, .inl ⟨rfl, _, SqL.of eq4⟩, _, rfl, c5, _, _, _, rfl, rfl, hc4, atI_nat (j := 1) rfl, q0, _, _, rfl, rfl, eq4, small1000 (Nat.le_of_lt lq), ?_⟩
            exact ⟨_, _, rfl, fin _ rfl hm⟩
        case call g gg as =>
          obtain ⟨x, y, z, rfl, h1, h2, h3⟩ := hcd4.three
          refine ⟨tt, _, rfl, .inl (SqL.of ett), rfl, rfl, _, rfl, iteS (by simp only [wordS]; decide +kernel) ?_⟩
          cases g with
          | none =>
            cases h1
            refine ⟨_, rfl, c5, _, _, _, rfl, rfl, hc4, atI_nat (j := 1) rfl, rfl, _, rfl, iteE (by rw [decide_eq_true rfl]; rfl) ?_⟩
            exact ⟨_, _, rfl, finN rfl⟩
          | some g =>
            rw [show optD (some g) = .str g from rfl] at h1
            rw [h1.strInv] at hc4
            refine ⟨_, rfl, c5, _, _, _, rfl, rfl, hc4, atI_nat (j := 1) rfl, rfl, _, rfl, iteS (by rw [decide_eq_false (fun z => by cases z)]; rfl) ?_⟩
            refine ⟨_, rfl, c5, _, _, _, rfl, rfl, hc4, atI_nat (j := 1) rfl, _, rfl, q0, _, rfl, .inl (SqL.of eq4), rfl, flat_strs _, _, rfl, ?_⟩
            rw [if_pos rfl, inV_mem]
            by_cases hm : g ∈ acc
            · exact iteE (by rw [decide_eq_true hm]; rfl) ⟨_, _, rfl, finM _ rfl hm⟩
            · refine iteS (by rw [decide_eq_false hm]; rfl) ?_
              refine ⟨_, rfl, .inl ⟨rfl, _, SqL.of eq4⟩, _, rfl, c5, _, _, _, rfl, rfl, hc4, atI_nat (j := 1) rfl, q0, _, _, rfl, rfl, eq4, small1000 (Nat.le_of_lt lq), ?_⟩
              exact ⟨_, _, rfl, fin _ rfl hm⟩
        all_goals
          refine ⟨tt, _, rfl, .inl (SqL.of ett), rfl, rfl, _, rfl, iteE (by simp only [wordS]; decide +kernel) ?_⟩
          exact ⟨_, _, rfl, finN rfl⟩
      · rintro σ H5 ⟨x4, x5, rfl, s5, t5, eL5, eq⟩
        rw [Paired.length pL, List.take_length] at eq
        refine ⟨_, rfl, k q0 H5 s5 nq0 ?_⟩
        rw [eq]
        unfold asgB at *
        rw [show ((allB e.b 0).filterMap fun p => asgS p.2).foldl stepL (t.names ++ prs e) = vnT t e from own_vn]
end

/-! ### k10: _law_words_of, _law_of_calls -/
abbrev sLWo : Stmt := topS 80
abbrev NLWo : List Str := ["_law_args", "_law_found", "_law_word", "_law_one", "_law_term"]
abbrev PLWo : List Str := ["_law_args"]
theorem scLWo : FnScope NLWo PLWo (defScope sLWo) := ⟨rfl, rfl, rfl, by decide +kernel, rfl, by decide +kernel, by decide +kernel⟩
abbrev sLOc : Stmt := topS 81
abbrev NLOc : List Str := ["_law_tree", "_law_variables", "_law_place", "_law_calls", "_law_heads", "_law_function", "_law_found", "_law_name", "_law_args", "_law_word", "_law_params", "_law_param", "_law_arg"]
abbrev PLOc : List Str := ["_law_tree", "_law_variables", "_law_place", "_law_calls"]
theorem scLOc : FnScope NLOc PLOc (defScope sLOc) := ⟨rfl, rfl, rfl, by decide +kernel, rfl, by decide +kernel, by decide +kernel⟩
def spLWo (K : PySem.W.Frag) : Sp := fun vs H Q _ => ∃ (v : V) (as : List Arg), vs = [v] ∧ Dp K H v (.tuple (as.map argD)) ∧ (argsN as).length ≤ 900 ∧ ∀ (q : Addr) (H' : Hp), Same H H' → H q = none → H' q = some (.lst ((argsN as).map V.str)) → Q (.ref q) H'
section
variable {P : Program} {w : World} {K : PySem.W.Frag} {mg : Str → Option Value} {base : Heap}
theorem ok_LWo {f : Addr} {fd : FuncData} (F : Fun K "_law_words_of" "_law_words_of" sLWo f fd) : FnOk P w K mg base CX0 1 f fd PLWo (spLWo K) := by
  refine F.ok scLWo (fun vs H Q E h => ?_) (fun cdv A outer sh H vs Q E hr h => ?_)
  · obtain ⟨v, as, rfl, _⟩ := h
    rfl
  · obtain ⟨v, as, rfl, hv, tot, k⟩ := h
    refine ⟨_, (pss_cons (ps_set (i := 1) scLWo.nd rfl (Or.inl rfl) (pe_lst pa_nil))
  (pss_cons (ps_for PassesOwn.never rfl (pi_tup (pv 0)) (pg_tup (by rfl) (pgs_cons (pg_name (i := 2) scLWo.nd rfl (Or.inl rfl)) (pgs_cons (pg_name (i := 3) scLWo.nd rfl (Or.inl rfl)) pgs_nil)))
  (pss_one (ps_set (i := 1) scLWo.nd rfl (Or.inl rfl) (pe_op op_cat (pv 1) (pe_ifExp (pt_cmpR op_eq (pv 2) pe_str (nomark _)) (pe_lst (pa_cons (pv 3) pa_nil)) (pe_lc (own := [("_law_term", 4)]) (g := gName 4) (tt := tYes) rfl scLWo.nd (pi_tup (pe_ix (r := rIxT K) ix_tup (pv 3) pe_int (fun _ _ => rfl))) (blkOk_by (own := [("_law_term", 4)]) (N := NLWo) (sc := (defScope sLWo)) (by decide +kernel)) (fun _ _ _ _ _ => (pg_name (i := 4) scLWo.nd rfl (Or.inl rfl))) (fun _ _ _ _ _ => pts_nil) (fun _ _ _ _ _ => (pe_ix (r := rIxT K) ix_tup (pv 4) pe_int (fun _ _ => rfl)))))))))
  (pss_one (ps_ret (pv 1))))), ?_⟩
    obtain ⟨a, xs, rfl, hq, hd⟩ := hv.tupInv
    have pa := DpAll.map hd
    refine ⟨(by show 0 ≤ sizeLine; decide), fun q0 hq0 => ⟨_, rfl, a, rfl, ⟨_, SqT.same (same_new hq0) hq⟩, ?_⟩⟩
    refine for_tup (K := K) (a := a) (xs := xs) (fun j σ H' => ∃ (q : Addr) (x2 x3 : Option V), σ = [some (.ref a), some (.ref q), x2, x3, none] ∧ Same H H' ∧ H q = none ∧ H' q = some (.lst ((argsN (as.take j)).map V.str))) ⟨q0, none, none, rfl, same_new hq0, hq0, upd_same⟩ (fun j σ H' _ h' => by obtain ⟨_, _, _, _, s', _⟩ := h'; exact SqT.same s' hq) ?_ ?_
    · rintro j x σ H1 hx ⟨q, x2, x3, rfl, s1, nq, eq⟩
      obtain ⟨g, hg, hgd⟩ := Paired.at pa hx
      have e1 : argsN (as.take (j + 1)) = argsN (as.take j) ++ argN g := by
        unfold argsN
        rw [take_snoc hg, List.flatMap_append]
        show _ ++ (argN g ++ []) = _
        rw [List.append_nil]
      have l1 : (argsN (as.take (j + 1))).length ≤ 900 := by
        refine Nat.le_trans ?_ tot
        have : argsN as = argsN (as.take (j + 1)) ++ argsN (as.drop (j + 1)) := by
          unfold argsN
          rw [← List.flatMap_append, List.take_append_drop]
        rw [this, List.length_append]
        omega
      rw [e1] at l1 ⊢
      rw [List.length_append] at l1
      cases g with
      | place n =>
        have hgd : Dp K H x (.tuple [.str "place", .str n]) := hgd
        obtain ⟨d, zs, rfl, hd, hdd⟩ := hgd.tupInv
        obtain ⟨u, w, rfl, hu, hw⟩ := hdd.two
        rw [hu.strInv, hw.strInv] at hd
        refine ⟨d, _, rfl, SqT.same s1 hd, rfl, _, _, rfl, _, _, rfl, rfl, ?_⟩
        refine ⟨_, rfl, _, rfl, rfl, _, rfl, iteS rfl ?_⟩
        refine ⟨_, rfl, (by show 1 ≤ sizeLine; decide), fun p hp => ?_⟩
        have s2 := same_new (o := .lst [.str n]) hp
        refine ⟨q, p, _, _, rfl, rfl, s2 _ _ eq, upd_same, Nat.le_of_lt (small1000 (by rw [List.length_map]; have : (argN (Arg.place n)).length = 1 := rfl; have h1 : [V.str n].length = 1 := rfl; omega)), fun r hr' => ?_⟩
        have s3 := s1.trans s2
        exact ⟨r, _, _, rfl, s3.trans (same_new hr'), none_same s3 hr', by rw [upd_same, List.map_append]; rfl⟩
      | value e =>
        have hgd : Dp K H x (.tuple [.str "value", exD e]) := hgd
        obtain ⟨d, zs, rfl, hd, hdd⟩ := hgd.tupInv
        obtain ⟨u, w, rfl, hu, hw⟩ := hdd.two
        have hw : Dp K H w (.tuple [.int e.c, .tuple (e.ts.map fun p => .tuple [.str p.1, .int p.2])]) := hw
        rw [hu.strInv] at hd
        refine ⟨d, _, rfl, SqT.same s1 hd, rfl, _, _, rfl, _, _, rfl, rfl, ?_⟩
        refine ⟨_, rfl, _, rfl, rfl, _, rfl, iteE (by decide +kernel) ?_⟩
        obtain ⟨z1, zs, rfl, hz, hzd⟩ := hw.tupInv
        obtain ⟨w1, w2, rfl, h4, h5⟩ := hzd.two
        obtain ⟨b, ts, rfl, hb, hbd⟩ := h5.tupInv
        have pt := DpAll.map hbd
        have lt : ts.length = e.ts.length := Paired.length pt
        have le : (argN (.value e)).length = e.ts.length := by show (e.ts.map Prod.fst).length = _; rw [List.length_map]
        refine ⟨_, rfl, z1, _, _, _, rfl, rfl, SqT.same s1 hz, rfl, b, rfl, ⟨_, SqT.same s1 hb⟩, fun D hD => ?_⟩
        refine lc_tup (K := K) (a := b) (xs := ts) (fun i H' => Same H1 H' ∧ H' D = some (.lst ((e.ts.take i).map fun p => V.str p.1))) ⟨same_new hD, upd_same⟩ (fun i H' _ h' => SqT.same (s1.trans h'.1) hb) ?_ ?_
        · rintro i z H2 hz ⟨s2, eD⟩
          obtain ⟨pr, ht, htd⟩ := Paired.at pt hz
          obtain ⟨c, zs, rfl, hc, hcd⟩ := htd.tupInv
          obtain ⟨u, w, rfl, hu, hw⟩ := hcd.two
          rw [hu.strInv] at hc
          have hi : i < ts.length := (List.getElem?_eq_some_iff.mp hz).1
          refine ⟨wipe1 (by decide), V.ref c, by kernel_rfl, c, _, _, _, rfl, rfl, SqT.same (s1.trans s2) hc, atI_nat (j := 0) rfl, _, eD, small1000 (by rw [List.length_map, List.length_take]; omega), fun c o z => ?_, ?_⟩
          · rw [upd_ne (ne_of_none z hD)]
            exact s2 _ _ z
          · rw [upd_same, take_snoc ht, List.map_append]
            rfl
        · rintro H2 ⟨s2, eD⟩
          rw [lt, List.take_length] at eD
          have eD : H2 D = some (.lst ((argN (.value e)).map V.str)) := by rw [eD]; show _ = some (HO.lst ((e.ts.map Prod.fst).map V.str)); rw [List.map_map]; rfl
          have s3 := s1.trans s2
          refine ⟨q, D, _, _, rfl, rfl, s2 _ _ eq, eD, Nat.le_of_lt (small1000 (by rw [List.length_map, List.length_map]; omega)), fun r hr' => ?_⟩
          exact ⟨r, _, _, rfl, s3.trans (same_new hr'), none_same s3 hr', by rw [upd_same, List.map_append]⟩
    · rintro σ H1 ⟨q, x2, x3, rfl, s1, nq, eq⟩
      rw [Paired.length pa, List.take_length] at eq
      exact ⟨_, rfl, k q H1 s1 nq eq⟩
theorem unkL_snoc {l kn : List Str} {i : Nat} {x : Str} (h : l[i]? = some x) : unkL (l.take (i + 1)) kn = unkL (l.take i) kn ++ (if x ∈ kn then [] else [.unk x]) := by
  unfold unkL
  rw [take_snoc h, List.filter_append, List.map_append]
  by_cases hx : x ∈ kn
  · rw [if_pos hx, List.filter_cons, if_neg (by simpa using hx)]
    rfl
  · rw [if_neg hx, List.filter_cons, if_pos (by simpa using hx)]
    rfl
theorem unkL_len (l kn : List Str) : (unkL l kn).length ≤ l.length := by
  unfold unkL
  rw [List.length_map]
  exact List.length_filter_le _ _
theorem unkL_ok {l kn : List Str} (h : ∀ x ∈ l, isName x = true) : ∀ e ∈ unkL l kn, erOk e := fun e he => by
  obtain ⟨x, hx, rfl⟩ := List.mem_map.mp he
  exact h x ((List.mem_filter.mp hx).1)
/-- within [("unknown", word) for word in l if word not in kn] -/
def UnkInv (K : PySem.W.Frag) (H1 : Hp) (D : Addr) (l kn : List Str) (i : Nat) (H' : Hp) : Prop := Same H1 H' ∧ ∃ us, H' D = some (.lst us) ∧ us.length ≤ i ∧ Paired (fun x e => Dp K H' x (erD e)) us (unkL (l.take i) kn)
theorem args_name {c : Cal} (h : okCal c) {x : Str} (hx : x ∈ argsN c.2) : isName x = true := by
  obtain ⟨a, ha, hm⟩ := List.mem_flatMap.mp hx
  have := h.2.2 a ha
  cases a with
  | place n => rw [List.mem_singleton.mp hm]; exact (show okN1 n from this).1
  | value e =>
    obtain ⟨p, hp, rfl⟩ := List.mem_map.mp hm
    exact ((show okEx e from this).2.1 p hp).1.1
theorem callU_len {t : Tr} {vn : List Str} : ∀ {cs : List Cal}, (∀ g ∈ cs, (argsN g.2).length ≤ 100) → (cs.flatMap (callU t vn)).length ≤ 101 * cs.length
  | [], _ => Nat.zero_le _
  | g :: r, h => by
    have ih := callU_len (t := t) (vn := vn) (cs := r) fun x hx => h x (List.mem_cons_of_mem _ hx)
    have hg := h g List.mem_cons_self
    have l1 := unkL_len [g.1] (headsT t)
    have l2 := unkL_len (argsN g.2) vn
    rw [List.flatMap_cons, List.length_append, List.length_cons]
    unfold callU at ih ⊢
    rw [List.length_append]
    have : [g.1].length = 1 := rfl
    omega
theorem UnkInv.zero {K : PySem.W.Frag} {H1 : Hp} {D : Addr} {l kn : List Str} (hD : H1 D = none) : UnkInv K H1 D l kn 0 (upd H1 D (.lst [])) := ⟨same_new hD, [], upd_same, Nat.le_refl _, .nil⟩
theorem UnkInv.no {K : PySem.W.Frag} {H1 H' : Hp} {D : Addr} {l kn : List Str} {i : Nat} {x : Str} (h : UnkInv K H1 D l kn i H') (hx : l[i]? = some x) (hn : x ∈ kn) : UnkInv K H1 D l kn (i + 1) H' := by
  obtain ⟨s, us, e, lu, p⟩ := h
  refine ⟨s, us, e, by omega, ?_⟩
  rw [unkL_snoc hx, if_pos hn, List.append_nil]
  exact p
theorem UnkInv.yes {K : PySem.W.Frag} {H1 H' : Hp} {D t : Addr} {l kn : List Str} {i : Nat} {x : Str} {us : List V} (hD : H1 D = none) (s : Same H1 H') (e : H' D = some (.lst us)) (lu : us.length ≤ i) (p : Paired (fun x e => Dp K H' x (erD e)) us (unkL (l.take i) kn)) (hx : l[i]? = some x) (hn : x ∉ kn) (ht : H' t = none) :
    UnkInv K H1 D l kn (i + 1) (upd (upd H' t (.tup [.str "unknown", .str x])) D (.lst (us ++ [.ref t]))) := by
  have s2 := same_new (o := .tup [V.str "unknown", V.str x]) ht
  have e2 := s2 _ _ e
  have tp : Tps (upd H' t (.tup [V.str "unknown", V.str x])) (upd (upd H' t (.tup [.str "unknown", .str x])) D (.lst (us ++ [.ref t]))) := Tps.lst e2
  refine ⟨fun b o z => ?_, us ++ [.ref t], upd_same, by rw [List.length_append]; show us.length + 1 ≤ i + 1; omega, ?_⟩
  · rw [upd_ne (ne_of_none z hD)]
    exact s2 _ _ (s b o z)
  · rw [unkL_snoc hx, if_neg hn]
    exact Paired.snoc (Paired.mapP p fun _ e z => Dp.tps ((Tps.of s2).trans tp) z (noL_er e)) (.tup (tp.sqt (SqT.of upd_same)) (.cons (.str _) (.cons (.str _) .nil)))
theorem noL_prs (ps : List (Str × Bool)) : noL (.tuple (ps.map prD)) = true := noLs_map (fun _ => rfl) ps
/-- what comes of the calls of a statement -/
def spLOc (K : PySem.W.Frag) : Sp := fun vs H Q _ => ∃ (v : V) (q c : Addr) (pl : Nat) (t : Tr) (vn : List Str) (ys : List V) (cs : List Cal), vs = [v, .ref q, .int (pl : Int), .ref c] ∧ Dp K H v (trD t) ∧ t.fns.length ≤ 900 ∧ (∀ f ∈ t.fns, f.ps.length ≤ 900) ∧ H q = some (.lst (vn.map V.str)) ∧ H c = some (.lst ys) ∧ Paired (fun x g => Dp K H x (calD g)) ys cs ∧ cs.length ≤ 2 ∧ (∀ g ∈ cs, okCal g ∧ (argsN g.2).length ≤ 100) ∧
  ∀ (p : Addr) (H' : Hp), Same H H' → H p = none → ErL K H' p (ofL t vn pl cs) → Q (.ref p) H'
theorem ok_LOc {f : Addr} {fd : FuncData} (F : Fun K "_law_of_calls" "_law_of_calls" sLOc f fd) (GW : Has P w K mg base CX0 1 "_law_words_of" PLWo (spLWo K)) : FnOk P w K mg base CX0 2 f fd PLOc (spLOc K) := by
  refine F.ok scLOc (fun vs H Q E h => ?_) (fun cdv A outer sh H vs Q E hr h => ?_)
  · obtain ⟨v, q, c, pl, t, vn, ys, cs, rfl, _⟩ := h
    rfl
  · obtain ⟨v, q, c, pl, t, vn, ys, cs, rfl, hv, lfn, lps, eq, ec, pc, lcs, okc, k⟩ := h
    refine ⟨_, (pss_cons (ps_set (i := 4) scLOc.nd rfl (Or.inr rfl) (pe_lc (own := [("_law_function", 5)]) (g := gName 5) (tt := tYes) rfl scLOc.nd (pi_tup (pe_ix (r := rIxT K) ix_tup (pv 0) pe_int (fun _ _ => rfl))) (blkOk_by (own := [("_law_function", 5)]) (N := NLOc) (sc := (defScope sLOc)) (by decide +kernel)) (fun _ _ _ _ _ => (pg_name (i := 5) scLOc.nd rfl (Or.inl rfl))) (fun _ _ _ _ _ => pts_nil) (fun _ _ _ _ _ => (pe_ix (r := rIxT K) ix_tup (pv 5) pe_int (fun _ _ => rfl)))))
  (pss_cons (ps_set (i := 6) scLOc.nd rfl (Or.inl rfl) (pe_lst pa_nil))
  (pss_cons (ps_for PassesOwn.never rfl (pi_list (pv 3)) (pg_tup (by rfl) (pgs_cons (pg_name (i := 7) scLOc.nd rfl (Or.inr rfl)) (pgs_cons (pg_name (i := 8) scLOc.nd rfl (Or.inl rfl)) pgs_nil)))
  (pss_cons (ps_set (i := 6) scLOc.nd rfl (Or.inl rfl) (pe_op op_cat (pv 6) (pe_lc (own := [("_law_word", 9)]) (g := gName 9) rfl scLOc.nd (pi_list (pe_lst (pa_cons (pv 7) pa_nil))) (blkOk_by (own := [("_law_word", 9)]) (N := NLOc) (sc := (defScope sLOc)) (by decide +kernel)) (fun _ _ _ _ _ => (pg_name (i := 9) scLOc.nd rfl (Or.inl rfl))) (fun _ _ _ _ _ => (pts_one (pt_cmpR (r := rIn K true) op_notIn_seq (pv 9) (pv 4) (by rfl)))) (fun _ _ _ _ _ => (pe_tup (pa_cons pe_str (pa_cons (pv 9) pa_nil)))))))
  (pss_one (ps_set (i := 6) scLOc.nd rfl (Or.inl rfl) (pe_op op_cat (pv 6) (pe_lc (own := [("_law_word", 9)]) (g := gName 9) rfl scLOc.nd (pi_list (pe_callH GW hr rfl pass0 (pa_cons (pv 8) pa_nil))) (blkOk_by (own := [("_law_word", 9)]) (N := NLOc) (sc := (defScope sLOc)) (by decide +kernel)) (fun _ _ _ _ _ => (pg_name (i := 9) scLOc.nd rfl (Or.inl rfl))) (fun _ _ _ _ _ => (pts_one (pt_cmpR (r := rIn K true) op_notIn_seq (pv 9) (pv 1) (by rfl)))) (fun _ _ _ _ _ => (pe_tup (pa_cons pe_str (pa_cons (pv 9) pa_nil))))))))))
  (pss_cons (ps_if (pt_cmpR (op_neD hr.units) (pv 6) (pe_lst pa_nil) (nomark _))
  (pss_one (ps_ret (pv 6)))
  pss_nil)
  (pss_cons (ps_for PassesOwn.never rfl (pi_list (pv 3)) (pg_tup (by rfl) (pgs_cons (pg_name (i := 7) scLOc.nd rfl (Or.inr rfl)) (pgs_cons (pg_name (i := 8) scLOc.nd rfl (Or.inl rfl)) pgs_nil)))
  (pss_cons (ps_set (i := 10) scLOc.nd rfl (Or.inl rfl) (pe_ix (r := rIxL K) ix_list (pe_lc (own := [("_law_function", 5)]) (g := gName 5) rfl scLOc.nd (pi_tup (pe_ix (r := rIxT K) ix_tup (pv 0) pe_int (fun _ _ => rfl))) (blkOk_by (own := [("_law_function", 5)]) (N := NLOc) (sc := (defScope sLOc)) (by decide +kernel)) (fun _ _ _ _ _ => (pg_name (i := 5) scLOc.nd rfl (Or.inl rfl))) (fun _ _ _ _ _ => (pts_one (pt_cmpR op_eq (pe_ix (r := rIxT K) ix_tup (pv 5) pe_int (fun _ _ => rfl)) (pv 7) (nomark _)))) (fun _ _ _ _ _ => (pe_ix (r := rIxT K) ix_tup (pv 5) pe_int (fun _ _ => rfl)))) pe_int (fun _ _ => rfl)))
  (pss_one (ps_if (pt_cmpR (op_neD hr.units) (pe_lc (own := [("_law_param", 11)]) (g := gName 11) (tt := tYes) rfl scLOc.nd (pi_tup (pv 10)) (blkOk_by (own := [("_law_param", 11)]) (N := NLOc) (sc := (defScope sLOc)) (by decide +kernel)) (fun _ _ _ _ _ => (pg_name (i := 11) scLOc.nd rfl (Or.inl rfl))) (fun _ _ _ _ _ => pts_nil) (fun _ _ _ _ _ => (pe_ix (r := rIxT K) ix_tup (pv 11) pe_int (fun _ _ => rfl)))) (pe_lc (own := [("_law_arg", 12)]) (g := gName 12) (tt := tYes) rfl scLOc.nd (pi_tup (pv 8)) (blkOk_by (own := [("_law_arg", 12)]) (N := NLOc) (sc := (defScope sLOc)) (by decide +kernel)) (fun _ _ _ _ _ => (pg_name (i := 12) scLOc.nd rfl (Or.inl rfl))) (fun _ _ _ _ _ => pts_nil) (fun _ _ _ _ _ => (pe_cmpR op_eq (pe_ix (r := rIxT K) ix_tup (pv 12) pe_int (fun _ _ => rfl)) pe_str (nomark _)))) (nomark _))
  (pss_one (ps_ret (pe_lst (pa_cons (pe_tup (pa_cons pe_str (pa_cons (pv 2) pa_nil))) pa_nil))))
  pss_nil))))
  (pss_one (ps_ret (pe_lst pa_nil)))))))), ?_⟩
    have hv : Dp K H v (.tuple [nmD t.names, nmD t.kinds, .tuple (t.keeps.map exD), .tuple (t.fns.map fnD)]) := hv
    obtain ⟨a, xs, rfl, hq, hd⟩ := hv.tupInv
    obtain ⟨x0, x1, x2, uu, rfl, _, _, _, hx⟩ := hd.four
    obtain ⟨g, gs, rfl, hg, hgd⟩ := hx.tupInv
    have pf := DpAll.map hgd
    have lgs : gs.length = t.fns.length := Paired.length pf
    refine ⟨_, rfl, a, _, _, _, rfl, rfl, hq, rfl, g, rfl, ⟨_, hg⟩, fun D hD => ?_⟩
    refine lc_tup (K := K) (a := g) (xs := gs) (fun i H' => Same H H' ∧ H' D = some (.lst ((t.fns.take i).map fun f => V.str f.name))) ⟨same_new hD, upd_same⟩ (fun i H' _ h' => SqT.same h'.1 hg) ?_ ?_
    · rintro i z H1 hz ⟨s1, eD⟩
      obtain ⟨fn, ht, htd⟩ := Paired.at pf hz
      have htd : Dp K H z (.tuple [.str fn.name, .tuple (fn.ps.map prD), blD fn.b]) := htd
      obtain ⟨b, zs, rfl, hb, hbd⟩ := htd.tupInv
      obtain ⟨u1, u2, u3, rfl, h1, _, _⟩ := hbd.three
      rw [h1.strInv] at hb
      have hi : i < gs.length := (List.getElem?_eq_some_iff.mp hz).1
      refine ⟨wipe1 (by decide), V.ref b, by kernel_rfl, b, _, _, _, rfl, rfl, SqT.same s1 hb, atI_nat (j := 0) rfl, _, eD, small1000 (by rw [List.length_map, List.length_take]; omega), fun c o z => ?_, ?_⟩
      · rw [upd_ne (ne_of_none z hD)]
        exact s1 _ _ z
      · rw [upd_same, take_snoc ht, List.map_append]
        rfl
    · rintro H1 ⟨s1, eD⟩
      rw [lgs, List.take_length] at eD
      have eD : H1 D = some (.lst ((headsT t).map V.str)) := by rw [eD]; unfold headsT; rw [List.map_map]; rfl
      refine ⟨(by show 0 ≤ sizeLine; decide), fun q0 hq0 => ⟨_, rfl, c, rfl, ⟨_, SqL.of ((s1.trans (same_new hq0)) _ _ ec)⟩, ?_⟩⟩
      refine for_list (K := K) (a := c) (xs := ys) (fun j σ H' => ∃ (r : Addr) (x7 x8 : Option V), σ = [some (.ref a), some (.ref q), some (.int (pl : Int)), some (.ref c), some (.ref D), none, some (.ref r), x7, x8, none, none, none, none] ∧ Same H1 H' ∧ H1 r = none ∧ ErL K H' r ((cs.take j).flatMap (callU t vn))) ⟨q0, none, none, rfl, same_new hq0, hq0, ⟨[], upd_same, .nil⟩, fun _ z => (nomatch z)⟩ (fun j σ H' _ h' => by obtain ⟨_, _, _, _, s', _⟩ := h'; exact SqL.of ((s1.trans s') _ _ ec)) ?_ ?_
      · rintro j x σ H2 hx ⟨r, x7, x8, rfl, s2, nr, her⟩
        obtain ⟨cl, hcl, hcld⟩ := Paired.at pc hx
        have hcld : Dp K H x (.tuple [.str cl.1, .tuple (cl.2.map argD)]) := hcld
        obtain ⟨b, zs, rfl, hb, hbd⟩ := hcld.tupInv
        obtain ⟨u1, u2, rfl, h1, h2⟩ := hbd.two
        rw [h1.strInv] at hb
        obtain ⟨okn, lar⟩ := okc cl (List.mem_of_getElem? hcl)
        have s02 := s1.trans s2
        refine ⟨b, _, rfl, SqT.same s02 hb, rfl, _, _, rfl, _, _, rfl, rfl, ?_⟩
        obtain ⟨⟨us0, er, per⟩, oer⟩ := her
        have lU := (callU_len (t := t) (vn := vn) (cs := cs.take (j + 1)) fun g hg => (okc g (List.mem_of_mem_take hg)).2)
        rw [List.length_take] at lU
        have lU2 : ((cs.take (j + 1)).flatMap (callU t vn)).length ≤ 202 := by omega
        rw [take_snoc hcl, List.flatMap_append, show [cl].flatMap (callU t vn) = callU t vn cl from by simp] at lU2 ⊢
        have eC : callU t vn cl = unkL [cl.1] (headsT t) ++ unkL (argsN cl.2) vn := rfl
        rw [eC] at lU2 ⊢
        rw [List.length_append, List.length_append] at lU2
        have lus := Paired.length per
        refine ⟨_, rfl, _, rfl, (by show 1 ≤ sizeLine; decide), fun p hp => ⟨p, rfl, ⟨_, SqL.of upd_same⟩, fun D1 hD1 => ?_⟩⟩
        have s3 := same_new (o := .lst [.str cl.1]) hp
        have ep : upd H2 p (.lst [.str cl.1]) p = some (.lst [.str cl.1]) := upd_same
        have er3 := s3 _ _ er
        have s03 := s02.trans s3
        have per3 := Paired.mapP per fun _ _ z => z.same s3
        have s23 := s2.trans s3
        generalize upd H2 p (.lst [.str cl.1]) = H3 at *
        refine lc_list (K := K) (a := p) (xs := [.str cl.1]) (fun i H' => UnkInv K H3 D1 [cl.1] (headsT t) i H') (.zero hD1) (fun i H' _ h' => SqL.of (h'.1 _ _ ep)) ?_ ?_
        · rintro i z H4 hz ⟨s4, us, eu, lu, pu⟩
          obtain ⟨rfl, rfl⟩ : i = 0 ∧ z = .str cl.1 := by
            cases i with
            | zero => injection hz with hz; exact ⟨rfl, hz.symm⟩
            | succ i => cases hz
          refine ⟨wipe1 (by decide), V.str cl.1, by kernel_rfl, V.ref D, by kernel_rfl, D, _, rfl, .inl (SqL.of (s4 _ _ (s23 _ _ eD))), rfl, flat_strs _, _, rfl, ?_⟩
          rw [if_pos rfl, inV_mem]
          by_cases hm : cl.1 ∈ headsT t
          · refine iteE (by rw [decide_eq_true hm]; rfl) ?_
            exact UnkInv.no (x := cl.1) ⟨s4, us, eu, lu, pu⟩ rfl hm
          · refine iteS (by rw [decide_eq_false hm]; rfl) ?_
            refine ⟨V.str cl.1, by kernel_rfl, (by show 2 ≤ sizeLine; decide), fun t4 ht4 => ⟨us, same_new ht4 _ _ eu, small1000 (by omega), ?_⟩⟩
            exact UnkInv.yes (x := cl.1) hD1 s4 eu lu pu rfl hm ht4
        · rintro H4 ⟨s4, us, eu, lu, pu⟩
          rw [show [cl.1].take [V.str cl.1].length = [cl.1] from rfl] at pu
          have lu2 := Paired.length pu
          refine ⟨r, D1, _, _, rfl, rfl, s4 _ _ er3, eu, Nat.le_of_lt (small1000 (by omega)), fun r1 hr1 => ?_⟩
          have s5 := same_new (o := .lst (us0 ++ us)) hr1
          have er5 : upd H4 r1 (.lst (us0 ++ us)) r1 = some (.lst (us0 ++ us)) := upd_same
          have p5 := Paired.mapP (Paired.app (Paired.mapP per3 fun _ _ z => z.same s4) pu) fun _ _ z => z.same s5
          have s05 := s03.trans (s4.trans s5)
          have s25 := s23.trans (s4.trans s5)
          generalize upd H4 r1 (.lst (us0 ++ us)) = H5 at *
          refine ⟨_, rfl, _, rfl, u2, cl.2, rfl, h2.same s05, by omega, fun L H6 s6 nL eL => ⟨L, rfl, ⟨_, SqL.of eL⟩, fun D2 hD2 => ?_⟩⟩
          have er6 := s6 _ _ er5
          have p6 := Paired.mapP p5 fun _ _ z => z.same s6
          have s06 := s05.trans s6
          have s26 := s25.trans s6
          refine lc_list (K := K) (a := L) (xs := (argsN cl.2).map V.str) (fun i H' => UnkInv K H6 D2 (argsN cl.2) vn i H') (.zero hD2) (fun i H' _ h' => SqL.of (h'.1 _ _ eL)) ?_ ?_
          · rintro i z H7 hz ⟨s7, us2, eu2, lu3, pu2⟩
            have hi : i < (argsN cl.2).length := by
              have := (List.getElem?_eq_some_iff.mp hz).1
              rwa [List.length_map] at this
            obtain ⟨nm, hnm⟩ : ∃ nm, (argsN cl.2)[i]? = some nm := ⟨_, List.getElem?_eq_getElem hi⟩
            rw [List.getElem?_map, hnm] at hz
            simp only [Option.map_some, Option.some.injEq] at hz
            subst hz
            refine ⟨wipe1 (by decide), V.str nm, by kernel_rfl, V.ref q, by kernel_rfl, q, _, rfl, .inl (SqL.of ((s06.trans s7) _ _ eq)), rfl, flat_strs _, _, rfl, ?_⟩
            rw [if_pos rfl, inV_mem]
            by_cases hm : nm ∈ vn
            · refine iteE (by rw [decide_eq_true hm]; rfl) ?_
              exact UnkInv.no (x := nm) ⟨s7, us2, eu2, lu3, pu2⟩ hnm hm
            · refine iteS (by rw [decide_eq_false hm]; rfl) ?_
              refine ⟨V.str nm, by kernel_rfl, (by show 2 ≤ sizeLine; decide), fun t4 ht4 => ⟨us2, same_new ht4 _ _ eu2, small1000 (by omega), ?_⟩⟩
              exact UnkInv.yes (x := nm) hD2 s7 eu2 lu3 pu2 hnm hm ht4
          · rintro H7 ⟨s7, us2, eu2, lu3, pu2⟩
            rw [List.length_map, List.take_length] at pu2
            have lu4 := Paired.length pu2
            refine ⟨r1, D2, _, _, rfl, rfl, s7 _ _ er6, eu2, Nat.le_of_lt (small1000 (by rw [List.length_append]; omega)), fun r2 hr2 => ?_⟩
            have s8 := same_new (o := .lst ((us0 ++ us) ++ us2)) hr2
            exact ⟨r2, _, _, rfl, s26.trans (s7.trans s8), none_same (s26.trans s7) hr2, ⟨_, upd_same, by
              rw [← List.append_assoc]
              exact Paired.app (Paired.mapP p6 fun _ _ z => z.same (s7.trans s8)) (Paired.mapP pu2 fun _ _ z => z.same s8)⟩, fun e he => by
              rcases List.mem_append.mp he with z | z
              · exact oer e z
              · rcases List.mem_append.mp z with z | z
                · exact unkL_ok (fun x hx => by rw [List.mem_singleton.mp hx]; exact okn.1.1) e z
                · exact unkL_ok (fun x hx => args_name okn hx) e z⟩
      · rintro σ H2 ⟨r, x7, x8, rfl, s2, nr, her⟩
        obtain ⟨⟨us0, er, per⟩, oer⟩ := her
        rw [Paired.length pc, List.take_length] at per oer
        refine ⟨_, rfl, (by show 0 ≤ sizeLine; decide), fun c0 h0 => ?_⟩
        have s3 := same_new (o := .lst []) h0
        have s02 := s1.trans s2
        refine ⟨_, _, .lst (SqL.of (s3 _ _ er)) (dpAll_of (Paired.mapP per fun _ _ z => z.same s3)), .lst (SqL.of upd_same) .nil, er_lay oer, sh_nil, ?_⟩
        rw [eqv_emp]
        have s03 := s02.trans s3
        cases hU : cs.flatMap (callU t vn) with
        | cons u0 ur =>
          have eo : ofL t vn pl cs = cs.flatMap (callU t vn) := by
            unfold ofL
            rw [hU]
            rfl
          refine ⟨_, rfl, iteS rfl ⟨_, rfl, k r _ s03 (none_same s1 nr) ?_⟩⟩
          rw [eo]
          exact ⟨⟨us0, s3 _ _ er, Paired.mapP per fun _ _ z => z.same s3⟩, oer⟩
        | nil =>
          refine ⟨_, rfl, iteE rfl ?_⟩
          have inH : ∀ g ∈ cs, g.1 ∈ headsT t := fun g hg => by
            have : callU t vn g = [] := List.flatMap_eq_nil_iff.mp hU g hg
            have := (List.append_eq_nil_iff.mp this).1
            by_cases z : g.1 ∈ headsT t
            · exact z
            · unfold unkL at this
              rw [List.filter_cons, if_pos (by simpa using z)] at this
              cases this
          have nc0 := none_same s02 h0
          have s3' := s03
          have hU' := hU
          generalize upd H2 c0 (.lst []) = H3 at *
          refine ⟨_, rfl, c, rfl, ⟨_, SqL.of (s03 _ _ ec)⟩, ?_⟩
          refine for_list (K := K) (a := c) (xs := ys) (fun j σ H' => ∃ (x7 x8 x10 : Option V), σ = [some (.ref a), some (.ref q), some (.int (pl : Int)), some (.ref c), some (.ref D), none, some (.ref r), x7, x8, none, x10, none, none] ∧ Same H3 H' ∧ ∀ g ∈ cs.take j, fitB t g.1 g.2 = true) ⟨_, _, none, rfl, Same.refl _, fun _ z => (nomatch z)⟩ (fun j σ H' _ h' => by obtain ⟨_, _, _, _, s', _⟩ := h'; exact SqL.of ((s03.trans s') _ _ ec)) ?_ ?_
          · rintro j x σ H4 hx ⟨x7, x8, x10, rfl, s4, hfit⟩
            obtain ⟨cl, hcl, hcld⟩ := Paired.at pc hx
            have hcld : Dp K H x (.tuple [.str cl.1, .tuple (cl.2.map argD)]) := hcld
            obtain ⟨b, zs, rfl, hb, hbd⟩ := hcld.tupInv
            obtain ⟨u1, u2, rfl, h1, h2⟩ := hbd.two
            obtain ⟨d, ds, rfl, hd, hdd⟩ := h2.tupInv
            have pa := DpAll.map hdd
            rw [h1.strInv] at hb
            obtain ⟨okn, lar⟩ := okc cl (List.mem_of_getElem? hcl)
            have s04 := s03.trans s4
            refine ⟨b, _, rfl, SqT.same s04 hb, rfl, _, _, rfl, _, _, rfl, rfl, ?_⟩
            refine ⟨_, rfl, a, _, _, _, rfl, rfl, SqT.same s04 hq, rfl, g, rfl, ⟨_, SqT.same s04 hg⟩, fun D3 hD3 => ?_⟩
            have ln : cl.1 ∈ headsT t := inH cl (List.mem_of_getElem? hcl)
            refine lc_tup (K := K) (a := g) (xs := gs) (fun i H' => Same H4 H' ∧ ∃ zs, H' D3 = some (.lst zs) ∧ zs.length ≤ i ∧ Paired (fun z f => Dp K H' z (.tuple (f.ps.map prD))) zs ((t.fns.take i).filter fun f => decide (f.name = cl.1))) ⟨same_new hD3, [], upd_same, Nat.le_refl _, .nil⟩ (fun i H' _ h' => SqT.same (s04.trans h'.1) hg) ?_ ?_
            · rintro i z H5 hz ⟨s5, zs, eD3, lzs, pzs⟩
              obtain ⟨fn, ht, htd⟩ := Paired.at pf hz
              have htd : Dp K H z (.tuple [.str fn.name, .tuple (fn.ps.map prD), blD fn.b]) := htd
              obtain ⟨b, zs2, rfl, hb, hbd⟩ := htd.tupInv
              obtain ⟨u1, u2, u3, rfl, h1, h2, _⟩ := hbd.three
              rw [h1.strInv] at hb
              have hi : i < gs.length := (List.getElem?_eq_some_iff.mp hz).1
              refine ⟨wipe1 (by decide), V.ref b, by kernel_rfl, b, _, _, _, rfl, rfl, SqT.same (s04.trans s5) hb, atI_nat (j := 0) rfl, V.str cl.1, by kernel_rfl, rfl, _, rfl, ?_⟩
              by_cases e : fn.name = cl.1
              · refine iteS (decide_eq_true (by rw [e])) ?_
                refine ⟨V.ref b, by kernel_rfl, b, _, _, _, rfl, rfl, SqT.same (s04.trans s5) hb, atI_nat (j := 1) rfl, zs, eD3, small1000 (by omega), fun c o z => ?_, zs ++ [u2], upd_same, by rw [List.length_append]; show zs.length + 1 ≤ i + 1; omega, ?_⟩
                · rw [upd_ne (ne_of_none z hD3)]
                  exact s5 _ _ z
                · rw [take_snoc ht, List.filter_append, show [fn].filter (fun f => decide (f.name = cl.1)) = [fn] from by rw [List.filter_cons, if_pos (decide_eq_true e)]; rfl]
                  exact Paired.snoc (Paired.mapP pzs fun _ f z => Dp.tps (Tps.lst eD3) z (noL_prs f.ps)) (Dp.tps (Tps.lst eD3) (h2.same (s04.trans s5)) (noL_prs fn.ps))
              · refine iteE (decide_eq_false (fun z => e (by injection z))) ⟨s5, zs, eD3, by omega, ?_⟩
                rw [take_snoc ht, List.filter_append, show [fn].filter (fun f => decide (f.name = cl.1)) = [] from by rw [List.filter_cons, if_neg (by simpa using e)]; rfl, List.append_nil]
                exact pzs
            · rintro H5 ⟨s5, zs, eD3, lzs, pzs⟩
              rw [lgs, List.take_length] at pzs
              obtain ⟨fn, r0, hfl⟩ : ∃ fn r0, (t.fns.filter fun f => decide (f.name = cl.1)) = fn :: r0 := by
                obtain ⟨g0, hg0, e0⟩ := List.mem_map.mp ln
                have : g0 ∈ t.fns.filter fun f => decide (f.name = cl.1) := List.mem_filter.mpr ⟨hg0, decide_eq_true e0⟩
                cases hh : t.fns.filter fun f => decide (f.name = cl.1) with
                | nil => rw [hh] at this; cases this
                | cons a b => exact ⟨a, b, rfl⟩
              have hfm : fn ∈ t.fns := (List.mem_filter.mp (hfl ▸ List.mem_cons_self : fn ∈ t.fns.filter fun f => decide (f.name = cl.1))).1
              have efit : fitB t cl.1 cl.2 = decide (fn.ps.map Prod.snd = cl.2.map isPl) := by
                unfold fitB
                rw [← List.head?_filter, hfl]
                rfl
              rw [hfl] at pzs
              obtain ⟨y0, yr, rfl, hy0⟩ : ∃ y0 yr, zs = y0 :: yr ∧ Dp K H5 y0 (.tuple (fn.ps.map prD)) := by
                cases pzs with
                | cons h _ => exact ⟨_, _, rfl, h⟩
              obtain ⟨p, ps, rfl, hp, hpd⟩ := hy0.tupInv
              have pp := DpAll.map hpd
              have lp : ps.length = fn.ps.length := Paired.length pp
              have lf := lps fn hfm
              refine ⟨D3, _, _, _, rfl, rfl, SqL.of eD3, atI_nat (j := 0) rfl, _, rfl, p, rfl, ⟨_, hp⟩, fun D4 hD4 => ?_⟩
              have s05 := s04.trans s5
              refine lc_tup (K := K) (a := p) (xs := ps) (fun i H' => Same H5 H' ∧ H' D4 = some (.lst (((fn.ps.take i).map Prod.snd).map V.bl))) ⟨same_new hD4, upd_same⟩ (fun i H' _ h' => SqT.same h'.1 hp) ?_ ?_
              · rintro i z H6 hz ⟨s6, eD4⟩
                obtain ⟨pr, ht, htd⟩ := Paired.at pp hz
                have htd : Dp K H5 z (.tuple [.str pr.1, .bool pr.2]) := htd
                obtain ⟨b2, zs, rfl, hb2, hbd⟩ := htd.tupInv
                obtain ⟨u, w, rfl, hu, hw⟩ := hbd.two
                rw [hu.strInv, Dp.blInv hw] at hb2
                have hi : i < ps.length := (List.getElem?_eq_some_iff.mp hz).1
                refine ⟨wipe1 (by decide), V.ref b2, by kernel_rfl, b2, _, _, _, rfl, rfl, SqT.same s6 hb2, atI_nat (j := 1) rfl, _, eD4, small1000 (by rw [List.length_map, List.length_map, List.length_take]; omega), fun c o z => ?_, ?_⟩
                · rw [upd_ne (ne_of_none z hD4)]
                  exact s6 _ _ z
                · rw [upd_same, take_snoc ht, List.map_append, List.map_append]
                  rfl
              · rintro H6 ⟨s6, eD4⟩
                rw [lp, List.take_length] at eD4
                have s06 := s05.trans s6
                refine ⟨_, rfl, d, rfl, ⟨_, SqT.same s06 hd⟩, fun D5 hD5 => ?_⟩
                refine lc_tup (K := K) (a := d) (xs := ds) (fun i H' => Same H6 H' ∧ H' D5 = some (.lst (((cl.2.take i).map isPl).map V.bl))) ⟨same_new hD5, upd_same⟩ (fun i H' _ h' => SqT.same (s06.trans h'.1) hd) ?_ ?_
                · rintro i z H7 hz ⟨s7, eD5⟩
                  obtain ⟨g2, hg2, hgd2⟩ := Paired.at pa hz
                  have hi : i < ds.length := (List.getElem?_eq_some_iff.mp hz).1
                  have la : cl.2.length ≤ 900 := okn.2.1
                  have lds : ds.length = cl.2.length := Paired.length pa
                  have fin : (((cl.2.take i).map isPl).map V.bl).length < sizeLine ∧ Same H6 (upd H7 D5 (.lst (((cl.2.take i).map isPl).map V.bl ++ [.bl (isPl g2)]))) ∧ upd H7 D5 (.lst (((cl.2.take i).map isPl).map V.bl ++ [.bl (isPl g2)])) D5 = some (.lst (((cl.2.take (i + 1)).map isPl).map V.bl)) := by
                    refine ⟨small1000 (by rw [List.length_map, List.length_map, List.length_take]; omega), fun c o z => ?_, ?_⟩
                    · rw [upd_ne (ne_of_none z hD5)]
                      exact s7 _ _ z
                    · rw [upd_same, take_snoc hg2, List.map_append, List.map_append]
                      rfl
                  cases g2 with
                  | place n =>
                    have hgd2 : Dp K H z (.tuple [.str "place", .str n]) := hgd2
                    obtain ⟨b3, zs, rfl, hb3, hbd3⟩ := hgd2.tupInv
                    obtain ⟨u, w, rfl, hu, hw⟩ := hbd3.two
                    rw [hu.strInv] at hb3
                    refine ⟨wipe1 (by decide), V.ref b3, by kernel_rfl, b3, _, _, _, rfl, rfl, SqT.same (s06.trans s7) hb3, atI_nat (j := 0) rfl, rfl, _, eD5, fin.1, ?_⟩
                    rw [decide_eq_true rfl]
                    exact fin.2
                  | value n =>
                    have hgd2 : Dp K H z (.tuple [.str "value", exD n]) := hgd2
                    obtain ⟨b3, zs, rfl, hb3, hbd3⟩ := hgd2.tupInv
                    obtain ⟨u, w, rfl, hu, hw⟩ := hbd3.two
                    rw [hu.strInv] at hb3
                    refine ⟨wipe1 (by decide), V.ref b3, by kernel_rfl, b3, _, _, _, rfl, rfl, SqT.same (s06.trans s7) hb3, atI_nat (j := 0) rfl, rfl, _, eD5, fin.1, ?_⟩
                    rw [decide_eq_false (by decide +kernel)]
                    exact fin.2
                · rintro H7 ⟨s7, eD5⟩
                  rw [Paired.length pa, List.take_length] at eD5
                  refine ⟨_, _, .lst (SqL.of (s7 _ _ eD4)) (dp_bools _), .lst (SqL.of eD5) (dp_bools _), shaped_bools _, shaped_bools _, ?_⟩
                  rw [eqv_boolsB, ← efit]
                  have s07 := s06.trans s7
                  cases hF : fitB t cl.1 cl.2 with
                  | true =>
                    refine ⟨_, rfl, iteE rfl ?_⟩
                    refine ⟨_, _, _, rfl, ((s4.trans s5).trans s6).trans s7, fun g hg => ?_⟩
                    rw [take_snoc hcl] at hg
                    rcases List.mem_append.mp hg with z | z
                    · exact hfit g z
                    · rw [List.mem_singleton.mp z]; exact hF
                  | false =>
                    refine ⟨_, rfl, iteS rfl ?_⟩
                    have eo : ofL t vn pl cs = [.arg pl] := by
                      unfold ofL
                      rw [hU']
                      refine (if_pos rfl).trans (if_neg fun z => ?_)
                      have := List.all_eq_true.mp z cl (List.mem_of_getElem? hcl)
                      rw [hF] at this
                      cases this
                    refine ⟨_, rfl, (by show 2 ≤ sizeLine; decide), fun t4 ht4 => ⟨(by show 1 ≤ sizeLine; decide), fun p hp => ?_⟩⟩
                    have s8 := same_new (o := .tup [V.str "arguments", V.int (pl : Int)]) ht4
                    have s9 := same_new (o := .lst [.ref t4]) hp
                    refine k p _ ((s07.trans s8).trans s9) (none_same (s07.trans s8) hp) ?_
                    rw [eo]
                    exact ⟨⟨[.ref t4], upd_same, .cons (.tup (SqT.same s9 (SqT.of upd_same)) (.cons (.str _) (.cons (.int _) .nil))) .nil⟩, fun x hx => by rw [List.mem_singleton.mp hx]; trivial⟩
          · rintro σ H4 ⟨x7, x8, x10, rfl, s4, hfit⟩
            have s04 := s03.trans s4
            have lc : ys.length = cs.length := Paired.length pc
            rw [lc, List.take_length] at hfit
            have eo : ofL t vn pl cs = [] := by
              unfold ofL
              rw [hU']
              exact (if_pos rfl).trans (if_pos (List.all_eq_true.mpr hfit))
            refine ⟨(by show 0 ≤ sizeLine; decide), fun p hp => k p _ (s04.trans (same_new hp)) (none_same s04 hp) ?_⟩
            rw [eo]
            exact ⟨⟨[], upd_same, .nil⟩, fun _ z => (nomatch z)⟩
end

/-! ### k10: _law_errors -/
abbrev sLEr : Stmt := topS 82
abbrev NLEr : List Str := ["_law_tree", "_law_variables", "_law_place", "_law_statement", "_law_word", "_law_term", "_law_found", "_law_wrong", "_law_kind", "_law_names_here", "_law_one", "_law_inside", "_law_banned"]
abbrev PLEr : List Str := ["_law_tree", "_law_variables", "_law_place", "_law_statement"]
theorem scLEr : FnScope NLEr PLEr (defScope sLEr) := ⟨rfl, rfl, rfl, by decide +kernel, rfl, by decide +kernel, by decide +kernel⟩
theorem ofL_len {t : Tr} {vn : List Str} {pl : Nat} {cs : List Cal} (h : ∀ g ∈ cs, (argsN g.2).length ≤ 100) : (ofL t vn pl cs).length ≤ 101 * cs.length + 1 := by
  have := callU_len (t := t) (vn := vn) h
  unfold ofL
  split
  · split
    · exact Nat.zero_le _
    · show 1 ≤ _
      omega
  · omega
theorem ban_in (s : St) : (if false = true then !inV (V.str (wordS s)) [.str "while", .str "try", .str "undo", .str "with", .str "return"] else inV (V.str (wordS s)) [.str "while", .str "try", .str "undo", .str "with", .str "return"]) = badF s := by
  cases s <;> (simp only [wordS, badF]; decide +kernel)
theorem sh_strsK {l : List Str} (h : ∀ x ∈ l, PyData.strOk x = true) : SeqAt.shaped (.list (l.map .str)) = true := by
  have h1 : PyData.canLayAll0 (l.map .str) = true := by
    induction l with
    | nil => simp [PyData.canLayAll0]
    | cons x r ih =>
      simp only [List.map_cons, PyData.canLayAll0, PyData.canLay0, h x List.mem_cons_self, Bool.true_and]
      exact ih fun y hy => h y (List.mem_cons_of_mem _ hy)
  have h2 : PyData.depthAll (l.map .str) = 0 := by
    clear h1 h
    induction l with
    | nil => simp [PyData.depthAll]
    | cons x r ih => simp only [List.map_cons, PyData.depthAll, PyData.depth, ih]; rfl
  unfold SeqAt.shaped
  simp only [PyData.canLay0, h1, PyData.depth, h2, Bool.true_and]
  rfl
def spLEr (K : PySem.W.Frag) (n : Nat) : Sp := fun vs H Q _ => ∃ (v u : V) (q : Addr) (pl : Nat) (t : Tr) (vn : List Str) (st : St), vs = [v, .ref q, .int (pl : Int), u] ∧ Dp K H v (trD t) ∧ t.fns.length ≤ 900 ∧ (∀ f ∈ t.fns, f.ps.length ≤ 900) ∧ H q = some (.lst (vn.map V.str)) ∧ Dp K H u (stD st) ∧ okS st ∧ dpS st ≤ n ∧ szS st ≤ 900 ∧ (namedS st).length ≤ 70 ∧ (∀ b hs f, st = .try_ b hs f → ∃ ks c, hs = [.mk ks c]) ∧
  ∀ (p : Addr) (H' : Hp), Same H H' → H p = none → ErL K H' p (errL t vn pl st) → Q (.ref p) H'
section
variable {P : Program} {w : World} {K : PySem.W.Frag} {mg : Str → Option Value} {base : Heap}
theorem ok_LEr {n : Nat} {f : Addr} {fd : FuncData} (F : Fun K "_law_errors" "_law_errors" sLEr f fd) (T : TxK10 mg) (GO : Has P w K mg base CX0 2 "_law_of_calls" PLOc (spLOc K)) (GN : ∀ n, Has P w K mg base CX0 (3 + n) "_law_numbered" PLNu (spLNu K n)) : FnOk P w K mg base CX0 (3 + n + 1) f fd PLEr (spLEr K n) := by
  refine F.ok scLEr (fun vs H Q E h => ?_) (fun cdv A outer sh H vs Q E hr h => ?_)
  · obtain ⟨v, u, q, pl, t, vn, st, rfl, _⟩ := h
    rfl
  · obtain ⟨v, u, q, pl, t, vn, st, rfl, hv, lfn, lps, eq, hu, oks, hdp, hsz, hnm, htry, k⟩ := h
    have GN := GN n
    have hr2 := hr.mono (j := 2) (by omega)
    refine ⟨_, (pss_cons (ps_set (i := 4) scLEr.nd rfl (Or.inr rfl) (pe_ix (r := rIxT K) ix_tup (pv 3) pe_int (fun _ _ => rfl)))
  (pss_cons (ps_if (pt_cmpR (r := rIn K false) op_in_seq (pv 4) (pe_lst (pa_cons pe_str (pa_cons pe_str pa_nil))) (by rfl))
  (pss_one (ps_ret (pe_lc (own := [("_law_term", 5)]) (g := gName 5) rfl scLEr.nd (pi_tup (pe_ix (r := rIxT K) ix_tup (pe_ix (r := rIxT K) ix_tup (pv 3) (pe_un un_neg pe_int) (fun _ _ => rfl)) pe_int (fun _ _ => rfl))) (blkOk_by (own := [("_law_term", 5)]) (N := NLEr) (sc := (defScope sLEr)) (by decide +kernel)) (fun _ _ _ _ _ => (pg_name (i := 5) scLEr.nd rfl (Or.inl rfl))) (fun _ _ _ _ _ => (pts_one (pt_cmpR (r := rIn K true) op_notIn_seq (pe_ix (r := rIxT K) ix_tup (pv 5) pe_int (fun _ _ => rfl)) (pv 1) (by rfl)))) (fun _ _ _ _ _ => (pe_tup (pa_cons pe_str (pa_cons (pe_ix (r := rIxT K) ix_tup (pv 5) pe_int (fun _ _ => rfl)) pa_nil)))))))
  pss_nil)
  (pss_cons (ps_if (pt_cmpR op_eq (pv 4) pe_str (nomark _))
  (pss_one (ps_ret (pe_callH GO hr2 rfl pass0 (pa_cons (pv 0) (pa_cons (pv 1) (pa_cons (pv 2) (pa_cons (pe_lst (pa_cons (pe_slice sl_tup (pv 3) (po_some pe_int) po_none) pa_nil)) pa_nil)))))))
  pss_nil)
  (pss_cons (ps_if (pt_cmpR op_eq (pv 4) pe_str (nomark _))
  (pss_cons (ps_set (i := 6) scLEr.nd rfl (Or.inl rfl) (pe_callH GO hr2 rfl pass0 (pa_cons (pv 0) (pa_cons (pv 1) (pa_cons (pv 2) (pa_cons (pe_lst (pa_cons (pe_ix (r := rIxT K) ix_tup (pv 3) pe_int (fun _ _ => rfl)) (pa_cons (pe_ix (r := rIxT K) ix_tup (pv 3) pe_int (fun _ _ => rfl)) pa_nil))) pa_nil))))))
  (pss_cons (ps_setLc (i := 7) (own := [("_law_kind", 8)]) (g := gName 8) rfl scLEr.nd rfl rfl (sw_true rfl rfl rfl (by decide +kernel)) (pi_tup (pe_ix (r := rIxT K) ix_tup (pv 3) pe_int (fun _ _ => rfl))) (blkOk_by (own := [("_law_kind", 8)]) (N := NLEr) (sc := (defScope sLEr)) (by decide +kernel)) (fun _ _ _ _ _ => (pg_name (i := 8) scLEr.nd rfl (Or.inl rfl))) (fun _ _ _ _ _ => (pts_one (pt_cmpR (r := rIn K true) op_notIn_seq (pv 8) (pe_ix (r := rIxT K) ix_tup (pv 0) pe_int (fun _ _ => rfl)) (by rfl)))) (fun _ _ _ _ _ => (pe_tup (pa_cons pe_str (pa_cons (pv 8) pa_nil)))))
  (pss_one (ps_ret (pe_ifExp (PW.pt (pw_and (pt_cmpR (op_neD hr.units) (pv 6) (pe_lst pa_nil) (nomark _)) (pw_and (pt_cmpR op_eq (pe_ix (r := rIxT K) ix_tup (pe_ix (r := rIxL K) ix_list (pv 6) pe_int (fun _ _ => rfl)) pe_int (fun _ _ => rfl)) pe_str (nomark _)) (pw_and1 (pt_cmpR (op_neD hr.units) (pv 7) (pe_lst pa_nil) (nomark _)))))) (pv 7) (pe_op op_cat (pv 6) (pv 7)))))))
  pss_nil)
  (pss_cons (ps_if (pt_cmpR (r := rIn K false) op_in_seq (pv 4) (pe_lst (pa_cons pe_str (pa_cons pe_str (pa_cons pe_str pa_nil)))) (by rfl))
  (pss_cons (ps_set (i := 9) scLEr.nd rfl (Or.inl rfl) (pe_ifExp (pt_cmpR op_eq (pv 4) pe_str (nomark _)) (pe_lst (pa_cons (pe_ix (r := rIxT K) ix_tup (pv 3) pe_int (fun _ _ => rfl)) pa_nil)) (pe_callTy call_list_of (by rfl) T.n_list bb_list (pa_cons (pe_ix (r := rIxT K) ix_tup (pv 3) pe_int (fun _ _ => rfl)) pa_nil))))
  (pss_one (ps_ret (pe_lc (own := [("_law_one", 10)]) (g := gName 10) rfl scLEr.nd (pi_list (pv 9)) (blkOk_by (own := [("_law_one", 10)]) (N := NLEr) (sc := (defScope sLEr)) (by decide +kernel)) (fun _ _ _ _ _ => (pg_name (i := 10) scLEr.nd rfl (Or.inl rfl))) (fun _ _ _ _ _ => (pts_one (pt_cmpR (r := rIn K true) op_notIn_seq (pv 10) (pe_ifExp (pt_cmpR op_eq (pv 4) pe_str (nomark _)) (pv 1) (pe_ix (r := rIxT K) ix_tup (pv 0) pe_int (fun _ _ => rfl))) (by rfl)))) (fun _ _ _ _ _ => (pe_tup (pa_cons pe_str (pa_cons (pv 10) pa_nil))))))))
  pss_nil)
  (pss_cons (ps_if (pt_cmpR op_eq (pv 4) pe_str (nomark _))
  (pss_cons (ps_setLc (i := 7) (own := [("_law_one", 10)]) (g := gName 10) rfl scLEr.nd rfl rfl (sw_true rfl rfl rfl (by decide +kernel)) (pi_tup (pe_ix (r := rIxT K) ix_tup (pe_ix (r := rIxT K) ix_tup (pe_ix (r := rIxT K) ix_tup (pv 3) pe_int (fun _ _ => rfl)) pe_int (fun _ _ => rfl)) pe_int (fun _ _ => rfl))) (blkOk_by (own := [("_law_one", 10)]) (N := NLEr) (sc := (defScope sLEr)) (by decide +kernel)) (fun _ _ _ _ _ => (pg_name (i := 10) scLEr.nd rfl (Or.inl rfl))) (fun _ _ _ _ _ => (pts_one (pt_cmpR (r := rIn K true) op_notIn_seq (pv 10) (pe_ix (r := rIxT K) ix_tup (pv 0) pe_int (fun _ _ => rfl)) (by rfl)))) (fun _ _ _ _ _ => (pe_tup (pa_cons pe_str (pa_cons (pv 10) pa_nil)))))
  (pss_cons (ps_setLc (i := 11) (own := [("_law_one", 10)]) (g := gName 10) (tt := tYes) rfl scLEr.nd rfl rfl (sw_true rfl rfl rfl (by decide +kernel)) (pi_list (pe_callH GN hr rfl pass0 (pa_cons (pe_ix (r := rIxT K) ix_tup (pv 3) pe_int (fun _ _ => rfl)) (pa_cons pe_int pa_nil)))) (blkOk_by (own := [("_law_one", 10)]) (N := NLEr) (sc := (defScope sLEr)) (by decide +kernel)) (fun _ _ _ _ _ => (pg_name (i := 10) scLEr.nd rfl (Or.inl rfl))) (fun _ _ _ _ _ => pts_nil) (fun _ _ _ _ _ => (pe_ix (r := rIxT K) ix_tup (pe_ix (r := rIxT K) ix_tup (pv 10) pe_int (fun _ _ => rfl)) pe_int (fun _ _ => rfl))))
  (pss_cons (ps_setLc (i := 12) (own := [("_law_one", 10)]) (g := gName 10) rfl scLEr.nd rfl rfl (sw_true rfl rfl rfl (by decide +kernel)) (pi_list (pv 11)) (blkOk_by (own := [("_law_one", 10)]) (N := NLEr) (sc := (defScope sLEr)) (by decide +kernel)) (fun _ _ _ _ _ => (pg_name (i := 10) scLEr.nd rfl (Or.inl rfl))) (fun _ _ _ _ _ => (pts_one (pt_cmpR (r := rIn K false) op_in_seq (pv 10) (pe_lst (pa_cons pe_str (pa_cons pe_str (pa_cons pe_str (pa_cons pe_str (pa_cons pe_str pa_nil)))))) (by rfl)))) (fun _ _ _ _ _ => (pv 10)))
  (pss_one (ps_ret (pe_ifExp (PW.pt (pw_or (pt_cmpR (op_neD hr.units) (pv 7) (pe_lst pa_nil) (nomark _)) (pw_or1 (pt_cmpR (op_eqD hr.units) (pv 12) (pe_lst pa_nil) (nomark _))))) (pv 7) (pe_lst (pa_cons (pe_tup (pa_cons pe_str (pa_cons (pv 2) pa_nil))) pa_nil))))))))
  pss_nil)
  (pss_one (ps_ret (pe_lst pa_nil))))))))), ?_⟩
    have hv : Dp K H v (.tuple [nmD t.names, nmD t.kinds, .tuple (t.keeps.map exD), .tuple (t.fns.map fnD)]) := hv
    obtain ⟨a, xs, rfl, hq, hd⟩ := hv.tupInv
    obtain ⟨x0, x1, x2, uu, rfl, _, hk, _, _⟩ := hd.four
    obtain ⟨g, gs, rfl, hg, hgd⟩ := hk.tupInv
    have egs : gs = t.kinds.map V.str := dp_strs hgd
    subst egs
    obtain ⟨c, ys, rfl, hc, hcd⟩ := stInv hu
    refine ⟨_, rfl, c, _, _, _, rfl, rfl, hc, atI_nat (j := 0) rfl, _, rfl, ?_⟩
    refine ⟨(by show 2 ≤ sizeLine; decide), fun tt ht => ?_⟩
    have s1 := same_new (o := .lst [.str "set", .str "return"]) ht
    have ett : upd H tt (.lst [.str "set", .str "return"]) tt = some (.lst [.str "set", .str "return"]) := upd_same
    generalize upd H tt (.lst [V.str "set", V.str "return"]) = H1 at *
    refine ⟨tt, _, rfl, .inl (SqL.of ett), rfl, flat_strs ["set", "return"], _, rfl, ?_⟩
    have hs1 := s1
    cases st <;> simp only [wordS] at hc
    case set x e =>
      obtain ⟨z1, z2, rfl, h1, h2⟩ := hcd.two
      refine iteS (by simp only [wordS]; decide +kernel) ?_
      obtain ⟨b, zs, rfl, hb, hbd⟩ := (show Dp K H z2 (.tuple [.int e.c, .tuple (e.ts.map fun p => .tuple [.str p.1, .int p.2])]) from h2).tupInv
      obtain ⟨y1, y2, rfl, _, h3⟩ := hbd.two
      obtain ⟨d, ds, rfl, hd4, hdd⟩ := h3.tupInv
      have pt := DpAll.map hdd
      have lt : ds.length = e.ts.length := Paired.length pt
      have ln : e.ts.length ≤ 70 := by have : (namedS (.set x e)).length = e.ts.length := List.length_map _; omega
      refine ⟨_, rfl, 1, rfl, c, _, _, _, rfl, rfl, SqT.same s1 hc, rfl, b, _, _, _, rfl, rfl, SqT.same s1 hb, atI_nat (j := 1) rfl, d, rfl, ⟨_, SqT.same s1 hd4⟩, fun D hD => ?_⟩
      refine lc_tup (K := K) (a := d) (xs := ds) (fun i H' => UnkInv K H1 D (e.ts.map Prod.fst) vn i H') (.zero hD) (fun i H' _ h' => SqT.same (s1.trans h'.1) hd4) ?_ ?_
      · rintro i z H2 hz ⟨s2, us, eu, lu, pu⟩
        obtain ⟨p, hp, hpd⟩ := Paired.at pt hz
        obtain ⟨m, zs, rfl, hm, hmd⟩ := hpd.tupInv
        obtain ⟨w1, w2, rfl, h5, _⟩ := hmd.two
        rw [h5.strInv] at hm
        have hi : i < ds.length := (List.getElem?_eq_some_iff.mp hz).1
        have hx : (e.ts.map Prod.fst)[i]? = some p.1 := by rw [List.getElem?_map, hp]; rfl
        have s02 := s1.trans s2
        refine ⟨wipe1 (by decide), V.ref m, by kernel_rfl, m, _, _, _, rfl, rfl, SqT.same s02 hm, atI_nat (j := 0) rfl, V.ref q, by kernel_rfl, q, _, rfl, .inl (SqL.of (s02 _ _ eq)), rfl, flat_strs _, _, rfl, ?_⟩
        rw [if_pos rfl, inV_mem]
        by_cases hmm : p.1 ∈ vn
        · refine iteE (by rw [decide_eq_true hmm]; rfl) ?_
          exact UnkInv.no (x := p.1) ⟨s2, us, eu, lu, pu⟩ hx hmm
        · refine iteS (by rw [decide_eq_false hmm]; rfl) ?_
          refine ⟨V.ref m, by kernel_rfl, m, _, _, _, rfl, rfl, SqT.same s02 hm, atI_nat (j := 0) rfl, (by show 2 ≤ sizeLine; decide), fun t4 ht4 => ⟨us, same_new ht4 _ _ eu, small1000 (by omega), ?_⟩⟩
          exact UnkInv.yes (x := p.1) hD s2 eu lu pu hx hmm ht4
      · rintro H2 ⟨s2, us, eu, lu, pu⟩
        rw [lt, ← List.length_map (f := Prod.fst), List.take_length] at pu
        refine k D H2 (s1.trans s2) (none_same s1 hD) ⟨⟨us, eu, pu⟩, unkL_ok fun x hx => ?_⟩
        obtain ⟨p, hp, rfl⟩ := List.mem_map.mp hx
        exact ((show okN1 x ∧ okEx e from oks).2.2.1 p hp).1.1
    case ret e =>
      obtain ⟨z2, rfl, h2⟩ := hcd.one
      refine iteS (by simp only [wordS]; decide +kernel) ?_
      obtain ⟨b, zs, rfl, hb, hbd⟩ := (show Dp K H z2 (.tuple [.int e.c, .tuple (e.ts.map fun p => .tuple [.str p.1, .int p.2])]) from h2).tupInv
      obtain ⟨y1, y2, rfl, _, h3⟩ := hbd.two
      obtain ⟨d, ds, rfl, hd4, hdd⟩ := h3.tupInv
      have pt := DpAll.map hdd
      have lt : ds.length = e.ts.length := Paired.length pt
      have ln : e.ts.length ≤ 70 := by have : (namedS (.ret e)).length = e.ts.length := List.length_map _; omega
      refine ⟨_, rfl, 1, rfl, c, _, _, _, rfl, rfl, SqT.same s1 hc, rfl, b, _, _, _, rfl, rfl, SqT.same s1 hb, atI_nat (j := 1) rfl, d, rfl, ⟨_, SqT.same s1 hd4⟩, fun D hD => ?_⟩
      refine lc_tup (K := K) (a := d) (xs := ds) (fun i H' => UnkInv K H1 D (e.ts.map Prod.fst) vn i H') (.zero hD) (fun i H' _ h' => SqT.same (s1.trans h'.1) hd4) ?_ ?_
      · rintro i z H2 hz ⟨s2, us, eu, lu, pu⟩
        obtain ⟨p, hp, hpd⟩ := Paired.at pt hz
        obtain ⟨m, zs, rfl, hm, hmd⟩ := hpd.tupInv
        obtain ⟨w1, w2, rfl, h5, _⟩ := hmd.two
        rw [h5.strInv] at hm
        have hi : i < ds.length := (List.getElem?_eq_some_iff.mp hz).1
        have hx : (e.ts.map Prod.fst)[i]? = some p.1 := by rw [List.getElem?_map, hp]; rfl
        have s02 := s1.trans s2
        refine ⟨wipe1 (by decide), V.ref m, by kernel_rfl, m, _, _, _, rfl, rfl, SqT.same s02 hm, atI_nat (j := 0) rfl, V.ref q, by kernel_rfl, q, _, rfl, .inl (SqL.of (s02 _ _ eq)), rfl, flat_strs _, _, rfl, ?_⟩
        rw [if_pos rfl, inV_mem]
        by_cases hmm : p.1 ∈ vn
        · refine iteE (by rw [decide_eq_true hmm]; rfl) ?_
          exact UnkInv.no (x := p.1) ⟨s2, us, eu, lu, pu⟩ hx hmm
        · refine iteS (by rw [decide_eq_false hmm]; rfl) ?_
          refine ⟨V.ref m, by kernel_rfl, m, _, _, _, rfl, rfl, SqT.same s02 hm, atI_nat (j := 0) rfl, (by show 2 ≤ sizeLine; decide), fun t4 ht4 => ⟨us, same_new ht4 _ _ eu, small1000 (by omega), ?_⟩⟩
          exact UnkInv.yes (x := p.1) hD s2 eu lu pu hx hmm ht4
      · rintro H2 ⟨s2, us, eu, lu, pu⟩
        rw [lt, ← List.length_map (f := Prod.fst), List.take_length] at pu
        refine k D H2 (s1.trans s2) (none_same s1 hD) ⟨⟨us, eu, pu⟩, unkL_ok fun x hx => ?_⟩
        obtain ⟨p, hp, rfl⟩ := List.mem_map.mp hx
        exact ((show okEx e from oks).2.1 p hp).1.1
    case call x g2 as =>
      obtain ⟨z1, z2, z3, rfl, h1, h2, h3⟩ := hcd.three
      rw [h2.strInv] at hc
      refine iteE (by simp only [wordS]; decide +kernel) ?_
      refine ⟨_, rfl, rfl, _, rfl, iteS (by simp only [wordS]; decide +kernel) ?_⟩
      refine ⟨_, rfl, _, rfl, _, rfl, _, rfl, 2, rfl, c, _, rfl, SqT.same s1 hc, (fun z => absurd z.1 (by show ¬ HT.sIx 4 0 (some 2) = 0; decide +kernel)), fun p hp => ⟨(by show 1 ≤ sizeLine; decide), fun p2 hp2 => ?_⟩⟩
      have ec : cutV [V.str "call", z1, V.str g2, z3] (some 2) none = [.str g2, z3] := cut_drop (xs := [V.str "call", z1, V.str g2, z3]) (k := 2)
      rw [ec]
      have s2 := same_new (o := .tup [.str g2, z3]) hp
      have s3 := same_new (o := .lst [.ref p]) hp2
      have s03 := (s1.trans s2).trans s3
      have hp3 := SqT.same s3 (SqT.of (upd_same : upd H1 p (.tup [.str g2, z3]) p = _) : SqT K _ p _)
      have e2 : upd (upd H1 p (.tup [.str g2, z3])) p2 (.lst [.ref p]) p2 = some (.lst [.ref p]) := upd_same
      refine ⟨.ref a, q, p2, pl, t, vn, [.ref p], [(g2, as)], rfl, hv.same s03, lfn, lps, s03 _ _ eq, e2, .cons (.tup hp3 (.cons (.str _) (.cons (h3.same s03) .nil))) .nil, (by show 1 ≤ 2; decide), fun g hg => ?_, fun r H' s4 nr her => k r H' (s03.trans s4) (none_same s03 nr) her⟩
      rw [List.mem_singleton.mp hg]
      refine ⟨⟨oks.2.1, oks.2.2⟩, ?_⟩
      have : (namedS (.call x g2 as)).length = (argsN as).length + 1 := by show (((argsN as).map _).length + 1) = _; rw [List.length_map]
      show (argsN as).length ≤ 100
      omega
    case with_ e l ks b =>
      obtain ⟨z1, z2, z3, z4, rfl, h1, h2, h3, _⟩ := hcd.four
      refine iteE (by simp only [wordS]; decide +kernel) ?_
      refine ⟨_, rfl, rfl, _, rfl, iteE (decide_eq_false (by simp only [wordS]; decide +kernel)) ?_⟩
      refine ⟨_, rfl, rfl, _, rfl, iteS (decide_eq_true rfl) ?_⟩
      have hc1 := SqT.same s1 hc
      refine ⟨_, rfl, _, rfl, _, rfl, _, rfl, c, _, _, _, rfl, rfl, hc1, atI_nat (j := 1) rfl, _, rfl, c, _, _, _, rfl, rfl, hc1, atI_nat (j := 2) rfl, (by show 2 ≤ sizeLine; decide), fun p2 hp2 => ?_⟩
      have s2 := same_new (o := .lst [z1, z2]) hp2
      have s02 := s1.trans s2
      have e2 : upd H1 p2 (.lst [z1, z2]) p2 = some (.lst [z1, z2]) := upd_same
      generalize upd H1 p2 (.lst [z1, z2]) = H2 at *
      have nl : (namedS (.with_ e l ks b)).length = ((argsN e.2).length + 1) + ((argsN l.2).length + 1) + ks.length := by simp only [namedS, List.length_append, List.length_cons, List.length_map]
      refine ⟨.ref a, q, p2, pl, t, vn, [z1, z2], [e, l], rfl, hv.same s02, lfn, lps, s02 _ _ eq, e2, .cons (h1.same s02) (.cons (h2.same s02) .nil), (by show 2 ≤ 2; decide), fun g hg => ?_, fun r H3 s3 nr her => ?_⟩
      · rcases List.mem_cons.mp hg with z | z
        · rw [z]
          exact ⟨oks.1.1, by omega⟩
        · rw [List.mem_singleton.mp z]
          exact ⟨oks.1.2.1, by omega⟩
      · have s03 := s02.trans s3
        have hc3 := SqT.same s03 hc
        obtain ⟨d, ds, rfl, hd4, hdd⟩ := h3.tupInv
        have eds : ds = ks.map V.str := dp_strs hdd
        subst eds
        have lks : ks.length ≤ 70 := by omega
        refine ⟨_, rfl, c, _, _, _, rfl, rfl, hc3, atI_nat (j := 3) rfl, d, rfl, ⟨_, SqT.same s03 hd4⟩, fun D hD => ?_⟩
        refine lc_tup (K := K) (a := d) (xs := (ks).map V.str) (fun i H' => UnkInv K H3 D (ks) (t.kinds) i H') (.zero hD) (fun i H' _ h' => SqT.same (s03.trans h'.1) hd4) ?_ ?_
        · rintro i z H9 hz ⟨s9, us, eu, lu, pu⟩
          have hi : i < (ks).length := by
            have := (List.getElem?_eq_some_iff.mp hz).1
            rwa [List.length_map] at this
          obtain ⟨nm, hnm'⟩ : ∃ nm, (ks)[i]? = some nm := ⟨_, List.getElem?_eq_getElem hi⟩
          rw [List.getElem?_map, hnm'] at hz
          simp only [Option.map_some, Option.some.injEq] at hz
          subst hz
          have s09 := s03.trans s9
          refine ⟨wipe1 (by decide), V.str nm, by kernel_rfl, V.ref a, by kernel_rfl, a, _, _, _, rfl, rfl, SqT.same s09 hq, atI_nat (j := 1) rfl, g, _, rfl, .inr (SqT.same s09 hg), rfl, flat_strs _, _, rfl, ?_⟩
          rw [if_pos rfl, inV_mem]
          by_cases hm : nm ∈ t.kinds
          · refine iteE (by rw [decide_eq_true hm]; rfl) ?_
            exact UnkInv.no (x := nm) ⟨s9, us, eu, lu, pu⟩ hnm' hm
          · refine iteS (by rw [decide_eq_false hm]; rfl) ?_
            refine ⟨V.str nm, by kernel_rfl, (by show 2 ≤ sizeLine; decide), fun t4 ht4 => ⟨us, same_new ht4 _ _ eu, small1000 (by omega), ?_⟩⟩
            exact UnkInv.yes (x := nm) hD s9 eu lu pu hnm' hm ht4
        · rintro H9 ⟨s9, us, eu, lu, pu⟩
          rw [List.length_map, List.take_length] at pu
          have s09 := s03.trans s9
          obtain ⟨⟨xs0, e0, p0⟩, o0⟩ := her
          have lF := ofL_len (t := t) (vn := vn) (pl := pl) (cs := [e, l]) fun g hg => by
            rcases List.mem_cons.mp hg with z | z
            · rw [z]; omega
            · rw [List.mem_singleton.mp z]; omega
          have lx0 := Paired.length p0
          have e0' := s9 _ _ e0
          have p0' := Paired.mapP p0 fun _ _ z => z.same s9
          have lW := Paired.length pu
          have okW := unkL_ok (l := ks) (kn := t.kinds) fun x hx => (oks.1.2.2.2 x hx).1
          have nr2 : H r = none := none_same s02 nr
          have lF2 : (ofL t vn pl [e, l]).length ≤ 203 := lF
          have lW2 := unkL_len ks t.kinds
          have eE : errL t vn pl (.with_ e l ks b) = if (isArg (ofL t vn pl [e, l]) && !(unkL ks t.kinds).isEmpty) = true then unkL ks t.kinds else ofL t vn pl [e, l] ++ unkL ks t.kinds := rfl
          rw [eE] at k
          generalize ofL t vn pl [e, l] = F at *
          generalize unkL ks t.kinds = W at *
          have cat : ∀ H', Same H9 H' → (isArg F && !W.isEmpty) = false → ∀ r2, H' r2 = none → Q (.ref r2) (upd H' r2 (.lst (xs0 ++ us))) := fun H' s nc r2 n2 => by
            have s2' := same_new (o := .lst (xs0 ++ us)) n2
            refine k r2 _ ((s09.trans s).trans s2') (none_same (s09.trans s) n2) ?_
            rw [if_neg (by rw [nc]; exact Bool.false_ne_true)]
            exact ⟨⟨_, upd_same, Paired.app (Paired.mapP p0' fun _ _ z => z.same (s.trans s2')) (Paired.mapP pu fun _ _ z => z.same (s.trans s2'))⟩, fun e he => (List.mem_append.mp he).elim (o0 e) (okW e)⟩
          refine ⟨_, rfl, (by show 0 ≤ sizeLine; decide), fun c0 h0 => ?_⟩
          have s10 := same_new (o := .lst []) h0
          refine ⟨_, _, .lst (SqL.of (s10 _ _ e0')) (dpAll_of (Paired.mapP p0' fun _ _ z => z.same s10)), .lst (SqL.of upd_same) .nil, er_lay o0, sh_nil, ?_⟩
          rw [eqv_emp]
          generalize upd H9 c0 (.lst []) = HA at *
          have catL := s10 _ _ e0'
          have catR := s10 _ _ eu
          cases F with
          | nil =>
            refine ⟨_, rfl, iteE rfl (iteE rfl ?_)⟩
            exact ⟨_, rfl, _, rfl, r, D, _, _, rfl, rfl, catL, catR, Nat.le_of_lt (small1000 (by omega)), fun r2 hr2 => cat HA s10 rfl r2 hr2⟩
          | cons f0 fr =>
            cases p0' with
            | cons hf0 pfr => ?_
            refine ⟨_, rfl, iteS rfl ?_⟩
            cases f0 with
            | dup v0 =>
              obtain ⟨m, zs, rfl, hm, hmd⟩ := (show Dp K H9 _ (.tuple [.str "twice", _]) from hf0).tupInv
              obtain ⟨w1, w2, rfl, h5, _⟩ := hmd.two
              rw [h5.strInv] at hm
              refine ⟨_, rfl, r, _, _, _, rfl, rfl, SqL.of catL, atI_nat (j := 0) rfl, m, _, _, _, rfl, rfl, SqT.same s10 hm, atI_nat (j := 0) rfl, rfl, _, rfl, iteE (decide_eq_false (by decide +kernel)) (iteE rfl ?_)⟩
              exact ⟨_, rfl, _, rfl, r, D, _, _, rfl, rfl, catL, catR, Nat.le_of_lt (small1000 (by omega)), fun r2 hr2 => cat HA s10 rfl r2 hr2⟩
            | unk v0 =>
              obtain ⟨m, zs, rfl, hm, hmd⟩ := (show Dp K H9 _ (.tuple [.str "unknown", _]) from hf0).tupInv
              obtain ⟨w1, w2, rfl, h5, _⟩ := hmd.two
              rw [h5.strInv] at hm
              refine ⟨_, rfl, r, _, _, _, rfl, rfl, SqL.of catL, atI_nat (j := 0) rfl, m, _, _, _, rfl, rfl, SqT.same s10 hm, atI_nat (j := 0) rfl, rfl, _, rfl, iteE (decide_eq_false (by decide +kernel)) (iteE rfl ?_)⟩
              exact ⟨_, rfl, _, rfl, r, D, _, _, rfl, rfl, catL, catR, Nat.le_of_lt (small1000 (by omega)), fun r2 hr2 => cat HA s10 rfl r2 hr2⟩
            | fin v0 =>
              obtain ⟨m, zs, rfl, hm, hmd⟩ := (show Dp K H9 _ (.tuple [.str "finally", _]) from hf0).tupInv
              obtain ⟨w1, w2, rfl, h5, _⟩ := hmd.two
              rw [h5.strInv] at hm
              refine ⟨_, rfl, r, _, _, _, rfl, rfl, SqL.of catL, atI_nat (j := 0) rfl, m, _, _, _, rfl, rfl, SqT.same s10 hm, atI_nat (j := 0) rfl, rfl, _, rfl, iteE (decide_eq_false (by decide +kernel)) (iteE rfl ?_)⟩
              exact ⟨_, rfl, _, rfl, r, D, _, _, rfl, rfl, catL, catR, Nat.le_of_lt (small1000 (by omega)), fun r2 hr2 => cat HA s10 rfl r2 hr2⟩
            | arg v0 =>
              obtain ⟨m, zs, rfl, hm, hmd⟩ := (show Dp K H9 _ (.tuple [.str "arguments", _]) from hf0).tupInv
              obtain ⟨w1, w2, rfl, h5, _⟩ := hmd.two
              rw [h5.strInv] at hm
              refine ⟨_, rfl, r, _, _, _, rfl, rfl, SqL.of catL, atI_nat (j := 0) rfl, m, _, _, _, rfl, rfl, SqT.same s10 hm, atI_nat (j := 0) rfl, rfl, _, rfl, iteS (decide_eq_true rfl) ?_⟩
              refine ⟨_, rfl, (by show 0 ≤ sizeLine; decide), fun c1 h1 => ?_⟩
              have s11 := same_new (o := .lst []) h1
              refine ⟨_, _, .lst (SqL.of (s11 _ _ catR)) (dpAll_of (Paired.mapP pu fun _ _ z => z.same (s10.trans s11))), .lst (SqL.of upd_same) .nil, er_lay okW, sh_nil, ?_⟩
              rw [eqv_emp]
              cases W with
              | nil =>
                refine ⟨_, rfl, iteE rfl ?_⟩
                exact ⟨_, rfl, _, rfl, r, D, _, _, rfl, rfl, s11 _ _ catL, s11 _ _ catR, Nat.le_of_lt (small1000 (by omega)), fun r2 hr2 => cat _ (s10.trans s11) rfl r2 hr2⟩
              | cons w0 wr =>
                refine ⟨_, rfl, iteS rfl ?_⟩
                have s3z := s09.trans (s10.trans s11)
                refine ⟨_, rfl, k D _ s3z (none_same s03 hD) ?_⟩
                rw [show (isArg (Er.arg v0 :: fr) && !(w0 :: wr).isEmpty) = true from rfl, if_pos rfl]
                exact ⟨⟨us, s11 _ _ catR, Paired.mapP pu fun _ _ z => z.same (s10.trans s11)⟩, okW⟩
    case risk ks =>
      obtain ⟨z1, rfl, h1⟩ := hcd.one
      obtain ⟨d, ds, rfl, hd4, hdd⟩ := h1.tupInv
      have eds : ds = ks.map V.str := dp_strs hdd
      subst eds
      have lks : ks.length ≤ 70 := by have : (namedS (.risk ks)).length = ks.length := List.length_map _; omega
      refine iteE (by simp only [wordS]; decide +kernel) ?_
      refine ⟨_, rfl, rfl, _, rfl, iteE (decide_eq_false (by simp only [wordS]; decide +kernel)) ?_⟩
      refine ⟨_, rfl, rfl, _, rfl, iteE (decide_eq_false (by simp only [wordS]; decide +kernel)) ?_⟩
      refine ⟨_, rfl, (by show 3 ≤ sizeLine; decide), fun t2 ht2 => ?_⟩
      have s2 := same_new (o := .lst [.str "risk", .str "raise", .str "undo"]) ht2
      have e2 : upd H1 t2 (.lst [.str "risk", .str "raise", .str "undo"]) t2 = some (.lst [.str "risk", .str "raise", .str "undo"]) := upd_same
      generalize upd H1 t2 (.lst [V.str "risk", V.str "raise", V.str "undo"]) = H2 at *
      have s02 := s1.trans s2
      have hc2 := SqT.same s02 hc
      refine ⟨t2, _, rfl, .inl (SqL.of e2), rfl, flat_strs ["risk", "raise", "undo"], _, rfl, iteS (by simp only [wordS]; decide +kernel) ?_⟩
      refine ⟨_, rfl, rfl, _, rfl, iteE (decide_eq_false (by simp only [wordS]; decide +kernel)) ?_⟩
      refine ⟨_, rfl, c, _, _, _, rfl, rfl, hc2, atI_nat (j := 1) rfl, d, _, rfl, .inr (SqT.same s02 hd4), fun L0 hL0 => ?_⟩
      have s3 := same_new (o := .lst (ks.map V.str)) hL0
      have e3 : upd H2 L0 (.lst (ks.map V.str)) L0 = some (.lst (ks.map V.str)) := upd_same
      generalize upd H2 L0 (.lst (ks.map V.str)) = H3 at *
      have s03 := s02.trans s3
      refine ⟨_, rfl, L0, rfl, ⟨_, SqL.of e3⟩, fun D hD => ?_⟩
      refine lc_list (K := K) (a := L0) (xs := (ks).map V.str) (fun i H' => UnkInv K H3 D (ks) (t.kinds) i H') (.zero hD) (fun i H' _ h' => SqL.of (h'.1 _ _ e3)) ?_ ?_
      · rintro i z H9 hz ⟨s9, us, eu, lu, pu⟩
        have hi : i < (ks).length := by
          have := (List.getElem?_eq_some_iff.mp hz).1
          rwa [List.length_map] at this
        obtain ⟨nm, hnm'⟩ : ∃ nm, (ks)[i]? = some nm := ⟨_, List.getElem?_eq_getElem hi⟩
        rw [List.getElem?_map, hnm'] at hz
        simp only [Option.map_some, Option.some.injEq] at hz
        subst hz
        have s09 := s03.trans s9
        refine ⟨wipe1 (by decide), V.str nm, by kernel_rfl, V.str "risk", by kernel_rfl, rfl, _, rfl, iteE (decide_eq_false (by decide +kernel)) ?_⟩
        refine ⟨V.ref a, by kernel_rfl, a, _, _, _, rfl, rfl, SqT.same s09 hq, atI_nat (j := 1) rfl, g, _, rfl, .inr (SqT.same s09 hg), rfl, flat_strs _, _, rfl, ?_⟩
        rw [if_pos rfl, inV_mem]
        by_cases hm : nm ∈ t.kinds
        · refine iteE (by rw [decide_eq_true hm]; rfl) ?_
          exact UnkInv.no (x := nm) ⟨s9, us, eu, lu, pu⟩ hnm' hm
        · refine iteS (by rw [decide_eq_false hm]; rfl) ?_
          refine ⟨V.str nm, by kernel_rfl, (by show 2 ≤ sizeLine; decide), fun t4 ht4 => ⟨us, same_new ht4 _ _ eu, small1000 (by omega), ?_⟩⟩
          exact UnkInv.yes (x := nm) hD s9 eu lu pu hnm' hm ht4
      · rintro H9 ⟨s9, us, eu, lu, pu⟩
        rw [List.length_map, List.take_length] at pu
        have s09 := s03.trans s9
        exact k D _ s09 (none_same s03 hD) ⟨⟨us, eu, pu⟩, unkL_ok fun x hx => ((show ks ≠ [] ∧ okNs ks from oks).2.2 x hx).1⟩
    case undo ns b =>
      obtain ⟨z1, z2, rfl, h1, _⟩ := hcd.two
      obtain ⟨d, ds, rfl, hd4, hdd⟩ := h1.tupInv
      have eds : ds = ns.map V.str := dp_strs hdd
      subst eds
      have lks : ns.length ≤ 70 := by have : (namedS (.undo ns b)).length = ns.length := List.length_map _; omega
      refine iteE (by simp only [wordS]; decide +kernel) ?_
      refine ⟨_, rfl, rfl, _, rfl, iteE (decide_eq_false (by simp only [wordS]; decide +kernel)) ?_⟩
      refine ⟨_, rfl, rfl, _, rfl, iteE (decide_eq_false (by simp only [wordS]; decide +kernel)) ?_⟩
      refine ⟨_, rfl, (by show 3 ≤ sizeLine; decide), fun t2 ht2 => ?_⟩
      have s2 := same_new (o := .lst [.str "risk", .str "raise", .str "undo"]) ht2
      have e2 : upd H1 t2 (.lst [.str "risk", .str "raise", .str "undo"]) t2 = some (.lst [.str "risk", .str "raise", .str "undo"]) := upd_same
      generalize upd H1 t2 (.lst [V.str "risk", V.str "raise", V.str "undo"]) = H2 at *
      have s02 := s1.trans s2
      have hc2 := SqT.same s02 hc
      refine ⟨t2, _, rfl, .inl (SqL.of e2), rfl, flat_strs ["risk", "raise", "undo"], _, rfl, iteS (by simp only [wordS]; decide +kernel) ?_⟩
      refine ⟨_, rfl, rfl, _, rfl, iteE (decide_eq_false (by simp only [wordS]; decide +kernel)) ?_⟩
      refine ⟨_, rfl, c, _, _, _, rfl, rfl, hc2, atI_nat (j := 1) rfl, d, _, rfl, .inr (SqT.same s02 hd4), fun L0 hL0 => ?_⟩
      have s3 := same_new (o := .lst (ns.map V.str)) hL0
      have e3 : upd H2 L0 (.lst (ns.map V.str)) L0 = some (.lst (ns.map V.str)) := upd_same
      generalize upd H2 L0 (.lst (ns.map V.str)) = H3 at *
      have s03 := s02.trans s3
      refine ⟨_, rfl, L0, rfl, ⟨_, SqL.of e3⟩, fun D hD => ?_⟩
      refine lc_list (K := K) (a := L0) (xs := (ns).map V.str) (fun i H' => UnkInv K H3 D (ns) (vn) i H') (.zero hD) (fun i H' _ h' => SqL.of (h'.1 _ _ e3)) ?_ ?_
      · rintro i z H9 hz ⟨s9, us, eu, lu, pu⟩
        have hi : i < (ns).length := by
          have := (List.getElem?_eq_some_iff.mp hz).1
          rwa [List.length_map] at this
        obtain ⟨nm, hnm'⟩ : ∃ nm, (ns)[i]? = some nm := ⟨_, List.getElem?_eq_getElem hi⟩
        rw [List.getElem?_map, hnm'] at hz
        simp only [Option.map_some, Option.some.injEq] at hz
        subst hz
        have s09 := s03.trans s9
        refine ⟨wipe1 (by decide), V.str nm, by kernel_rfl, V.str "undo", by kernel_rfl, rfl, _, rfl, iteS (decide_eq_true rfl) ?_⟩
        refine ⟨V.ref q, by kernel_rfl, q, _, rfl, .inl (SqL.of (s09 _ _ eq)), rfl, flat_strs _, _, rfl, ?_⟩
        rw [if_pos rfl, inV_mem]
        by_cases hm : nm ∈ vn
        · refine iteE (by rw [decide_eq_true hm]; rfl) ?_
          exact UnkInv.no (x := nm) ⟨s9, us, eu, lu, pu⟩ hnm' hm
        · refine iteS (by rw [decide_eq_false hm]; rfl) ?_
          refine ⟨V.str nm, by kernel_rfl, (by show 2 ≤ sizeLine; decide), fun t4 ht4 => ⟨us, same_new ht4 _ _ eu, small1000 (by omega), ?_⟩⟩
          exact UnkInv.yes (x := nm) hD s9 eu lu pu hnm' hm ht4
      · rintro H9 ⟨s9, us, eu, lu, pu⟩
        rw [List.length_map, List.take_length] at pu
        have s09 := s03.trans s9
        exact k D _ s09 (none_same s03 hD) ⟨⟨us, eu, pu⟩, unkL_ok fun x hx => ((show (ns ≠ [] ∧ okNs ns) ∧ _ from oks).1.2.2 x hx).1⟩
    case raise k0 =>
      obtain ⟨z1, rfl, h1⟩ := hcd.one
      rw [h1.strInv] at hc
      refine iteE (by simp only [wordS]; decide +kernel) ?_
      refine ⟨_, rfl, rfl, _, rfl, iteE (decide_eq_false (by simp only [wordS]; decide +kernel)) ?_⟩
      refine ⟨_, rfl, rfl, _, rfl, iteE (decide_eq_false (by simp only [wordS]; decide +kernel)) ?_⟩
      refine ⟨_, rfl, (by show 3 ≤ sizeLine; decide), fun t2 ht2 => ?_⟩
      have s2 := same_new (o := .lst [.str "risk", .str "raise", .str "undo"]) ht2
      have e2 : upd H1 t2 (.lst [.str "risk", .str "raise", .str "undo"]) t2 = some (.lst [.str "risk", .str "raise", .str "undo"]) := upd_same
      generalize upd H1 t2 (.lst [V.str "risk", V.str "raise", V.str "undo"]) = H2 at *
      have s02 := s1.trans s2
      have hc2 := SqT.same s02 hc
      refine ⟨t2, _, rfl, .inl (SqL.of e2), rfl, flat_strs ["risk", "raise", "undo"], _, rfl, iteS (by simp only [wordS]; decide +kernel) ?_⟩
      refine ⟨_, rfl, rfl, _, rfl, iteS (decide_eq_true rfl) ?_⟩
      refine ⟨_, rfl, c, _, _, _, rfl, rfl, hc2, atI_nat (j := 1) rfl, (by show 1 ≤ sizeLine; decide), fun L0 hL0 => ?_⟩
      have s3 := same_new (o := .lst ([k0].map V.str)) hL0
      have e3 : upd H2 L0 (.lst ([k0].map V.str)) L0 = some (.lst ([k0].map V.str)) := upd_same
      rw [show [V.str k0] = [k0].map V.str from rfl]
      generalize upd H2 L0 (.lst ([k0].map V.str)) = H3 at *
      have s03 := s02.trans s3
      refine ⟨_, rfl, L0, rfl, ⟨_, SqL.of e3⟩, fun D hD => ?_⟩
      refine lc_list (K := K) (a := L0) (xs := ([k0]).map V.str) (fun i H' => UnkInv K H3 D ([k0]) (t.kinds) i H') (.zero hD) (fun i H' _ h' => SqL.of (h'.1 _ _ e3)) ?_ ?_
      · rintro i z H9 hz ⟨s9, us, eu, lu, pu⟩
        have hi : i < ([k0]).length := by
          have := (List.getElem?_eq_some_iff.mp hz).1
          rwa [List.length_map] at this
        obtain ⟨nm, hnm'⟩ : ∃ nm, ([k0])[i]? = some nm := ⟨_, List.getElem?_eq_getElem hi⟩
        rw [List.getElem?_map, hnm'] at hz
        simp only [Option.map_some, Option.some.injEq] at hz
        subst hz
        have s09 := s03.trans s9
        refine ⟨wipe1 (by decide), V.str nm, by kernel_rfl, V.str "raise", by kernel_rfl, rfl, _, rfl, iteE (decide_eq_false (by decide +kernel)) ?_⟩
        refine ⟨V.ref a, by kernel_rfl, a, _, _, _, rfl, rfl, SqT.same s09 hq, atI_nat (j := 1) rfl, g, _, rfl, .inr (SqT.same s09 hg), rfl, flat_strs _, _, rfl, ?_⟩
        rw [if_pos rfl, inV_mem]
        by_cases hm : nm ∈ t.kinds
        · refine iteE (by rw [decide_eq_true hm]; rfl) ?_
          exact UnkInv.no (x := nm) ⟨s9, us, eu, lu, pu⟩ hnm' hm
        · refine iteS (by rw [decide_eq_false hm]; rfl) ?_
          refine ⟨V.str nm, by kernel_rfl, (by show 2 ≤ sizeLine; decide), fun t4 ht4 => ⟨us, same_new ht4 _ _ eu, small1000 (by have : [k0].length = 1 := rfl; omega), ?_⟩⟩
          exact UnkInv.yes (x := nm) hD s9 eu lu pu hnm' hm ht4
      · rintro H9 ⟨s9, us, eu, lu, pu⟩
        rw [List.length_map, List.take_length] at pu
        have s09 := s03.trans s9
        exact k D _ s09 (none_same s03 hD) ⟨⟨us, eu, pu⟩, unkL_ok fun x hx => by rw [List.mem_singleton.mp hx]; exact (show okN1 k0 from oks).1⟩
    case try_ b hs f =>
      obtain ⟨ks, cc, rfl⟩ := htry b hs f rfl
      obtain ⟨z1, z2, z3, rfl, _, h2, h3⟩ := hcd.three
      obtain ⟨d1, ds1, rfl, hd1, hdd1⟩ := h2.tupInv
      obtain ⟨y1, rfl, h4⟩ := hdd1.one
      obtain ⟨d2, ds2, rfl, hd2, hdd2⟩ := (show Dp K H y1 (.tuple [nmD ks, blD cc]) from h4).tupInv
      obtain ⟨y2, y3, rfl, h5, _⟩ := hdd2.two
      obtain ⟨d, ds, rfl, hd4, hdd⟩ := h5.tupInv
      have eds : ds = ks.map V.str := dp_strs hdd
      subst eds
      have lks : ks.length ≤ 70 := by have : (namedS (.try_ b [.mk ks cc] f)).length = ks.length := by simp [namedS, Hd.ks]
                                      omega
      refine iteE (by simp only [wordS]; decide +kernel) ?_
      refine ⟨_, rfl, rfl, _, rfl, iteE (decide_eq_false (by simp only [wordS]; decide +kernel)) ?_⟩
      refine ⟨_, rfl, rfl, _, rfl, iteE (decide_eq_false (by simp only [wordS]; decide +kernel)) ?_⟩
      refine ⟨_, rfl, (by show 3 ≤ sizeLine; decide), fun t2 ht2 => ?_⟩
      have s2 := same_new (o := .lst [.str "risk", .str "raise", .str "undo"]) ht2
      have e2 : upd H1 t2 (.lst [.str "risk", .str "raise", .str "undo"]) t2 = some (.lst [.str "risk", .str "raise", .str "undo"]) := upd_same
      generalize upd H1 t2 (.lst [V.str "risk", V.str "raise", V.str "undo"]) = H2 at *
      have s02 := s1.trans s2
      have hc2 := SqT.same s02 hc
      refine ⟨t2, _, rfl, .inl (SqL.of e2), rfl, flat_strs ["risk", "raise", "undo"], _, rfl, iteE (by simp only [wordS]; decide +kernel) ?_⟩
      refine ⟨_, rfl, rfl, _, rfl, iteS (decide_eq_true rfl) ?_⟩
      refine ⟨_, rfl, c, _, _, _, rfl, rfl, hc2, atI_nat (j := 2) rfl, d1, _, _, _, rfl, rfl, SqT.same s02 hd1, atI_nat (j := 0) rfl, d2, _, _, _, rfl, rfl, SqT.same s02 hd2, atI_nat (j := 0) rfl, d, rfl, ⟨_, SqT.same s02 hd4⟩, fun D hD => ?_⟩
      refine lc_tup (K := K) (a := d) (xs := (ks).map V.str) (fun i H' => UnkInv K H2 D (ks) (t.kinds) i H') (.zero hD) (fun i H' _ h' => SqT.same (s02.trans h'.1) hd4) ?_ ?_
      · rintro i z H9 hz ⟨s9, us, eu, lu, pu⟩
        have hi : i < (ks).length := by
          have := (List.getElem?_eq_some_iff.mp hz).1
          rwa [List.length_map] at this
        obtain ⟨nm, hnm'⟩ : ∃ nm, (ks)[i]? = some nm := ⟨_, List.getElem?_eq_getElem hi⟩
        rw [List.getElem?_map, hnm'] at hz
        simp only [Option.map_some, Option.some.injEq] at hz
        subst hz
        have s09 := s02.trans s9
        refine ⟨wipe1 (by decide), V.str nm, by kernel_rfl, V.ref a, by kernel_rfl, a, _, _, _, rfl, rfl, SqT.same s09 hq, atI_nat (j := 1) rfl, g, _, rfl, .inr (SqT.same s09 hg), rfl, flat_strs _, _, rfl, ?_⟩
        rw [if_pos rfl, inV_mem]
        by_cases hm : nm ∈ t.kinds
        · refine iteE (by rw [decide_eq_true hm]; rfl) ?_
          exact UnkInv.no (x := nm) ⟨s9, us, eu, lu, pu⟩ hnm' hm
        · refine iteS (by rw [decide_eq_false hm]; rfl) ?_
          refine ⟨V.str nm, by kernel_rfl, (by show 2 ≤ sizeLine; decide), fun t4 ht4 => ⟨us, same_new ht4 _ _ eu, small1000 (by omega), ?_⟩⟩
          exact UnkInv.yes (x := nm) hD s9 eu lu pu hnm' hm ht4
      · rintro H9 ⟨s9, us, eu, lu, pu⟩
        rw [List.length_map, List.take_length] at pu
        have s09 := s02.trans s9
        have hc9 := SqT.same s09 hc
        have lW := unkL_len ks t.kinds
        have okW := unkL_ok (l := ks) (kn := t.kinds) fun x hx => ((show okH (.mk ks cc) from oks.2.1.2.1).1.2.2 x hx).1
        have eE : errL t vn pl (.try_ b [.mk ks cc] f) = if (!(unkL ks t.kinds).isEmpty || !(allB f 0).any (fun p => badF p.2)) = true then unkL ks t.kinds else [.fin pl] := rfl
        rw [eE] at k
        generalize unkL ks t.kinds = W at *
        have hdf : dpB f ≤ n := by simp only [dpS] at hdp; omega
        have hzf : szB f ≤ 900 := by simp only [szS] at hsz; omega
        refine ⟨_, rfl, c, _, _, _, rfl, rfl, hc9, atI_nat (j := 3) rfl, z3, f, 0, rfl, (show Dp K H z3 (blD f) from h3).same s09, hdf, oks.2.2, hzf, fun L ls HA sA nL eL pL => ⟨L, rfl, ⟨_, SqL.of eL⟩, fun D2 hD2 => ?_⟩⟩
        have s0A := s09.trans sA
        have lls : ls.length = (allB f 0).length := Paired.length pL
        have lall : (allB f 0).length ≤ 900 := by rw [allB_len]; exact hzf
        refine lc_list (K := K) (a := L) (xs := ls) (fun i H' => Same HA H' ∧ H' D2 = some (.lst ((((allB f 0).take i).map fun p => wordS p.2).map V.str))) ⟨same_new hD2, upd_same⟩ (fun i H' _ h' => SqL.of (h'.1 _ _ eL)) ?_ ?_
        · rintro i z HB hz ⟨sB, eD2⟩
          obtain ⟨⟨num, st⟩, hp, m, w1, rfl, hm, hw⟩ := Paired.at pL hz
          obtain ⟨c5, ys5, rfl, hc5, _⟩ := stInv hw
          have hi : i < ls.length := (List.getElem?_eq_some_iff.mp hz).1
          refine ⟨wipe1 (by decide), V.ref m, by kernel_rfl, m, _, _, _, rfl, rfl, SqT.same sB hm, atI_nat (j := 1) rfl, c5, _, _, _, rfl, rfl, SqT.same sB hc5, atI_nat (j := 0) rfl, _, eD2, small1000 (by rw [List.length_map, List.length_map, List.length_take]; omega), fun c o z => ?_, ?_⟩
          · rw [upd_ne (ne_of_none z hD2)]
            exact sB _ _ z
          · rw [upd_same, take_snoc hp, List.map_append, List.map_append]
            rfl
        · rintro HB ⟨sB, eD2⟩
          rw [lls, List.take_length] at eD2
          have s0B := s0A.trans sB
          refine ⟨_, rfl, D2, rfl, ⟨_, SqL.of eD2⟩, fun D3 hD3 => ?_⟩
          refine lc_list (K := K) (a := D2) (xs := ((allB f 0).map fun p => wordS p.2).map V.str) (fun i H' => Same HB H' ∧ H' D3 = some (.lst ((((((allB f 0).take i).filter fun p => badF p.2).map fun p => wordS p.2)).map V.str))) ⟨same_new hD3, upd_same⟩ (fun i H' _ h' => SqL.of (h'.1 _ _ eD2)) ?_ ?_
          · rintro i z HC hz ⟨sC, eD3⟩
            have hi : i < (allB f 0).length := by
              have := (List.getElem?_eq_some_iff.mp hz).1
              rwa [List.length_map, List.length_map] at this
            obtain ⟨p, hp⟩ : ∃ p, (allB f 0)[i]? = some p := ⟨_, List.getElem?_eq_getElem hi⟩
            rw [List.getElem?_map, List.getElem?_map, hp] at hz
            simp only [Option.map_some, Option.some.injEq] at hz
            subst hz
            refine ⟨wipe1 (by decide), V.str (wordS p.2), by kernel_rfl, (by show 5 ≤ sizeLine; decide), fun tb htb => ?_⟩
            have sD := same_new (o := .lst [.str "while", .str "try", .str "undo", .str "with", .str "return"]) htb
            have eb : upd HC tb (.lst [.str "while", .str "try", .str "undo", .str "with", .str "return"]) tb = some (.lst [.str "while", .str "try", .str "undo", .str "with", .str "return"]) := upd_same
            have eD4 := sD _ _ eD3
            generalize upd HC tb (.lst [V.str "while", V.str "try", V.str "undo", V.str "with", V.str "return"]) = HD at *
            have sC' := sC.trans sD
            refine ⟨tb, _, rfl, .inl (SqL.of eb), rfl, flat_strs ["while", "try", "undo", "with", "return"], _, rfl, ?_⟩
            rw [ban_in]
            cases hb : badF p.2 with
            | true =>
              refine iteS rfl ⟨V.str (wordS p.2), by kernel_rfl, _, eD4, small1000 ?_, fun c o z => ?_, ?_⟩
              · rw [List.length_map, List.length_map]
                have := List.length_filter_le (fun p : Nat × St => badF p.2) ((allB f 0).take i)
                rw [List.length_take] at this
                omega
              · rw [upd_ne (ne_of_none z hD3)]
                exact sC' _ _ z
              · rw [upd_same, take_snoc hp, List.filter_append, show [p].filter (fun p => badF p.2) = [p] from by rw [List.filter_cons, hb]; rfl, List.map_append, List.map_append]
                rfl
            | false =>
              refine iteE rfl ⟨sC', ?_⟩
              rw [take_snoc hp, List.filter_append, show [p].filter (fun p => badF p.2) = [] from by rw [List.filter_cons, hb]; rfl, List.append_nil]
              exact eD4
          · rintro HC ⟨sC, eD3⟩
            rw [List.length_map, List.length_map, List.take_length] at eD3
            have s0C := s0B.trans sC
            have sAC := (sA.trans sB).trans sC
            have eu2 := sAC _ _ eu
            have pu2 := Paired.mapP pu fun _ _ z => z.same sAC
            refine ⟨_, rfl, (by show 0 ≤ sizeLine; decide), fun c1 h1 => ?_⟩
            have s11 := same_new (o := .lst []) h1
            refine ⟨_, _, .lst (SqL.of (s11 _ _ eu2)) (dpAll_of (Paired.mapP pu2 fun _ _ z => z.same s11)), .lst (SqL.of upd_same) .nil, er_lay okW, sh_nil, ?_⟩
            rw [eqv_emp]
            have s0D := s0C.trans s11
            have eu3 := s11 _ _ eu2
            have eD5 := s11 _ _ eD3
            have pu3 := Paired.mapP pu2 fun _ _ z => z.same s11
            generalize upd HC c1 (.lst []) = HD at *
            cases W with
            | cons w0 wr =>
              refine ⟨_, rfl, iteS rfl (iteS rfl ⟨_, rfl, k D _ s0D (none_same s02 hD) ?_⟩)⟩
              rw [show (!(w0 :: wr).isEmpty || !(allB f 0).any (fun p => badF p.2)) = true from rfl, if_pos rfl]
              exact ⟨⟨us, eu3, pu3⟩, okW⟩
            | nil =>
              refine ⟨_, rfl, iteE rfl ⟨_, rfl, (by show 0 ≤ sizeLine; decide), fun c2 h2 => ?_⟩⟩
              have s12 := same_new (o := .lst []) h2
              have nmw : ∀ s : St, PyData.strOk (wordS s) = true := fun s => by cases s <;> (simp only [wordS]; decide +kernel)
              refine ⟨_, _, .lst (SqL.of (s12 _ _ eD5)) (dp_strL _), .lst (SqL.of upd_same) .nil, sh_strsK fun x hx => ?_, sh_nil, ?_⟩
              · obtain ⟨p, _, rfl⟩ := List.mem_map.mp hx
                exact nmw p.2
              · rw [eqv_emp]
                have s0E := s0D.trans s12
                cases hF : (allB f 0).filter fun p => badF p.2 with
                | nil =>
                  have hany : (allB f 0).any (fun p => badF p.2) = false := by
                    rw [List.any_eq_false]
                    intro p hp
                    exact List.filter_eq_nil_iff.mp hF p hp
                  refine ⟨_, rfl, iteS rfl ⟨_, rfl, k D _ s0E (none_same s02 hD) ?_⟩⟩
                  rw [hany, if_pos (by rfl)]
                  exact ⟨⟨us, s12 _ _ eu3, Paired.mapP pu3 fun _ _ z => z.same s12⟩, okW⟩
                | cons b0 br =>
                  have hany : (allB f 0).any (fun p => badF p.2) = true := by
                    rw [List.any_eq_true]
                    have : b0 ∈ (allB f 0).filter fun p => badF p.2 := by rw [hF]; exact List.mem_cons_self
                    exact ⟨b0, (List.mem_filter.mp this).1, (List.mem_filter.mp this).2⟩
                  refine ⟨_, rfl, iteE rfl ?_⟩
                  refine ⟨_, rfl, (by show 2 ≤ sizeLine; decide), fun t4 ht4 => ⟨(by show 1 ≤ sizeLine; decide), fun p hp => ?_⟩⟩
                  have s8 := same_new (o := .tup [V.str "finally", V.int (pl : Int)]) ht4
                  have s9 := same_new (o := .lst [.ref t4]) hp
                  refine k p _ ((s0E.trans s8).trans s9) (none_same (s0E.trans s8) hp) ?_
                  rw [hany, if_neg (by decide)]
                  exact ⟨⟨[.ref t4], upd_same, .cons (.tup (SqT.same s9 (SqT.of upd_same)) (.cons (.str _) (.cons (.int _) .nil))) .nil⟩, fun x hx => by rw [List.mem_singleton.mp hx]; trivial⟩
    case input x =>
      refine iteE (by simp only [wordS]; decide +kernel) ?_
      refine ⟨_, rfl, rfl, _, rfl, iteE (decide_eq_false (by simp only [wordS]; decide +kernel)) ?_⟩
      refine ⟨_, rfl, rfl, _, rfl, iteE (decide_eq_false (by simp only [wordS]; decide +kernel)) ?_⟩
      refine ⟨_, rfl, (by show 3 ≤ sizeLine; decide), fun t2 ht2 => ?_⟩
      have s2 := same_new (o := .lst [.str "risk", .str "raise", .str "undo"]) ht2
      have e2 : upd H1 t2 (.lst [.str "risk", .str "raise", .str "undo"]) t2 = some (.lst [.str "risk", .str "raise", .str "undo"]) := upd_same
      generalize upd H1 t2 (.lst [V.str "risk", V.str "raise", V.str "undo"]) = H2 at *
      have s02 := s1.trans s2
      have hc2 := SqT.same s02 hc
      refine ⟨t2, _, rfl, .inl (SqL.of e2), rfl, flat_strs ["risk", "raise", "undo"], _, rfl, iteE (by simp only [wordS]; decide +kernel) ?_⟩
      refine ⟨_, rfl, rfl, _, rfl, iteE (decide_eq_false (by simp only [wordS]; decide +kernel)) ⟨(by show 0 ≤ sizeLine; decide), fun p hp => ?_⟩⟩
      exact k p _ (s02.trans (same_new hp)) (none_same s02 hp) ⟨⟨[], upd_same, .nil⟩, fun _ z => (nomatch z)⟩
    case ite x y =>
      refine iteE (by simp only [wordS]; decide +kernel) ?_
      refine ⟨_, rfl, rfl, _, rfl, iteE (decide_eq_false (by simp only [wordS]; decide +kernel)) ?_⟩
      refine ⟨_, rfl, rfl, _, rfl, iteE (decide_eq_false (by simp only [wordS]; decide +kernel)) ?_⟩
      refine ⟨_, rfl, (by show 3 ≤ sizeLine; decide), fun t2 ht2 => ?_⟩
      have s2 := same_new (o := .lst [.str "risk", .str "raise", .str "undo"]) ht2
      have e2 : upd H1 t2 (.lst [.str "risk", .str "raise", .str "undo"]) t2 = some (.lst [.str "risk", .str "raise", .str "undo"]) := upd_same
      generalize upd H1 t2 (.lst [V.str "risk", V.str "raise", V.str "undo"]) = H2 at *
      have s02 := s1.trans s2
      have hc2 := SqT.same s02 hc
      refine ⟨t2, _, rfl, .inl (SqL.of e2), rfl, flat_strs ["risk", "raise", "undo"], _, rfl, iteE (by simp only [wordS]; decide +kernel) ?_⟩
      refine ⟨_, rfl, rfl, _, rfl, iteE (decide_eq_false (by simp only [wordS]; decide +kernel)) ⟨(by show 0 ≤ sizeLine; decide), fun p hp => ?_⟩⟩
      exact k p _ (s02.trans (same_new hp)) (none_same s02 hp) ⟨⟨[], upd_same, .nil⟩, fun _ z => (nomatch z)⟩
    case whl x =>
      refine iteE (by simp only [wordS]; decide +kernel) ?_
      refine ⟨_, rfl, rfl, _, rfl, iteE (decide_eq_false (by simp only [wordS]; decide +kernel)) ?_⟩
      refine ⟨_, rfl, rfl, _, rfl, iteE (decide_eq_false (by simp only [wordS]; decide +kernel)) ?_⟩
      refine ⟨_, rfl, (by show 3 ≤ sizeLine; decide), fun t2 ht2 => ?_⟩
      have s2 := same_new (o := .lst [.str "risk", .str "raise", .str "undo"]) ht2
      have e2 : upd H1 t2 (.lst [.str "risk", .str "raise", .str "undo"]) t2 = some (.lst [.str "risk", .str "raise", .str "undo"]) := upd_same
      generalize upd H1 t2 (.lst [V.str "risk", V.str "raise", V.str "undo"]) = H2 at *
      have s02 := s1.trans s2
      have hc2 := SqT.same s02 hc
      refine ⟨t2, _, rfl, .inl (SqL.of e2), rfl, flat_strs ["risk", "raise", "undo"], _, rfl, iteE (by simp only [wordS]; decide +kernel) ?_⟩
      refine ⟨_, rfl, rfl, _, rfl, iteE (decide_eq_false (by simp only [wordS]; decide +kernel)) ⟨(by show 0 ≤ sizeLine; decide), fun p hp => ?_⟩⟩
      exact k p _ (s02.trans (same_new hp)) (none_same s02 hp) ⟨⟨[], upd_same, .nil⟩, fun _ z => (nomatch z)⟩
end

/-! ### k10: _law_due -/
abbrev sLDu : Stmt := topS 83
abbrev NLDu : List Str := ["_law_tree", "_law_everywhere", "_law_function", "_law_found", "_law_own", "_law_term", "_law_place", "_law_statement"]
abbrev PLDu : List Str := ["_law_tree"]
theorem scLDu : FnScope NLDu PLDu (defScope sLDu) := ⟨rfl, rfl, rfl, by decide +kernel, rfl, by decide +kernel, by decide +kernel⟩
def twF (t : Tr) (f : Fn) : List Er := twL (evT t ++ (vnT t f).drop t.names.length)
def stF (t : Tr) (f : Fn) : List Er := (allB f.b 0).flatMap fun p => errL t (vnT t f) p.1 p.2
def dueA (t : Tr) : List Er := twL (evT t) ++ t.fns.flatMap (twF t)
def keepN (t : Tr) : List Str := match t.keeps with
  | e :: _ => e.ts.map Prod.fst
  | [] => []
def dueK (t : Tr) : List Er := dueA t ++ unkL (keepN t) t.names
def stepF (t : Tr) (acc : List Er) (f : Fn) : List Er := if acc.isEmpty = true then acc ++ stF t f else acc
def dueL (t : Tr) : List Er := t.fns.foldl (stepF t) (dueK t)
theorem twL_head (l : List Str) : (twL l).head? = (dupO l).map Er.dup := by
  unfold twL
  cases dupO l <;> rfl
theorem twL_len (l : List Str) : (twL l).length ≤ 1 := by
  unfold twL
  cases dupO l <;> simp
theorem or_orE (a b : Option Er) : a.or b = orE a b := by cases a <;> rfl
theorem stepF_head {t : Tr} {fs : List Fn} (h : ∀ f ∈ fs, ∀ p ∈ allB f.b 0, ∀ b hs g, p.2 = .try_ b hs g → ∃ ks c, hs = [.mk ks c]) : ∀ (acc : List Er), (fs.foldl (stepF t) acc).head? = orE acc.head? (fs.findSome? (fdO t)) := by
  induction fs with
  | nil => intro acc; cases acc <;> rfl
  | cons f r ih =>
    intro acc
    rw [List.foldl_cons, ih fun g hg => h g (List.mem_cons_of_mem _ hg)]
    unfold stepF
    cases acc with
    | cons a b => rfl
    | nil =>
      rw [show (if ([] : List Er).isEmpty = true then [] ++ stF t f else []) = stF t f from rfl, List.findSome?_cons]
      have e : (stF t f).head? = fdO t f := by
        unfold stF fdO
        rw [List.head?_flatMap]
        have : ∀ l : List (Nat × St), (∀ p ∈ l, ∀ b hs g, p.2 = .try_ b hs g → ∃ ks c, hs = [.mk ks c]) → (l.findSome? fun p => (errL t (vnT t f) p.1 p.2).head?) = l.findSome? fun p => stE t (vnT t f) t.kinds (t.fns.map Fn.name) p.1 p.2 := fun l => by
          induction l with
          | nil => exact fun _ => rfl
          | cons x r ih =>
            intro hl
            rw [List.findSome?_cons, List.findSome?_cons, ih fun y hy => hl y (List.mem_cons_of_mem _ hy), errL_head (hl x List.mem_cons_self)]
            rfl
        exact this _ (h f List.mem_cons_self)
      rw [e]
      cases fdO t f <;> rfl
theorem due_head {t : Tr} (hk : ∃ e, t.keeps = [e]) (h : ∀ f ∈ t.fns, ∀ p ∈ allB f.b 0, ∀ b hs g, p.2 = .try_ b hs g → ∃ ks c, hs = [.mk ks c]) : (dueL t).head? = errT t := by
  obtain ⟨e, he⟩ := hk
  unfold dueL errT
  rw [stepF_head h]
  have e1 : (t.fns.flatMap (twF t)).head? = t.fns.findSome? (fbO t) := by
    rw [List.head?_flatMap]
    congr 1
    funext f
    rw [show twF t f = twL (evT t ++ (vnT t f).drop t.names.length) from rfl, twL_head, show (vnT t f).drop t.names.length = prs f ++ innerF t.names (prs f) f.b from List.drop_left]
    rfl
  have e2 : (unkL (keepN t) t.names).head? = t.keeps.findSome? (fcO t) := by
    unfold keepN
    rw [he]
    show (unkL (e.ts.map Prod.fst) t.names).head? = [e].findSome? (fcO t)
    rw [List.findSome?_cons]
    have : ∀ l : List (Str × Int), (unkL (l.map Prod.fst) t.names).head? = l.findSome? (fpO t) := fun l => by
      induction l with
      | nil => rfl
      | cons x r ih =>
        rw [List.findSome?_cons, ← ih]
        unfold fpO unkL
        rw [List.map_cons, List.filter_cons]
        by_cases hx : x.1 ∈ t.names
        · simp only [hx, not_true, decide_false, Bool.false_eq_true, if_false, if_true]
        · simp only [hx, not_false_eq_true, decide_true, if_true, if_false]
          rfl
    rw [this]
    unfold fcO
    cases e.ts.findSome? (fpO t) <;> rfl
  have e3 : (dueK t).head? = orE ((dupO (evT t)).map Er.dup) (orE (t.fns.findSome? (fbO t)) (t.keeps.findSome? (fcO t))) := by
    unfold dueK dueA
    rw [List.head?_append, List.head?_append, twL_head, e1, e2, or_orE, or_orE]
    cases Option.map Er.dup (dupO (evT t)) <;> rfl
  rw [e3]
  cases Option.map Er.dup (dupO (evT t)) <;> cases t.fns.findSome? (fbO t) <;> rfl
theorem callU_len1 {t : Tr} {vn : List Str} (c : Cal) : (callU t vn c).length ≤ 1 + (argsN c.2).length := by
  unfold callU
  have l1 := unkL_len [c.1] (headsT t)
  have l2 := unkL_len (argsN c.2) vn
  have : [c.1].length = 1 := rfl
  rw [List.length_append]
  omega
theorem ofL_len2 {t : Tr} {vn : List Str} {pl : Nat} {cs : List Cal} : (ofL t vn pl cs).length ≤ 1 + (cs.flatMap (callU t vn)).length := by
  unfold ofL
  split
  · split
    · exact Nat.zero_le _
    · show 1 ≤ _
      omega
  · omega
theorem errL_len {t : Tr} {vn : List Str} {pl : Nat} {st : St} (ht : ∀ b hs f, st = .try_ b hs f → ∃ ks c, hs = [.mk ks c]) : (errL t vn pl st).length ≤ 1 + (namedS st).length := by
  cases st with
  | set x e =>
    have := unkL_len (e.ts.map Prod.fst) vn
    show (unkL (e.ts.map Prod.fst) vn).length ≤ 1 + (e.ts.map _).length
    rw [List.length_map] at this ⊢
    omega
  | ret e =>
    have := unkL_len (e.ts.map Prod.fst) vn
    show (unkL (e.ts.map Prod.fst) vn).length ≤ 1 + (e.ts.map _).length
    rw [List.length_map] at this ⊢
    omega
  | call x g as =>
    have h1 := ofL_len2 (t := t) (vn := vn) (pl := pl) (cs := [(g, as)])
    have h2 := callU_len1 (t := t) (vn := vn) (g, as)
    rw [show [(g, as)].flatMap (callU t vn) = callU t vn (g, as) from by simp] at h1
    show (ofL t vn pl [(g, as)]).length ≤ 1 + ((wf, g) :: (argsN as).map _).length
    rw [List.length_cons, List.length_map]
    have h3 : (argsN (g, as).2).length = (argsN as).length := rfl
    omega
  | with_ e l ks b =>
    have h1 := ofL_len2 (t := t) (vn := vn) (pl := pl) (cs := [e, l])
    have h2 := callU_len1 (t := t) (vn := vn) e
    have h3 := callU_len1 (t := t) (vn := vn) l
    have h4 := unkL_len ks t.kinds
    rw [show [e, l].flatMap (callU t vn) = callU t vn e ++ callU t vn l from by simp, List.length_append] at h1
    have h5 : (namedS (.with_ e l ks b)).length = ((argsN e.2).length + 1) + ((argsN l.2).length + 1) + ks.length := by simp only [namedS, List.length_append, List.length_cons, List.length_map]
    show (if (isArg (ofL t vn pl [e, l]) && !(unkL ks t.kinds).isEmpty) = true then unkL ks t.kinds else ofL t vn pl [e, l] ++ unkL ks t.kinds).length ≤ _
    split
    · omega
    · rw [List.length_append]
      omega
  | risk ks =>
    have := unkL_len ks t.kinds
    show (unkL ks t.kinds).length ≤ 1 + (ks.map _).length
    rw [List.length_map]
    omega
  | raise k =>
    have := unkL_len [k] t.kinds
    show (unkL [k] t.kinds).length ≤ 1 + 1
    have : [k].length = 1 := rfl
    omega
  | undo ns b =>
    have := unkL_len ns vn
    show (unkL ns vn).length ≤ 1 + (ns.map _).length
    rw [List.length_map]
    omega
  | try_ b hs f =>
    obtain ⟨ks, c, rfl⟩ := ht b hs f rfl
    have := unkL_len ks t.kinds
    have h5 : (namedS (.try_ b [.mk ks c] f)).length = ks.length := by simp [namedS, Hd.ks]
    show (if (!(unkL ks t.kinds).isEmpty || !(allB f 0).any (fun p => badF p.2)) = true then unkL ks t.kinds else [.fin pl]).length ≤ _
    split
    · omega
    · show 1 ≤ _
      omega
  | _ => exact Nat.zero_le _
/-- what the law needs of its tree -/
structure DueT (n : Nat) (t : Tr) : Prop where
  nm : t.names.length ≤ 100 ∧ ∀ x ∈ t.names, isName x = true
  kd : t.kinds.length ≤ 100 ∧ ∀ x ∈ t.kinds, isName x = true
  kp : ∃ e, t.keeps = [e] ∧ e.ts.length ≤ 100 ∧ ∀ p ∈ e.ts, isName p.1 = true
  lf : t.fns.length ≤ 2
  fn : ∀ f ∈ t.fns, isName f.name = true ∧ f.ps.length ≤ 100 ∧ (∀ p ∈ f.ps, isName p.1 = true) ∧ dpB f.b ≤ n ∧ okB f.b ∧ szB f.b ≤ 9
  st : ∀ f ∈ t.fns, ∀ p ∈ allB f.b 0, (namedS p.2).length ≤ 70 ∧ okS p.2 ∧ dpS p.2 ≤ n ∧ szS p.2 ≤ 900 ∧ ∀ b hs g, p.2 = .try_ b hs g → ∃ ks c, hs = [.mk ks c]
  own : ∀ f ∈ t.fns, (vnT t f).length ≤ 300 ∧ ∀ x ∈ vnT t f, isName x = true
def erOut (t : Tr) : PyData := match errT t with
  | some e => erD e
  | none => .tuple [.str "fine", .int 0]
def spLDu (K : PySem.W.Frag) (n : Nat) : Sp := fun vs H Q _ => ∃ (v : V) (t : Tr), vs = [v] ∧ Dp K H v (trD t) ∧ DueT n t ∧
  ∀ (u : V) (H' : Hp), (∀ e, errT t = some e → erOk e) → Same H H' → Dp K H' u (erOut t) → Q u H'
section
variable {P : Program} {w : World} {K : PySem.W.Frag} {mg : Str → Option Value} {base : Heap}
theorem ok_LDu {n : Nat} {f : Addr} {fd : FuncData} (F : Fun K "_law_due" "_law_due" sLDu f fd) (T : TxK10 mg) (GT : Has P w K mg base CX0 1 "_law_twice" PLTw (spLTw K)) (GW : Has P w K mg base CX0 (3 + n + 1) "_law_own_names" PLOn (spLOn K n)) (GN : ∀ n, Has P w K mg base CX0 (3 + n) "_law_numbered" PLNu (spLNu K n)) (GE : Has P w K mg base CX0 (3 + n + 1) "_law_errors" PLEr (spLEr K n)) : FnOk P w K mg base CX0 (3 + n + 1 + 1) f fd PLDu (spLDu K n) := by
  refine F.ok scLDu (fun vs H Q E h => ?_) (fun cdv A outer sh H vs Q E hr h => ?_)
  · obtain ⟨v, t, rfl, _⟩ := h
    rfl
  · obtain ⟨v, t, rfl, hv, D, k⟩ := h
    have GN := GN n
    have hr3 := hr.mono (j := 3 + n) (by omega)
    have hr1 := hr.mono (j := 1) (by omega)
    refine ⟨_, (pss_cons (ps_set (i := 1) scLDu.nd rfl (Or.inl rfl) (pe_op op_cat (pe_op op_cat (pe_callTy call_list_of (by rfl) T.n_list bb_list (pa_cons (pe_ix (r := rIxT K) ix_tup (pv 0) pe_int (fun _ _ => rfl)) pa_nil)) (pe_callTy call_list_of (by rfl) T.n_list bb_list (pa_cons (pe_ix (r := rIxT K) ix_tup (pv 0) pe_int (fun _ _ => rfl)) pa_nil))) (pe_lc (own := [("_law_function", 2)]) (g := gName 2) (tt := tYes) rfl scLDu.nd (pi_tup (pe_ix (r := rIxT K) ix_tup (pv 0) pe_int (fun _ _ => rfl))) (blkOk_by (own := [("_law_function", 2)]) (N := NLDu) (sc := (defScope sLDu)) (by decide +kernel)) (fun _ _ _ _ _ => (pg_name (i := 2) scLDu.nd rfl (Or.inl rfl))) (fun _ _ _ _ _ => pts_nil) (fun _ _ _ _ _ => (pe_ix (r := rIxT K) ix_tup (pv 2) pe_int (fun _ _ => rfl))))))
  (pss_cons (ps_set (i := 3) scLDu.nd rfl (Or.inl rfl) (pe_callH GT hr1 rfl pass0 (pa_cons (pv 1) pa_nil)))
  (pss_cons (ps_for PassesOwn.never rfl (pi_tup (pe_ix (r := rIxT K) ix_tup (pv 0) pe_int (fun _ _ => rfl))) (pg_name (i := 2) scLDu.nd rfl (Or.inl rfl))
  (pss_cons (ps_set (i := 4) scLDu.nd rfl (Or.inl rfl) (pe_callH GW hr rfl pass0 (pa_cons (pv 0) (pa_cons (pv 2) pa_nil))))
  (pss_one (ps_set (i := 3) scLDu.nd rfl (Or.inl rfl) (pe_op op_cat (pv 3) (pe_callH GT hr1 rfl pass0 (pa_cons (pe_op op_cat (pv 1) (pe_slice sl_list (pv 4) (po_some (pe_callB call_len_seq (by rfl) T.n_len bb_len (pa_cons (pe_ix (r := rIxT K) ix_tup (pv 0) pe_int (fun _ _ => rfl)) pa_nil))) po_none)) pa_nil)))))))
  (pss_cons (ps_for PassesOwn.never rfl (pi_tup (pe_ix (r := rIxT K) ix_tup (pe_ix (r := rIxT K) ix_tup (pe_ix (r := rIxT K) ix_tup (pv 0) pe_int (fun _ _ => rfl)) pe_int (fun _ _ => rfl)) pe_int (fun _ _ => rfl))) (pg_name (i := 5) scLDu.nd rfl (Or.inl rfl))
  (pss_one (ps_if (pt_cmpR op_notIn_seq (pe_ix (r := rIxT K) ix_tup (pv 5) pe_int (fun _ _ => rfl)) (pe_ix (r := rIxT K) ix_tup (pv 0) pe_int (fun _ _ => rfl)) (by rfl))
  (pss_one (ps_expr (pe_bm PySem.F.plainAttrs_list PySem.F.slot_list_append PySem.F.type_list_append mt_append (pv 3) (pa_cons (pe_tup (pa_cons pe_str (pa_cons (pe_ix (r := rIxT K) ix_tup (pv 5) pe_int (fun _ _ => rfl)) pa_nil))) pa_nil))))
  pss_nil)))
  (pss_cons (ps_for PassesOwn.never rfl (pi_tup (pe_ix (r := rIxT K) ix_tup (pv 0) pe_int (fun _ _ => rfl))) (pg_name (i := 2) scLDu.nd rfl (Or.inl rfl))
  (pss_one (ps_if (pt_cmpR (op_eqD hr.units) (pv 3) (pe_lst pa_nil) (nomark _))
  (pss_cons (ps_set (i := 4) scLDu.nd rfl (Or.inl rfl) (pe_callH GW hr rfl pass0 (pa_cons (pv 0) (pa_cons (pv 2) pa_nil))))
  (pss_one (ps_for PassesOwn.never rfl (pi_list (pe_callH GN hr3 rfl pass0 (pa_cons (pe_ix (r := rIxT K) ix_tup (pv 2) pe_int (fun _ _ => rfl)) (pa_cons pe_int pa_nil)))) (pg_tup (by rfl) (pgs_cons (pg_name (i := 6) scLDu.nd rfl (Or.inl rfl)) (pgs_cons (pg_name (i := 7) scLDu.nd rfl (Or.inl rfl)) pgs_nil)))
  (pss_one (ps_set (i := 3) scLDu.nd rfl (Or.inl rfl) (pe_op op_cat (pv 3) (pe_callH GE hr rfl pass0 (pa_cons (pv 0) (pa_cons (pv 4) (pa_cons (pv 6) (pa_cons (pv 7) pa_nil)))))))))))
  pss_nil)))
  (pss_one (ps_ret (pe_ifExp (pt_cmpR (op_neD hr.units) (pv 3) (pe_lst pa_nil) (nomark _)) (pe_ix (r := rIxL K) ix_list (pv 3) pe_int (fun _ _ => rfl)) (pe_tup (pa_cons pe_str (pa_cons pe_int pa_nil))))))))))), ?_⟩
    have hv : Dp K H v (.tuple [nmD t.names, nmD t.kinds, .tuple (t.keeps.map exD), .tuple (t.fns.map fnD)]) := hv
    obtain ⟨a, xs, rfl, hq, hd⟩ := hv.tupInv
    obtain ⟨x0, x1, x2, uu, rfl, hn, hk, hp, hx⟩ := hd.four
    obtain ⟨c, ys, rfl, hc, hcd⟩ := hn.tupInv
    obtain ⟨d, zs, rfl, hd4, hdd⟩ := hk.tupInv
    obtain ⟨g, gs, rfl, hg, hgd⟩ := hx.tupInv
    have eys : ys = t.names.map V.str := dp_strs hcd
    have ezs : zs = t.kinds.map V.str := dp_strs hdd
    subst eys
    subst ezs
    have pf := DpAll.map hgd
    have lgs : gs.length = t.fns.length := Paired.length pf
    have lf := D.lf
    have ln := D.nm.1
    have lk := D.kd.1
    refine ⟨_, rfl, a, _, _, _, rfl, rfl, hq, atI_nat (j := 0) rfl, c, _, rfl, .inr hc, fun L0 hL0 => ?_⟩
    have s1 := same_new (o := .lst (t.names.map V.str)) hL0
    have e1 : upd H L0 (.lst (t.names.map V.str)) L0 = some (.lst (t.names.map V.str)) := upd_same
    generalize upd H L0 (.lst (t.names.map V.str)) = H1 at *
    refine ⟨_, rfl, a, _, _, _, rfl, rfl, SqT.same s1 hq, atI_nat (j := 1) rfl, d, _, rfl, .inr (SqT.same s1 hd4), fun L1 hL1 => ?_⟩
    have s2 := same_new (o := .lst (t.kinds.map V.str)) hL1
    have e2 : upd H1 L1 (.lst (t.kinds.map V.str)) L1 = some (.lst (t.kinds.map V.str)) := upd_same
    generalize upd H1 L1 (.lst (t.kinds.map V.str)) = H2 at *
    refine ⟨L0, L1, _, _, rfl, rfl, s2 _ _ e1, e2, Nat.le_of_lt (small1000 (by rw [List.length_map, List.length_map]; omega)), fun L2 hL2 => ?_⟩
    have s3 := same_new (o := .lst (t.names.map V.str ++ t.kinds.map V.str)) hL2
    have e3 : upd H2 L2 (.lst (t.names.map V.str ++ t.kinds.map V.str)) L2 = some (.lst (t.names.map V.str ++ t.kinds.map V.str)) := upd_same
    generalize upd H2 L2 (.lst (t.names.map V.str ++ t.kinds.map V.str)) = H3 at *
    have s03 := (s1.trans s2).trans s3
    refine ⟨_, rfl, a, _, _, _, rfl, rfl, SqT.same s03 hq, atI_nat (j := 3) rfl, g, rfl, ⟨_, SqT.same s03 hg⟩, fun DD hD => ?_⟩
    refine lc_tup (K := K) (a := g) (xs := gs) (fun i H' => Same H3 H' ∧ H' DD = some (.lst ((t.fns.take i).map fun f => V.str f.name))) ⟨same_new hD, upd_same⟩ (fun i H' _ h' => SqT.same (s03.trans h'.1) hg) ?_ ?_
    · rintro i z H4 hz ⟨s4, eD⟩
      obtain ⟨fn, ht, htd⟩ := Paired.at pf hz
      have htd : Dp K H z (.tuple [.str fn.name, .tuple (fn.ps.map prD), blD fn.b]) := htd
      obtain ⟨b, zs, rfl, hb, hbd⟩ := htd.tupInv
      obtain ⟨u1, u2, u3, rfl, h1, _, _⟩ := hbd.three
      rw [h1.strInv] at hb
      have hi : i < gs.length := (List.getElem?_eq_some_iff.mp hz).1
      refine ⟨wipe1 (by decide), V.ref b, by kernel_rfl, b, _, _, _, rfl, rfl, SqT.same (s03.trans s4) hb, atI_nat (j := 0) rfl, _, eD, small1000 (by rw [List.length_map, List.length_take]; omega), fun c o z => ?_, ?_⟩
      · rw [upd_ne (ne_of_none z hD)]
        exact s4 _ _ z
      · rw [upd_same, take_snoc ht, List.map_append]
        rfl
    rintro H4 ⟨s4, eD⟩
    rw [lgs, List.take_length] at eD
    have eD : H4 DD = some (.lst ((t.fns.map Fn.name).map V.str)) := by rw [eD, List.map_map]; rfl
    refine ⟨L2, DD, _, _, rfl, rfl, s4 _ _ e3, eD, Nat.le_of_lt (small1000 (by rw [List.length_append, List.length_map, List.length_map, List.length_map, List.length_map]; omega)), fun ev hev => ?_⟩
    have s5 := same_new (o := .lst ((t.names.map V.str ++ t.kinds.map V.str) ++ (t.fns.map Fn.name).map V.str)) hev
    have e5 : upd H4 ev (.lst ((t.names.map V.str ++ t.kinds.map V.str) ++ (t.fns.map Fn.name).map V.str)) ev = some (.lst ((evT t).map V.str)) := by
      rw [upd_same]
      unfold evT
      rw [List.map_append, List.map_append, List.append_assoc]
    have s05 := (s03.trans s4).trans s5
    have nev := none_same (s03.trans s4) hev
    generalize upd H4 ev (.lst ((t.names.map V.str ++ t.kinds.map V.str) ++ (t.fns.map Fn.name).map V.str)) = H5 at *
    have lev : (evT t).length ≤ 202 := by
      unfold evT
      rw [List.length_append, List.length_append, List.length_map]
      omega
    have nev' : ∀ x ∈ evT t, isName x = true := fun x hx => by
      unfold evT at hx
      rcases List.mem_append.mp hx with z | z
      · exact D.nm.2 x z
      · rcases List.mem_append.mp z with z | z
        · exact D.kd.2 x z
        · obtain ⟨f, hf, rfl⟩ := List.mem_map.mp z
          exact (D.fn f hf).1
    refine ⟨_, rfl, ev, evT t, rfl, SqL.of e5, by omega, nev', fun q0 H6 s6 nq0 er0 => ?_⟩
    refine ⟨_, rfl, a, _, _, _, rfl, rfl, SqT.same (s05.trans s6) hq, atI_nat (j := 3) rfl, g, rfl, ⟨_, SqT.same (s05.trans s6) hg⟩, ?_⟩
    refine for_tup (K := K) (a := g) (xs := gs) (fun j σ H' => ∃ (q : Addr) (x2 x4 : Option V), σ = [some (.ref a), some (.ref ev), x2, some (.ref q), x4, none, none, none] ∧ Same H5 H' ∧ H5 q = none ∧ ErL K H' q (twL (evT t) ++ (t.fns.take j).flatMap (twF t))) ⟨q0, _, _, rfl, s6, nq0, by rw [List.take_zero]; show ErL K H6 q0 (twL (evT t) ++ []); rw [List.append_nil]; exact er0⟩ (fun j σ H' _ h' => by obtain ⟨_, _, _, _, s', _⟩ := h'; exact SqT.same (s05.trans s') hg) ?_ ?_
    · rintro j x σ H7 hx ⟨q, x2, x4, rfl, s7, nq, her⟩
      obtain ⟨fn, hfn, hfd⟩ := Paired.at pf hx
      have hfm := List.mem_of_getElem? hfn
      obtain ⟨fD1, fD2, fD3, fD4, fD5, fD6⟩ := D.fn fn hfm
      obtain ⟨oL, oN⟩ := D.own fn hfm
      have s07 := s05.trans s7
      refine ⟨_, rfl, _, rfl, .ref a, x, t, fn, rfl, hv.same s07, hfd.same s07, fD4, fD5, by omega, fun qo H8 s8 nqo eqo => ?_⟩
      have s08 := s07.trans s8
      refine ⟨_, rfl, _, rfl, _, rfl, _, rfl, a, _, _, _, rfl, rfl, SqT.same s08 hq, atI_nat (j := 0) rfl, c, _, rfl, .inr (SqT.same s08 hc), _, rfl, qo, _, rfl, SqL.of eqo, fun p hp => ?_⟩
      have e9' : cutV ((vnT t fn).map V.str) (some ((t.names.map V.str).length : Int)) none = ((vnT t fn).drop t.names.length).map V.str := by
        rw [cut_drop, List.length_map, ← List.map_drop]
      rw [e9']
      have s9 := same_new (o := .lst (((vnT t fn).drop t.names.length).map V.str)) hp
      have e9 : upd H8 p (.lst (((vnT t fn).drop t.names.length).map V.str)) p = some (.lst (((vnT t fn).drop t.names.length).map V.str)) := upd_same
      generalize upd H8 p (.lst (((vnT t fn).drop t.names.length).map V.str)) = H9 at *
      have s59 := (s7.trans s8).trans s9
      have ld : ((vnT t fn).drop t.names.length).length ≤ 300 := by rw [List.length_drop]; omega
      refine ⟨ev, p, _, _, rfl, rfl, s59 _ _ e5, e9, Nat.le_of_lt (small1000 (by rw [List.length_map, List.length_map]; omega)), fun p2 hp2 => ?_⟩
      have s10 := same_new (o := .lst ((evT t).map V.str ++ ((vnT t fn).drop t.names.length).map V.str)) hp2
      have e10 : upd H9 p2 (.lst ((evT t).map V.str ++ ((vnT t fn).drop t.names.length).map V.str)) p2 = some (.lst ((evT t ++ (vnT t fn).drop t.names.length).map V.str)) := by rw [upd_same, List.map_append]
      generalize upd H9 p2 (.lst ((evT t).map V.str ++ ((vnT t fn).drop t.names.length).map V.str)) = HA at *
      have s5A := s59.trans s10
      refine ⟨p2, _, rfl, SqL.of e10, by rw [List.length_append]; omega, fun x hx => (List.mem_append.mp hx).elim (nev' x) fun z => oN x (List.mem_of_mem_drop z), fun p3 HB s11 n3 er3 => ?_⟩
      obtain ⟨⟨us, eu, pu⟩, ou⟩ := her
      obtain ⟨⟨us3, eu3, pu3⟩, ou3⟩ := er3
      have sB := ((s8.trans s9).trans s10).trans s11
      have l1 := Paired.length pu
      have l3 := Paired.length pu3
      have t1 := twL_len (evT t)
      have t3 := twL_len (evT t ++ (vnT t fn).drop t.names.length)
      have t2 : ((t.fns.take j).flatMap (twF t)).length ≤ 2 := by
        have : ∀ l : List Fn, (l.flatMap (twF t)).length ≤ l.length := fun l => by
          induction l with
          | nil => exact Nat.le_refl _
          | cons x r ih =>
            rw [List.flatMap_cons, List.length_append, List.length_cons]
            have := twL_len (evT t ++ (vnT t x).drop t.names.length)
            unfold twF at ih ⊢
            omega
        have := this (t.fns.take j)
        rw [List.length_take] at this
        omega
      rw [List.length_append] at l1
      refine ⟨q, p3, _, _, rfl, rfl, sB _ _ eu, eu3, Nat.le_of_lt (small1000 (by omega)), fun r hr' => ?_⟩
      have s12 := same_new (o := .lst (us ++ us3)) hr'
      refine ⟨r, _, _, rfl, (s7.trans sB).trans s12, none_same (s7.trans sB) hr', ⟨_, upd_same, ?_⟩, fun e he => ?_⟩
      · rw [take_snoc hfn, List.flatMap_append, ← List.append_assoc]
        refine Paired.app (Paired.mapP pu fun _ _ z => z.same (sB.trans s12)) ?_
        rw [show [fn].flatMap (twF t) = twF t fn from by simp]
        exact Paired.mapP pu3 fun _ _ z => z.same s12
      · rw [take_snoc hfn, List.flatMap_append, ← List.append_assoc, show [fn].flatMap (twF t) = twF t fn from by simp] at he
        exact (List.mem_append.mp he).elim (ou e) (ou3 e)
    · rintro σ H7 ⟨q, o2, o4, rfl, s7, nq, her⟩
      rw [lgs, List.take_length] at her
      have her : ErL K H7 q (dueA t) := her
      have s07 := s05.trans s7
      obtain ⟨ke, hke, lke, nke⟩ := D.kp
      have lA : (dueA t).length ≤ 3 := by
        have : ∀ l : List Fn, (l.flatMap (twF t)).length ≤ l.length := fun l => by
          induction l with
          | nil => exact Nat.le_refl _
          | cons x r ih =>
            rw [List.flatMap_cons, List.length_append, List.length_cons]
            have := twL_len (evT t ++ (vnT t x).drop t.names.length)
            unfold twF at ih ⊢
            omega
        have := this t.fns
        have t1 := twL_len (evT t)
        unfold dueA
        rw [List.length_append]
        omega
      rw [hke] at hp
      obtain ⟨m, ms, rfl, hm, hmd⟩ := (show Dp K H x2 (.tuple [exD ke]) from hp).tupInv
      obtain ⟨y1, rfl, h1⟩ := hmd.one
      obtain ⟨m2, ms2, rfl, hm2, hmd2⟩ := (show Dp K H y1 (.tuple [.int ke.c, .tuple (ke.ts.map fun p => .tuple [.str p.1, .int p.2])]) from h1).tupInv
      obtain ⟨y2, y3, rfl, _, h3⟩ := hmd2.two
      obtain ⟨m3, ms3, rfl, hm3, hmd3⟩ := h3.tupInv
      have pt := DpAll.map hmd3
      have lt : ms3.length = ke.ts.length := Paired.length pt
      refine ⟨_, rfl, a, _, _, _, rfl, rfl, SqT.same s07 hq, atI_nat (j := 2) rfl, m, _, _, _, rfl, rfl, SqT.same s07 hm, atI_nat (j := 0) rfl, m2, _, _, _, rfl, rfl, SqT.same s07 hm2, atI_nat (j := 1) rfl, m3, rfl, ⟨_, SqT.same s07 hm3⟩, ?_⟩
      refine for_tup (K := K) (a := m3) (xs := ms3) (fun j σ H' => ∃ (x5 : Option V), σ = [some (.ref a), some (.ref ev), o2, some (.ref q), o4, x5, none, none] ∧ Same H5 H' ∧ ErL K H' q (dueA t ++ unkL ((ke.ts.map Prod.fst).take j) t.names)) ⟨_, rfl, s7, by rw [List.take_zero]; show ErL K H7 q (dueA t ++ []); rw [List.append_nil]; exact her⟩ (fun j σ H' _ h' => by obtain ⟨_, _, s', _⟩ := h'; exact SqT.same (s05.trans s') hm3) ?_ ?_
      · rintro j x σ H8 hx ⟨x5, rfl, s8, ⟨us, eu, pu⟩, ou⟩
        obtain ⟨pr, hpr, hprd⟩ := Paired.at pt hx
        obtain ⟨b, zs, rfl, hb, hbd⟩ := hprd.tupInv
        obtain ⟨w1, w2, rfl, h5, _⟩ := hbd.two
        rw [h5.strInv] at hb
        have s08 := s05.trans s8
        have hb8 := SqT.same s08 hb
        have hxk : (ke.ts.map Prod.fst)[j]? = some pr.1 := by rw [List.getElem?_map, hpr]; rfl
        have lus := Paired.length pu
        have l2 := unkL_len ((ke.ts.map Prod.fst).take j) t.names
        rw [List.length_take, List.length_map] at l2
        rw [List.length_append] at lus
        refine ⟨_, rfl, b, _, _, _, rfl, rfl, hb8, atI_nat (j := 0) rfl, _, rfl, a, _, _, _, rfl, rfl, SqT.same s08 hq, atI_nat (j := 0) rfl, c, _, rfl, .inr (SqT.same s08 hc), rfl, flat_strs _, _, rfl, ?_⟩
        rw [if_pos rfl, inV_mem]
        by_cases hm : pr.1 ∈ t.names
        · refine iteE (by rw [decide_eq_true hm]; rfl) ⟨_, rfl, s8, ?_⟩
          rw [unkL_snoc hxk, if_pos hm, List.append_nil]
          exact ⟨⟨us, eu, pu⟩, ou⟩
        · refine iteS (by rw [decide_eq_false hm]; rfl) ?_
          refine ⟨_, rfl, .inl ⟨rfl, _, SqL.of eu⟩, _, rfl, b, _, _, _, rfl, rfl, hb8, atI_nat (j := 0) rfl, (by show 2 ≤ sizeLine; decide), fun t4 ht4 => ?_⟩
          have s9 := same_new (o := .tup [V.str "unknown", V.str pr.1]) ht4
          have eu9 := s9 _ _ eu
          refine ⟨q, _, _, rfl, rfl, eu9, small1000 (by omega), ?_⟩
          have tp : Tps (upd H8 t4 (.tup [V.str "unknown", V.str pr.1])) (upd (upd H8 t4 (.tup [.str "unknown", .str pr.1])) q (.lst (us ++ [.ref t4]))) := Tps.lst eu9
          refine ⟨_, rfl, fun b o z => ?_, ⟨_, upd_same, ?_⟩, ?_⟩
          · rw [upd_ne (ne_of_none z nq)]
            exact s9 _ _ (s8 b o z)
          · rw [unkL_snoc hxk, if_neg hm, ← List.append_assoc]
            exact Paired.snoc (Paired.mapP pu fun _ e z => Dp.tps ((Tps.of s9).trans tp) z (noL_er e)) (.tup (tp.sqt (SqT.of upd_same)) (.cons (.str _) (.cons (.str _) .nil)))
          · rw [unkL_snoc hxk, if_neg hm, ← List.append_assoc]
            intro e he
            rcases List.mem_append.mp he with z | z
            · exact ou e z
            · rw [List.mem_singleton.mp z]
              exact nke pr (List.mem_of_getElem? hpr)
      · rintro σ H8 ⟨x5, rfl, s8, her⟩
        have lm : ms3.length = (ke.ts.map Prod.fst).length := by rw [lt, List.length_map]
        have eK : dueK t = dueA t ++ unkL (ke.ts.map Prod.fst) t.names := by unfold dueK keepN; rw [hke]
        rw [lm, List.take_length, ← eK] at her
        have lK : (dueK t).length ≤ 103 := by
          have := unkL_len (ke.ts.map Prod.fst) t.names
          rw [List.length_map] at this
          rw [eK, List.length_append]
          omega
        have s08 := s05.trans s8
        refine ⟨_, rfl, a, _, _, _, rfl, rfl, SqT.same s08 hq, atI_nat (j := 3) rfl, g, rfl, ⟨_, SqT.same s08 hg⟩, ?_⟩
        refine for_tup (K := K) (a := g) (xs := gs) (fun j σ H' => ∃ (r : Addr) (o2 o4 x5 x6 x7 : Option V), σ = [some (.ref a), some (.ref ev), o2, some (.ref r), o4, x5, x6, x7] ∧ Same H5 H' ∧ ErL K H' r ((t.fns.take j).foldl (stepF t) (dueK t))) ⟨q, _, _, _, _, _, rfl, s8, her⟩ (fun j σ H' _ h' => by obtain ⟨_, _, _, _, _, _, _, s', _⟩ := h'; exact SqT.same (s05.trans s') hg) ?_ ?_
        · rintro j x σ H9 hx ⟨r, y2, y4, y5, y6, y7, rfl, s9, her9⟩
          obtain ⟨fn, hfn, hfd⟩ := Paired.at pf hx
          have hfm := List.mem_of_getElem? hfn
          obtain ⟨fD1, fD2, fD3, fD4, fD5, fD6⟩ := D.fn fn hfm
          obtain ⟨oL, oN⟩ := D.own fn hfm
          have Dst := D.st fn hfm
          have hfd : Dp K H x (.tuple [.str fn.name, .tuple (fn.ps.map prD), blD fn.b]) := hfd
          have hfd0 := hfd
          obtain ⟨b, bs, rfl, hb, hbd⟩ := hfd.tupInv
          obtain ⟨w1, w2, w3, rfl, _, _, h3⟩ := hbd.three
          rw [take_snoc hfn, List.foldl_append, List.foldl_cons, List.foldl_nil]
          generalize (t.fns.take j).foldl (stepF t) (dueK t) = acc at *
          obtain ⟨⟨us, eu, pu⟩, ou⟩ := her9
          refine ⟨_, rfl, (by show 0 ≤ sizeLine; decide), fun c1 h1 => ?_⟩
          have s10 := same_new (o := .lst []) h1
          refine ⟨_, _, .lst (SqL.of (s10 _ _ eu)) (dpAll_of (Paired.mapP pu fun _ _ z => z.same s10)), .lst (SqL.of upd_same) .nil, er_lay ou, sh_nil, ?_⟩
          rw [eqv_emp]
          have s5A := s9.trans s10
          have s0A := s05.trans s5A
          have euA := s10 _ _ eu
          have puA := Paired.mapP pu fun _ _ z => z.same s10
          generalize upd H9 c1 (.lst []) = HA at *
          cases acc with
          | cons e0 er =>
            exact ⟨_, rfl, iteE rfl ⟨_, _, _, _, _, _, rfl, s5A, ⟨us, euA, puA⟩, ou⟩⟩
          | nil =>
            cases puA
            refine ⟨_, rfl, iteS rfl ?_⟩
            refine ⟨_, rfl, _, rfl, .ref a, .ref b, t, fn, rfl, hv.same s0A, hfd0.same s0A, fD4, fD5, by omega, fun qo HB sB nqo eqo => ?_⟩
            have s0B := s0A.trans sB
            refine ⟨_, rfl, b, _, _, _, rfl, rfl, SqT.same s0B hb, atI_nat (j := 2) rfl, w3, fn.b, 0, rfl, h3.same s0B, fD4, fD5, by omega, fun L ls HC sC nL eL pL => ⟨L, rfl, ⟨_, SqL.of eL⟩, ?_⟩⟩
            have s0C := s0B.trans sC
            have eqoC := sC _ _ eqo
            have s5C := (s5A.trans sB).trans sC
            have llb : (allB fn.b 0).length ≤ 9 := by rw [allB_len]; exact fD6
            rw [show stepF t [] fn = stF t fn from rfl]
            refine for_list (K := K) (a := L) (xs := ls) (fun i σ H' => ∃ (r : Addr) (y6 y7 : Option V), σ = [some (.ref a), some (.ref ev), some (.ref b), some (.ref r), some (.ref qo), y5, y6, y7] ∧ Same HC H' ∧ ErL K H' r (((allB fn.b 0).take i).flatMap fun p => errL t (vnT t fn) p.1 p.2)) ⟨r, _, _, rfl, Same.refl _, ⟨[], (sB.trans sC) _ _ euA, .nil⟩, fun _ z => (nomatch z)⟩ (fun j σ H' _ h' => by obtain ⟨_, _, _, _, s', _⟩ := h'; exact SqL.of (s' _ _ eL)) ?_ ?_
            · rintro i x σ HD hx ⟨r2, z6, z7, rfl, sD, ⟨us2, eu2, pu2⟩, ou2⟩
              obtain ⟨⟨num, st⟩, hp, m9, w9, rfl, hm9, hw9⟩ := Paired.at pL hx
              obtain ⟨q1, q2, q3, q4, q5⟩ := Dst _ (List.mem_of_getElem? hp)
              refine ⟨m9, _, rfl, SqT.same sD hm9, rfl, _, _, rfl, _, _, rfl, rfl, ?_⟩
              refine ⟨_, rfl, _, rfl, _, rfl, _, rfl, _, rfl, .ref a, w9, qo, num, t, vnT t fn, st, rfl, hv.same (s0C.trans sD), by omega, fun f hf => by have := (D.fn f hf).2.1; omega, sD _ _ eqoC, hw9.same sD, q2, q3, q4, q1, q5, fun p HE sE np erE => ?_⟩
              obtain ⟨⟨us3, eu3, pu3⟩, ou3⟩ := erE
              have l2 := Paired.length pu2
              have l3 := Paired.length pu3
              have e2 : (errL t (vnT t fn) num st).length ≤ 1 + (namedS st).length := errL_len (t := t) (vn := vnT t fn) (pl := num) q5
              have b2 : ∀ l : List (Nat × St), (∀ p ∈ l, p ∈ allB fn.b 0) → (l.flatMap fun p => errL t (vnT t fn) p.1 p.2).length ≤ 71 * l.length := fun l => by
                induction l with
                | nil => exact fun _ => Nat.zero_le _
                | cons x r ih =>
                  intro hl
                  have hx := Dst x (hl x List.mem_cons_self)
                  have := ih fun y hy => hl y (List.mem_cons_of_mem _ hy)
                  have := errL_len (t := t) (vn := vnT t fn) (pl := x.1) hx.2.2.2.2
                  rw [List.flatMap_cons, List.length_append, List.length_cons]
                  omega
              have b3 := b2 ((allB fn.b 0).take i) fun p hp => List.mem_of_mem_take hp
              rw [List.length_take] at b3
              have q1' : (namedS st).length ≤ 70 := q1
              refine ⟨r2, p, _, _, rfl, rfl, sE _ _ eu2, eu3, Nat.le_of_lt (small1000 (by omega)), fun r3 hr3 => ?_⟩
              have sF := same_new (o := .lst (us2 ++ us3)) hr3
              refine ⟨r3, _, _, rfl, (sD.trans sE).trans sF, ⟨_, upd_same, ?_⟩, fun e he => ?_⟩
              · rw [take_snoc hp, List.flatMap_append]
                refine Paired.app (Paired.mapP pu2 fun _ _ z => z.same (sE.trans sF)) ?_
                rw [show [(num, st)].flatMap (fun p => errL t (vnT t fn) p.1 p.2) = errL t (vnT t fn) num st from by simp]
                exact Paired.mapP pu3 fun _ _ z => z.same sF
              · rw [take_snoc hp, List.flatMap_append, show [(num, st)].flatMap (fun p => errL t (vnT t fn) p.1 p.2) = errL t (vnT t fn) num st from by simp] at he
                exact (List.mem_append.mp he).elim (ou2 e) (ou3 e)
            · rintro σ HD ⟨r2, z6, z7, rfl, sD, her2⟩
              rw [Paired.length pL, List.take_length] at her2
              exact ⟨_, _, _, _, _, _, rfl, s5C.trans sD, her2⟩
        · rintro σ H9 ⟨r, y2, y4, y5, y6, y7, rfl, s9, her9⟩
          rw [lgs, List.take_length] at her9
          have her9 : ErL K H9 r (dueL t) := her9
          have eO : erOut t = match (dueL t).head? with
              | some e => erD e
              | none => .tuple [.str "fine", .int 0] := by
            rw [due_head ⟨ke, hke⟩ fun f hf p hp => (D.st f hf p hp).2.2.2.2]
            rfl
          rw [eO] at k
          have eh := due_head ⟨ke, hke⟩ fun f hf p hp => (D.st f hf p hp).2.2.2.2
          generalize dueL t = F at *
          obtain ⟨⟨us, eu, pu⟩, ou⟩ := her9
          refine ⟨_, rfl, (by show 0 ≤ sizeLine; decide), fun c1 h1 => ?_⟩
          have s10 := same_new (o := .lst []) h1
          refine ⟨_, _, .lst (SqL.of (s10 _ _ eu)) (dpAll_of (Paired.mapP pu fun _ _ z => z.same s10)), .lst (SqL.of upd_same) .nil, er_lay ou, sh_nil, ?_⟩
          rw [eqv_emp]
          have s0A := s05.trans (s9.trans s10)
          have euA := s10 _ _ eu
          have puA := Paired.mapP pu fun _ _ z => z.same s10
          generalize upd H9 c1 (.lst []) = HA at *
          cases F with
          | nil =>
            refine ⟨_, rfl, iteE rfl ⟨(by show 2 ≤ sizeLine; decide), fun p hp => k _ _ (fun e z => by rw [← eh] at z; cases z) (s0A.trans (same_new hp)) (.tup (SqT.of upd_same) (.cons (.str _) (.cons (.int _) .nil)))⟩⟩
          | cons e0 er =>
            cases puA with
            | cons h0 _ =>
              exact ⟨_, rfl, iteS rfl ⟨_, rfl, r, _, _, _, rfl, rfl, SqL.of euA, atI_nat (j := 0) rfl, k _ _ (fun e z => by rw [← eh] at z; cases z; exact ou _ List.mem_cons_self) s0A h0⟩⟩
end

/-! ### k10: _law_told -/
abbrev sLTd : Stmt := topS 84
abbrev NLTd : List Str := ["_law_tree", "e"]
abbrev PLTd : List Str := ["_law_tree"]
theorem scLTd : FnScope NLTd PLTd (defScope sLTd) := ⟨rfl, rfl, rfl, by decide +kernel, rfl, by decide +kernel, by decide +kernel⟩
theorem passAllN {X : Cx} {W : WX} {n : Nat} (hn : X.N.length = n) (tk : L2N.Takes X W) : Passes (L2N.CX X.prog X.w) X (fun cls d H => ∀ σ : L2.St, σ.length = n → W cls d σ H) := fun pins σ H s e s' I c => by
  obtain ⟨a, B, H', cls, d, h1, h2, h3, h4, h5, h6, h7, h8⟩ := c
  exact L2N.passAt tk σ pins H s e s' I ⟨a, B, H', cls, d, h1, h2, h3, h4, h5, h6, h7, h8 σ (I.len.trans hn)⟩
structure ErrN (K : PySem.W.Frag) (mg : Str → Option Value) (C' : Nat → Addr) (CE : Addr) : Prop where
  mE : mg "ProgramError" = some (.ref CE)
  dd : PySem.W.exmOne K (.ref (C' 3)) (.ref (C' 3)) = some true
  ud : PySem.W.exmOne K (.ref (C' 4)) (.ref (C' 3)) = some false
  wd : PySem.W.exmOne K (.ref (C' 5)) (.ref (C' 3)) = some false
  fd : PySem.W.exmOne K (.ref (C' 6)) (.ref (C' 3)) = some false
  uu : PySem.W.exmOne K (.ref (C' 4)) (.ref (C' 4)) = some true
  wu : PySem.W.exmOne K (.ref (C' 5)) (.ref (C' 4)) = some false
  fu : PySem.W.exmOne K (.ref (C' 6)) (.ref (C' 4)) = some false
  ww : PySem.W.exmOne K (.ref (C' 5)) (.ref (C' 5)) = some true
  fw : PySem.W.exmOne K (.ref (C' 6)) (.ref (C' 5)) = some false
  ff : PySem.W.exmOne K (.ref (C' 6)) (.ref (C' 6)) = some true
  xD : XfC K (C' 3)
  fD : PySem.W.findIn K (.ref (C' 3)) "name" = some none
  xU : XfC K (C' 4)
  fU : PySem.W.findIn K (.ref (C' 4)) "name" = some none
  xW : XfC K (C' 5)
  fW : PySem.W.findIn K (.ref (C' 5)) "place" = some none
  xF : XfC K (C' 6)
  fF : PySem.W.findIn K (.ref (C' 6)) "place" = some none
def spLTd (K : PySem.W.Frag) (n : Nat) : Sp := fun vs H Q _ => ∃ (v : V) (t : Tr), vs = [v] ∧ Dp K H v (trD t) ∧ okTr n t ∧ SmallT t ∧ (∀ f ∈ t.fns, ∀ p ∈ allB f.b 0, (namedS p.2).length ≤ 900) ∧
  ∀ (u : V) (H' : Hp), Same H H' → Dp K H' u (erOut t) → Q u H'
section
variable {P : Program} {w : World} {K : PySem.W.Frag} {mg : Str → Option Value} {base : Heap} {C CE : Addr} {C' : Nat → Addr}
theorem ok_LTd {n : Nat} {f : Addr} {fd : FuncData} (F : Fun K "_law_told" "_law_told" sLTd f fd) (X : ErrH P w K mg base C') (M : ErrN K mg C' CE) (GP : HasC P w K mg base (L2N.CX P w) (6 + 3 * n + 1 + 1) "Program" C PPIX (spPIX K C C' n)) : FnOk P w K mg base CX0 (6 + 3 * n + 1 + 1 + 1 + 1) f fd PLTd (spLTd K n) := by
  refine F.ok scLTd (fun vs H Q E h => ?_) (fun cdv A outer s H vs Q E hr h => ?_)
  · obtain ⟨v, t, rfl, _⟩ := h
    rfl
  · obtain ⟨v, t, rfl, hv, ok, sm, ln, k⟩ := h
    refine ⟨_, (pss_cons (ps_tryX (Wout := fun _ _ _ _ => False) rfl rfl scLTd.nd (fun _ _ x => by obtain ⟨_, _, _, _, _, _, _, _, _, _, _, _, _, _, _, _, z⟩ := x; exact z) (fun W pn xe tk _ => pss_one (ps_expr (pe_makeH GP hr rfl (passAllN (n := 2) rfl tk) (pa_cons (pv 0) pa_nil))))
 (.named (i := 1) (.one ⟨rfl, by decide, .inl X.h3.mg⟩) rfl rfl (fun a oe cls d pn hz hf => pss_one (ps_ret (pe_tup (pa_cons pe_str (pa_cons (pe_xfG hz hf (pv 1)) pa_nil)))))
 (.named (i := 1) (.one ⟨rfl, by decide, .inl X.h4.mg⟩) rfl rfl (fun a oe cls d pn hz hf => pss_one (ps_ret (pe_tup (pa_cons pe_str (pa_cons (pe_xfG hz hf (pv 1)) pa_nil)))))
 (.named (i := 1) (.one ⟨rfl, by decide, .inl X.h5.mg⟩) rfl rfl (fun a oe cls d pn hz hf => pss_one (ps_ret (pe_tup (pa_cons pe_str (pa_cons (pe_xfG hz hf (pv 1)) pa_nil)))))
 (.named (i := 1) (.one ⟨rfl, by decide, .inl X.h6.mg⟩) rfl rfl (fun a oe cls d pn hz hf => pss_one (ps_ret (pe_tup (pa_cons pe_str (pa_cons (pe_xfG hz hf (pv 1)) pa_nil)))))
 (.only (.one ⟨rfl, by decide, .inl M.mE⟩) (fun a oe cls d pn hz hf => pss_one (ps_ret (pe_tup (pa_cons pe_str (pa_cons pe_int pa_nil))))) .nil))))))
  (pss_one (ps_ret (pe_tup (pa_cons pe_str (pa_cons pe_int pa_nil)))))), ?_⟩
    have look : ∀ (n : Str) (v : V), ([(n, v)] : List (Str × V)).lookup n = some v := fun n v => by simp [List.lookup]
    refine ⟨_, rfl, fun S dx nS nd ne => ?_⟩
    have s1' := same_new (o := .own S) nd
    have nS' : upd H dx (.own S) S = none := by rw [upd_ne (fun z => ne z.symm)]; exact nS
    have s2 := s1'.trans (same_new (o := .ins C dx []) nS')
    refine ⟨S, dx, v, t, rfl, upd_same, hv.same s2, ok, sm, ln, ?_⟩
    unfold erOut at k
    cases he : errT t with
    | none =>
      rw [he] at k
      intro H1 pr hb
      have s3 : Same H H1 := fun b o e => hb b o (s2 b o e) (ne_of_none e nS)
      exact ⟨rfl, (by show 2 ≤ sizeLine; decide), fun p hp => k _ _ (s3.trans (same_new hp)) (.tup (SqT.of upd_same) (.cons (.str _) (.cons (.int _) .nil)))⟩
    | some e =>
    rw [he] at k
    cases e with
    | dup x =>
      intro d H1 s1 hd σ hl
      have s9 := (s2.trans s1).trans (same_new (o := .xd (erF (.dup x))) hd)
      have e9 : upd H1 d (.xd (erF (.dup x))) d = some (.xd (erF (.dup x))) := upd_same
      refine ⟨true, exm_one M.dd, fun _ a' na => ?_, fun z => nomatch z⟩
      exact ⟨_, List.getElem?_set_self (by omega), rfl, C' 3, d, _, _, rfl, M.xD, M.fD, rfl, e9, look _ _, (by show 2 ≤ sizeLine; decide), fun b hb => k _ _ (s9.trans (same_new hb)) (.tup (SqT.of upd_same) (.cons (.str _) (.cons (.str _) .nil)))⟩
    | unk x =>
      intro d H1 s1 hd σ hl
      have s9 := (s2.trans s1).trans (same_new (o := .xd (erF (.unk x))) hd)
      have e9 : upd H1 d (.xd (erF (.unk x))) d = some (.xd (erF (.unk x))) := upd_same
      refine ⟨false, exm_one M.ud, (fun z => nomatch z), fun _ => ⟨true, exm_one M.uu, fun _ a' na => ?_, fun z => nomatch z⟩⟩
      exact ⟨_, List.getElem?_set_self (by omega), rfl, C' 4, d, _, _, rfl, M.xU, M.fU, rfl, e9, look _ _, (by show 2 ≤ sizeLine; decide), fun b hb => k _ _ (s9.trans (same_new hb)) (.tup (SqT.of upd_same) (.cons (.str _) (.cons (.str _) .nil)))⟩
    | arg x =>
      intro d H1 s1 hd σ hl
      have s9 := (s2.trans s1).trans (same_new (o := .xd (erF (.arg x))) hd)
      have e9 : upd H1 d (.xd (erF (.arg x))) d = some (.xd (erF (.arg x))) := upd_same
      refine ⟨false, exm_one M.wd, (fun z => nomatch z), fun _ => ⟨false, exm_one M.wu, (fun z => nomatch z), fun _ => ⟨true, exm_one M.ww, fun _ a' na => ?_, fun z => nomatch z⟩⟩⟩
      exact ⟨_, List.getElem?_set_self (by omega), rfl, C' 5, d, _, _, rfl, M.xW, M.fW, rfl, e9, look _ _, (by show 2 ≤ sizeLine; decide), fun b hb => k _ _ (s9.trans (same_new hb)) (.tup (SqT.of upd_same) (.cons (.str _) (.cons (.int _) .nil)))⟩
    | fin x =>
      intro d H1 s1 hd σ hl
      have s9 := (s2.trans s1).trans (same_new (o := .xd (erF (.fin x))) hd)
      have e9 : upd H1 d (.xd (erF (.fin x))) d = some (.xd (erF (.fin x))) := upd_same
      refine ⟨false, exm_one M.fd, (fun z => nomatch z), fun _ => ⟨false, exm_one M.fu, (fun z => nomatch z), fun _ => ⟨false, exm_one M.fw, (fun z => nomatch z), fun _ => ⟨true, exm_one M.ff, fun _ a' na => ?_, fun z => nomatch z⟩⟩⟩⟩
      exact ⟨_, List.getElem?_set_self (by omega), rfl, C' 6, d, _, _, rfl, M.xF, M.fF, rfl, e9, look _ _, (by show 2 ≤ sizeLine; decide), fun b hb => k _ _ (s9.trans (same_new hb)) (.tup (SqT.of upd_same) (.cons (.str _) (.cons (.int _) .nil)))⟩
end

/-! ### k10: the drawn tree is due -/
theorem stepL_mem : ∀ {l acc : List Str} {x : Str}, x ∈ l.foldl stepL acc → x ∈ acc ∨ x ∈ l
  | [], acc, x, h => .inl h
  | y :: r, acc, x, h => by
    rcases stepL_mem (l := r) (acc := stepL acc y) h with z | z
    · unfold stepL at z
      split at z
      · exact .inl z
      · rcases List.mem_append.mp z with z | z
        · exact .inl z
        · exact .inr (by rw [List.mem_singleton.mp z]; exact List.mem_cons_self)
    · exact .inr (List.mem_cons_of_mem _ z)
theorem PcK.asgN {ws : List Str} {d : Nat} {s : St} (h : PcK ws d s) {x : Str} (e : asgS s = some x) : x ∈ ws := by
  cases h with
  | set hx _ => cases e; exact hx
  | input hx => cases e; exact hx
  | call ho _ => exact ho _ e
  | _ => cases e
theorem Tr10.due {t : Tr} (h : Tr10 t) : DueT 6 t := by
  obtain ⟨e, ek, ec, el, et, ep⟩ := h.kp
  refine ⟨⟨by have := h.nm.1; omega, fun x hx => (h.nm.2 x hx).1⟩, ⟨by have := h.kd.1; omega, fun x hx => (h.kd.2 x hx).1⟩, ⟨e, ek, by omega, fun p hp => (et p hp).1.1⟩, h.lf, fun f hf => ?_, fun f hf p hp => ?_, fun f hf => ?_⟩
  · have s := h.sz hf
    obtain ⟨o1, o2, lb, _⟩ := h.fn f hf
    exact ⟨o1.1, by omega, fun p hp => (o2.2 p hp).1, by omega, h.okB hf, s.1⟩
  · have s := h.sz hf
    obtain ⟨_, _, lb, ws, nw, lw, hpp⟩ := h.fn f hf
    obtain ⟨d, hd⟩ := all_pck (fun s hs => ⟨2, hpp s hs⟩) p hp
    have le := le_allB f.b 0 p hp
    have := pck_szB hpp
    refine ⟨hd.named lw, hd.ok nw lw, by omega, by omega, fun b hs g e => ?_⟩
    rw [e] at hd
    cases hd with
    | try_ hx h => exact ⟨_, _, rfl⟩
  · obtain ⟨o1, o2, lb, ws, nw, lw, hpp⟩ := h.fn f hf
    have a := all_asg (b := f.b) (n := 0) fun s hs => ⟨2, hpp s hs⟩
    have lb' := lb
    have l := stepL_len (l := (allB f.b 0).filterMap fun p => asgS p.2) (acc := t.names ++ prs f)
    have l1 := h.nm.1
    have l2 : (prs f).length = f.ps.length := by unfold prs; rw [List.length_map]
    rw [show vnT t f = ((allB f.b 0).filterMap fun p => asgS p.2).foldl stepL (t.names ++ prs f) from own_vn.symm]
    rw [List.length_append] at l
    refine ⟨by have := o2.1; omega, fun x hx => ?_⟩
    rcases stepL_mem hx with z | z
    · rcases List.mem_append.mp z with z | z
      · exact (h.nm.2 x z).1
      · obtain ⟨q, hq, rfl⟩ := List.mem_map.mp z
        exact (o2.2 q hq).1
    · obtain ⟨p, hp, hx⟩ := List.mem_filterMap.mp z
      obtain ⟨d, hd⟩ := all_pck (fun s hs => ⟨2, hpp s hs⟩) p hp
      exact (nw x (hd.asgN hx)).1
theorem er_sh {e : Er} (h : erOk e) : SeqAt.shaped (erD e) = true := by
  have := er_lay (es := [e]) fun x hx => by rw [List.mem_singleton.mp hx]; exact h
  cases e with
  | dup n => simp only [SeqAt.shaped, erD, PyData.canLay0, PyData.canLayAll0, PyData.depth, PyData.depthAll, strOk_name (show isName n = true from h), Bool.and_true]; decide +kernel
  | unk n => simp only [SeqAt.shaped, erD, PyData.canLay0, PyData.canLayAll0, PyData.depth, PyData.depthAll, strOk_name (show isName n = true from h), Bool.and_true]; decide +kernel
  | arg n => simp only [SeqAt.shaped, erD, PyData.canLay0, PyData.canLayAll0, PyData.depth, PyData.depthAll, Bool.and_true]; decide +kernel
  | fin n => simp only [SeqAt.shaped, erD, PyData.canLay0, PyData.canLayAll0, PyData.depth, PyData.depthAll, Bool.and_true]; decide +kernel
theorem out_sh {t : Tr} (h : ∀ e, errT t = some e → erOk e) : SeqAt.shaped (erOut t) = true := by
  unfold erOut
  cases e : errT t with
  | none => decide +kernel
  | some x => exact er_sh (h x e)

/-! ### k10: the law -/
abbrev sLaw : Stmt := topS 85
abbrev NLaw : List Str := ["_law_script", "_law_pool_here", "_law_words", "_law_far", "_law_names_here", "_law_kinds", "_law_heads", "_law_keep", "_law_word", "_law_functions", "_law_head", "_law_own", "_law_params", "_law_k", "_law_used", "_law_body", "_law_tree"]
abbrev PLaw : List Str := ["_law_script"]
theorem scLaw : FnScope NLaw PLaw (defScope sLaw) := ⟨rfl, rfl, rfl, by decide +kernel, rfl, by decide +kernel, by decide +kernel⟩
structure TxL10 (mg : Str → Option Value) : Prop extends TxK10 mg where
  n_sorted : mg "sorted" = none
theorem list16 {α : Type} {l : List α} (h : l.length = 16) : ∃ a0 a1 a2 a3 a4 a5 a6 a7 a8 a9 a10 a11 a12 a13 a14 a15, l = [a0, a1, a2, a3, a4, a5, a6, a7, a8, a9, a10, a11, a12, a13, a14, a15] := by
  match l, h with
  | [a0, a1, a2, a3, a4, a5, a6, a7, a8, a9, a10, a11, a12, a13, a14, a15], _ => exact ⟨_, _, _, _, _, _, _, _, _, _, _, _, _, _, _, _, rfl⟩
def RwAt (H : Hp) (p c q : Addr) (l : List Str) : Prop := LsAt H p c q (l.map V.str) ∧ l.length = 2 ∧ ∀ x ∈ l, okN1 x
theorem RwAt.but {H H' : Hp} {p c q : Addr} {l : List Str} (h : RwAt H p c q l) (b : But p c H H') : RwAt H' p c q l := ⟨h.1.but b, h.2⟩
theorem RwAt.same {H H' : Hp} {p c q : Addr} {l : List Str} (h : RwAt H p c q l) (b : Same H H') : RwAt H' p c q l := ⟨h.1.same b, h.2⟩
theorem RwAt.upd {H : Hp} {p c q r : Addr} {l : List Str} {o : HO} (h : RwAt H p c q l) (n : q ≠ r) : RwAt (upd H r o) p c q l := ⟨h.1.upd n, h.2⟩
/-- a drawn function -/
def FnK (f : Fn) : Prop := okN1 f.name ∧ (f.ps.length ≤ 2 ∧ ∀ p ∈ f.ps, okN1 p.1) ∧ f.b.length ≤ 3 ∧ ∃ ws, (∀ x ∈ ws, okN1 x) ∧ ws.length ≤ 16 ∧ ∀ s ∈ f.b, PcK ws 2 s
def spLaw (K : PySem.W.Frag) : Sp := fun vs H Q _ => ∃ (sc : Addr) (ns : List Int), vs = [.ref sc] ∧ SqL K H sc (ns.map V.int) ∧ ns.length ≤ 63 ∧ ∀ H', Q (.bl true) H'
section
variable {P : Program} {w : World} {K : PySem.W.Frag} {mg : Str → Option Value} {base : Heap} {C : Addr}
theorem ok_Law {f : Addr} {fd : FuncData} (F : Fun K "law" "law" sLaw f fd) (T : TxL10 mg) (GP : Has P w K mg base CX0 1 "_law_pool" PPool (spPool K)) (GN : Has P w K mg base CX0 3 "_law_names" PNames spNames) (GD : Has P w K mg base CX0 2 "_law_draw" PDraw spDraw)
    (GPk : Has P w K mg base CX0 3 "_law_pick" PLPk spLPk) (GPi : Has P w K mg base CX0 8 "_law_piece" PLPi (spLPi K 3)) (GT : Has P w K mg base CX0 (6 + 3 * 6 + 1 + 1 + 1 + 1) "_law_told" PLTd (spLTd K 6)) (GDu : Has P w K mg base CX0 (3 + 6 + 1 + 1) "_law_due" PLDu (spLDu K 6)) : FnOk P w K mg base CX0 (6 + 3 * 6 + 1 + 1 + 1 + 1 + 1) f fd PLaw (spLaw K) := by
  refine F.ok scLaw (fun vs H Q E h => ?_) (fun cdv A outer s H vs Q E hr h => ?_)
  · obtain ⟨sc, ns, rfl, _⟩ := h
    rfl
  · obtain ⟨sc, ns0, rfl, hS, hl, k⟩ := h
    have hr1 := hr.mono (j := 1) (by decide)
    have hr2 := hr.mono (j := 2) (by decide)
    have hr3 := hr.mono (j := 3) (by decide)
    have hr8 := hr.mono (j := 8) (by decide)
    have hr11 := hr.mono (j := 3 + 6 + 1 + 1) (by decide)
    refine ⟨_, (pss_cons (ps_set (i := 1) scLaw.nd rfl (Or.inr rfl) (pe_callH GP hr1 rfl pass0 (pa_cons (pv 0) pa_nil)))
  (pss_cons (ps_set (i := 2) scLaw.nd rfl (Or.inl rfl) (pe_slice sl_list (pe_callH GN hr3 rfl pass0 (pa_cons (pv 1) pa_nil)) po_none (po_some pe_int)))
  (pss_cons (ps_set (i := 3) scLaw.nd rfl (Or.inl rfl) (pe_cmpR op_eq (pe_callH GD hr2 rfl pass0 (pa_cons (pv 1) (pa_cons pe_int pa_nil))) pe_int (nomark _)))
  (pss_cons (ps_set (i := 4) scLaw.nd rfl (Or.inl rfl) (pe_slice sl_list (pv 2) po_none (po_some pe_int)))
  (pss_cons (ps_set (i := 5) scLaw.nd rfl (Or.inl rfl) (pe_slice sl_list (pv 2) (po_some pe_int) (po_some pe_int)))
  (pss_cons (ps_set (i := 6) scLaw.nd rfl (Or.inl rfl) (pe_slice sl_list (pv 2) (po_some pe_int) (po_some pe_int)))
  (C8.pss_cut (ps_if (pt_val (pv 3))
  (pss_cons (ps_set (i := 4) scLaw.nd rfl (Or.inl rfl) (pe_lst (pa_cons (pe_callH GPk hr3 rfl pass0 (pa_cons (pv 1) (pa_cons (pv 2) pa_nil))) (pa_cons (pe_ix (r := rIxL K) ix_list (pv 2) pe_int (fun _ _ => rfl)) pa_nil))))
  (pss_one (ps_set (i := 6) scLaw.nd rfl (Or.inl rfl) (pe_lst (pa_cons (pe_ix (r := rIxL K) ix_list (pv 2) pe_int (fun _ _ => rfl)) (pa_cons (pe_callH GPk hr3 rfl pass0 (pa_cons (pv 1) (pa_cons (pv 2) pa_nil))) pa_nil))))))
  pss_nil)
  (pss_cons (ps_set (i := 7) scLaw.nd rfl (Or.inl rfl) (pe_tup (pa_cons pe_int (pa_cons (pe_callTy call_tuple_of (by rfl) T.n_tuple bb_tuple (pa_cons (pe_lc (own := [("_law_word", 8)]) (g := gName 8) (tt := tYes) rfl scLaw.nd (pi_list (pe_callB cr_sortedS (by rfl) T.n_sorted bb_sorted (pa_cons (pe_slice sl_list (pv 2) po_none (po_some (pe_op op_add (pe_op op_add pe_int (pe_callH GD hr2 rfl pass0 (pa_cons (pv 1) (pa_cons pe_int pa_nil)))) (pe_callTy call_int1 (by rfl) T.n_int bb_int (pa_cons (pv 3) pa_nil))))) pa_nil))) (blkOk_by (own := [("_law_word", 8)]) (N := NLaw) (sc := (defScope sLaw)) (by decide +kernel)) (fun _ _ _ _ _ => (pg_name (i := 8) scLaw.nd rfl (Or.inl rfl))) (fun _ _ _ _ _ => pts_nil) (fun _ _ _ _ _ => (pe_tup (pa_cons (pv 8) (pa_cons pe_int pa_nil))))) pa_nil)) pa_nil))))
  (pss_cons (ps_set (i := 9) scLaw.nd rfl (Or.inl rfl) (pe_lst pa_nil))
  (pss_cons (ps_for PassesOwn.never rfl (pi_list (pv 6)) (pg_name (i := 10) scLaw.nd rfl (Or.inl rfl))
  (pss_cons (ps_set (i := 11) scLaw.nd rfl (Or.inr rfl) (pe_slice sl_list (pv 2) (po_some (pe_op op_sub pe_int (pe_op op_mul pe_int (pe_callTy call_int1 (by rfl) T.n_int bb_int (pa_cons (pv 3) pa_nil))))) po_none))
  (pss_cons (ps_setLc (i := 12) (own := [("_law_k", 13)]) (g := gName 13) (tt := tYes) rfl scLaw.nd rfl rfl (sw_true rfl rfl rfl (by decide +kernel)) (pi_range1 (by rfl) T.n_range (pa_cons (pe_callH GD hr2 rfl pass0 (pa_cons (pv 1) (pa_cons pe_int pa_nil))) pa_nil)) (blkOk_by (own := [("_law_k", 13)]) (N := NLaw) (sc := (defScope sLaw)) (by decide +kernel)) (fun _ _ _ _ _ => (pg_name (i := 13) scLaw.nd rfl (Or.inl rfl))) (fun _ _ _ _ _ => pts_nil) (fun _ _ _ _ _ => (pe_tup (pa_cons (pe_callH GPk hr3 rfl pass0 (pa_cons (pv 1) (pa_cons (pv 11) pa_nil))) (pa_cons (pe_cmpR op_eq (pe_callH GD hr2 rfl pass0 (pa_cons (pv 1) (pa_cons pe_int pa_nil))) pe_int (nomark _)) pa_nil)))))
  (C8.pss_cut (ps_set (i := 14) scLaw.nd rfl (Or.inr rfl) (pe_ifExp (pt_cmpR op_eq (pe_callH GD hr2 rfl pass0 (pa_cons (pv 1) (pa_cons pe_int pa_nil))) pe_int (nomark _)) (pv 2) (pe_op op_cat (pe_slice sl_list (pv 2) po_none (po_some pe_int)) (pe_slice sl_list (pv 2) (po_some pe_int) po_none))))
  (pss_cons (ps_setLc (i := 15) (own := [("_law_k", 13)]) (g := gName 13) (tt := tYes) rfl scLaw.nd rfl rfl (sw_true rfl rfl rfl (by decide +kernel)) (pi_range1 (by rfl) T.n_range (pa_cons (pe_op op_add pe_int (pe_callH GD hr2 rfl pass0 (pa_cons (pv 1) (pa_cons pe_int pa_nil)))) pa_nil)) (blkOk_by (own := [("_law_k", 13)]) (N := NLaw) (sc := (defScope sLaw)) (by decide +kernel)) (fun _ _ _ _ _ => (pg_name (i := 13) scLaw.nd rfl (Or.inl rfl))) (fun _ _ _ _ _ => pts_nil) (fun _ _ _ _ _ => (pe_callH GPi hr8 rfl pass0 (pa_cons (pv 1) (pa_cons (pv 14) (pa_cons pe_int pa_nil))))))
  (pss_one (ps_expr (pe_bm PySem.F.plainAttrs_list PySem.F.slot_list_append PySem.F.type_list_append mt_append (pv 9) (pa_cons (pe_tup (pa_cons (pv 10) (pa_cons (pe_callTy call_tuple_of (by rfl) T.n_tuple bb_tuple (pa_cons (pv 12) pa_nil)) (pa_cons (pe_callTy call_tuple_of (by rfl) T.n_tuple bb_tuple (pa_cons (pv 15) pa_nil)) pa_nil)))) pa_nil)))))))))
  (pss_cons (ps_set (i := 16) scLaw.nd rfl (Or.inl rfl) (pe_tup (pa_cons (pe_callTy call_tuple_of (by rfl) T.n_tuple bb_tuple (pa_cons (pv 4) pa_nil)) (pa_cons (pe_callTy call_tuple_of (by rfl) T.n_tuple bb_tuple (pa_cons (pv 5) pa_nil)) (pa_cons (pe_tup (pa_cons (pv 7) pa_nil)) (pa_cons (pe_callTy call_tuple_of (by rfl) T.n_tuple bb_tuple (pa_cons (pv 9) pa_nil)) pa_nil))))))
  (pss_one (ps_ret (pe_cmpR (op_eqD hr.units) (pe_callH GT hr rfl pass0 (pa_cons (pv 16) pa_nil)) (pe_callH GDu hr11 rfl pass0 (pa_cons (pv 16) pa_nil)) (nomark _))))))))))))))), ?_⟩
    refine ⟨_, rfl, sc, ns0, rfl, hS, hl, fun p c H1 s1 np nc P1 => ?_⟩
    refine ⟨_, rfl, p, c, _, 0, rfl, P1, by decide, fun q ws H2 nok l16 P2 b2 nq eq => ?_⟩
    obtain ⟨a0, a1, a2, a3, a4, a5, a6, a7, a8, a9, a10, a11, a12, a13, a14, a15, rfl⟩ := list16 l16
    refine ⟨_, rfl, q, _, rfl, SqL.of eq, fun wl hwl => ?_⟩
    have ew : cutV ([a0, a1, a2, a3, a4, a5, a6, a7, a8, a9, a10, a11, a12, a13, a14, a15].map V.str) none (some 9) = [a0, a1, a2, a3, a4, a5, a6, a7, a8].map V.str := rfl
    rw [ew]
    have lw : LsAt (upd H2 wl (.lst ([a0, a1, a2, a3, a4, a5, a6, a7, a8].map V.str))) p c wl _ := LsAt.new P2 hwl
    have P3 := P2.same (same_new (o := .lst ([a0, a1, a2, a3, a4, a5, a6, a7, a8].map V.str)) hwl)
    generalize upd H2 wl (.lst ([a0, a1, a2, a3, a4, a5, a6, a7, a8].map V.str)) = H3 at *
    have nd9 : [a0, a1, a2, a3, a4, a5, a6, a7, a8].Nodup := List.Nodup.sublist (show [a0, a1, a2, a3, a4, a5, a6, a7, a8].Sublist [a0, a1, a2, a3, a4, a5, a6, a7, a8, a9, a10, a11, a12, a13, a14, a15] from List.take_sublist 9 [a0, a1, a2, a3, a4, a5, a6, a7, a8, a9, a10, a11, a12, a13, a14, a15]) nok.nd
    have ok9 : ∀ x ∈ [a0, a1, a2, a3, a4, a5, a6, a7, a8], okN1 x := fun x hx => by
      have := (List.take_sublist 9 [a0, a1, a2, a3, a4, a5, a6, a7, a8, a9, a10, a11, a12, a13, a14, a15]).subset hx
      exact ⟨nok.name x this, by have := nok.len x this; omega⟩
    have W3 : WdAt H3 p c wl [a0, a1, a2, a3, a4, a5, a6, a7, a8] := ⟨lw, nd9, (by show 2 ≤ 9; decide), (by show 9 ≤ 16; decide)⟩
    refine ⟨_, rfl, p, c, _, _, 5, rfl, P3, by omega, by decide, by decide, fun rf H4 rf0 rf1 P4 b4 => ?_⟩
    have W4 := W3.but b4
    refine ⟨rfl, ?_⟩
    generalize (decide (V.int rf = V.int 0)) = far
    refine ⟨_, rfl, _, rfl, wl, _, rfl, SqL.of W4.1.e, fun nh hnh => ?_⟩
    rw [show cutV ([a0, a1, a2, a3, a4, a5, a6, a7, a8].map V.str) none (some 2) = [a0, a1].map V.str from rfl]
    have Rnh : RwAt (upd H4 nh (.lst ([a0, a1].map V.str))) p c nh [a0, a1] := ⟨LsAt.new P4 hnh, rfl, fun x hx => ok9 x (by simp only [List.mem_cons, List.not_mem_nil, or_false] at hx; rcases hx with rfl | rfl <;> simp)⟩
    have s5 := same_new (o := .lst ([a0, a1].map V.str)) hnh
    have P5 := P4.same s5
    have W5 := W4.same s5
    have nnhw : wl ≠ nh := ne_of_none W4.1.e hnh
    clear s5
    generalize upd H4 nh (.lst ([a0, a1].map V.str)) = H5 at *
    refine ⟨_, rfl, _, rfl, _, rfl, wl, _, rfl, SqL.of W5.1.e, fun kl hkl => ?_⟩
    rw [show cutV ([a0, a1, a2, a3, a4, a5, a6, a7, a8].map V.str) (some 2) (some 4) = [a2, a3].map V.str from rfl]
    have Rkl : RwAt (upd H5 kl (.lst ([a2, a3].map V.str))) p c kl [a2, a3] := ⟨LsAt.new P5 hkl, rfl, fun x hx => ok9 x (by simp only [List.mem_cons, List.not_mem_nil, or_false] at hx; rcases hx with rfl | rfl <;> simp)⟩
    have s6 := same_new (o := .lst ([a2, a3].map V.str)) hkl
    have P6 := P5.same s6
    have W6 := W5.same s6
    have nklnh : nh ≠ kl := ne_of_none Rnh.1.e hkl
    have Rnh := Rnh.same s6
    have nklw : wl ≠ kl := ne_of_none W5.1.e hkl
    clear s6
    generalize upd H5 kl (.lst ([a2, a3].map V.str)) = H6 at *
    refine ⟨_, rfl, _, rfl, _, rfl, wl, _, rfl, SqL.of W6.1.e, fun hl hhl => ?_⟩
    rw [show cutV ([a0, a1, a2, a3, a4, a5, a6, a7, a8].map V.str) (some 4) (some 6) = [a4, a5].map V.str from rfl]
    have Rhl : RwAt (upd H6 hl (.lst ([a4, a5].map V.str))) p c hl [a4, a5] := ⟨LsAt.new P6 hhl, rfl, fun x hx => ok9 x (by simp only [List.mem_cons, List.not_mem_nil, or_false] at hx; rcases hx with rfl | rfl <;> simp)⟩
    have s7 := same_new (o := .lst ([a4, a5].map V.str)) hhl
    have P7 := P6.same s7
    have W7 := W6.same s7
    have nhlnh : nh ≠ hl := ne_of_none Rnh.1.e hhl
    have Rnh := Rnh.same s7
    have nhlkl : kl ≠ hl := ne_of_none Rkl.1.e hhl
    have Rkl := Rkl.same s7
    have nhlw : wl ≠ hl := ne_of_none W6.1.e hhl
    clear s7
    generalize upd H6 hl (.lst ([a4, a5].map V.str)) = H7 at *
    refine ⟨fun σ H' => ∃ (nh hl : Addr) (l1 l2 : List Str), σ = [some (.ref sc), some (.ref p), some (.ref wl), some (.bl far), some (.ref nh), some (.ref kl), some (.ref hl), none, none, none, none, none, none, none, none, none, none] ∧ PoolAt H' p c (.int 30) 10 ∧ RwAt H' p c nh l1 ∧ RwAt H' p c kl [a2, a3] ∧ RwAt H' p c hl l2 ∧ WdAt H' p c wl [a0, a1, a2, a3, a4, a5, a6, a7, a8], ?_, ?_⟩
    · cases far with
      | false =>
        refine ⟨_, rfl, _, rfl, ?_⟩
        exact iteE rfl ⟨nh, hl, _, _, rfl, P7.mono (by omega), Rnh, Rkl, Rhl, W7⟩
      | true =>
        refine ⟨_, rfl, _, rfl, ?_⟩
        refine iteS rfl ?_
        refine ⟨_, rfl, _, rfl, p, c, wl, _, _, _, rfl, P7, by omega, W7.1, (by show 1 ≤ 9; decide), (by show 9 ≤ 16; decide), fun x H8 hx P8 b8 => ?_⟩
        refine ⟨_, rfl, wl, _, _, _, rfl, rfl, SqL.of (W7.but b8).1.e, atI_nat (j := 1) rfl, (by show 2 ≤ sizeLine; decide), fun nh2 hnh2 => ?_⟩
        have Rnh2 : RwAt (upd H8 nh2 (.lst ([x, a1].map V.str))) p c nh2 [x, a1] := ⟨LsAt.new P8 hnh2, rfl, fun y hy => by
          simp only [List.mem_cons, List.not_mem_nil, or_false] at hy
          rcases hy with rfl | rfl
          · exact ok9 _ hx
          · exact ok9 _ (by simp)⟩
        have s9 := same_new (o := .lst ([x, a1].map V.str)) hnh2
        have P9 := P8.same s9
        have W9 := (W7.but b8).same s9
        have Rkl9 := (Rkl.but b8).same s9
        rw [show [V.str x, V.str a1] = [x, a1].map V.str from rfl]
        clear s9 Rnh Rkl Rhl
        generalize upd H8 nh2 (.lst ([x, a1].map V.str)) = H9 at *
        refine ⟨_, rfl, wl, _, _, _, rfl, rfl, SqL.of W9.1.e, atI_nat (j := 4) rfl, _, rfl, _, rfl, p, c, wl, _, _, _, rfl, P9, by omega, W9.1, (by show 1 ≤ 9; decide), (by show 9 ≤ 16; decide), fun y HA hy PA bA => ?_⟩
        refine ⟨(by show 2 ≤ sizeLine; decide), fun hl2 hhl2 => ?_⟩
        have Rhl2 : RwAt (upd HA hl2 (.lst ([a4, y].map V.str))) p c hl2 [a4, y] := ⟨LsAt.new PA hhl2, rfl, fun z hz => by
          simp only [List.mem_cons, List.not_mem_nil, or_false] at hz
          rcases hz with rfl | rfl
          · exact ok9 _ (by simp)
          · exact ok9 _ hy⟩
        have sB := same_new (o := .lst ([a4, y].map V.str)) hhl2
        exact ⟨nh2, hl2, _, _, rfl, (PA.same sB).mono (by omega), (Rnh2.but bA).same sB, (Rkl9.but bA).same sB, Rhl2, (W9.but bA).same sB⟩
    rintro σ' H8 ⟨nh, hl, l1, l2, rfl, P8, Rnh, Rkl, Rhl, W8⟩
    refine ⟨_, rfl, _, rfl, p, c, _, _, 2, rfl, P8, by omega, by decide, by decide, fun rk H9 rk0 rk1 P9 b9 => ?_⟩
    have Rnh := Rnh.but b9
    have Rkl := Rkl.but b9
    have Rhl := Rhl.but b9
    have W9 := W8.but b9
    refine ⟨_, _, rfl, rfl, _, rfl, .inr ⟨_, rfl, _, _, rfl, rfl, ?_⟩⟩
    have k0 : (0 : Int) ≤ 1 + rk + (if far = true then 1 else 0) := by cases far <;> simp <;> omega
    refine ⟨_, rfl, wl, _, rfl, SqL.of W9.1.e, fun cl hcl => ?_⟩
    rw [cut_upto k0]
    have nd9' : ([a0, a1, a2, a3, a4, a5, a6, a7, a8].take (1 + rk + (if far = true then 1 else 0)).toNat).Nodup := nd9.sublist (List.take_sublist _ _)
    have ok9' : ∀ x ∈ [a0, a1, a2, a3, a4, a5, a6, a7, a8].take (1 + rk + (if far = true then 1 else 0)).toNat, okN1 x := fun x hx => ok9 x (List.mem_of_mem_take hx)
    have l9' : ([a0, a1, a2, a3, a4, a5, a6, a7, a8].take (1 + rk + (if far = true then 1 else 0)).toNat).length ≤ 9 := List.length_take_le' _ _
    clear k0
    generalize [a0, a1, a2, a3, a4, a5, a6, a7, a8].take (1 + rk + (if far = true then 1 else 0)).toNat = kw at *
    have sA := same_new (o := .lst (kw.map V.str)) hcl
    have eA : upd H9 cl (.lst (kw.map V.str)) cl = some (.lst (kw.map V.str)) := upd_same
    have PA := P9.same sA
    have RnhA := Rnh.same sA
    have RklA := Rkl.same sA
    have RhlA := Rhl.same sA
    have WA := W9.same sA
    clear Rnh Rkl Rhl sA
    generalize upd H9 cl (.lst (kw.map V.str)) = HA at *
    refine ⟨cl, kw, rfl, SqL.of eA, by omega, fun ys L perm srt hL => ?_⟩
    have sB := same_new (o := .lst (ys.map V.str)) hL
    have eB : upd HA L (.lst (ys.map V.str)) L = some (.lst (ys.map V.str)) := upd_same
    have ly : ys.length = kw.length := perm.length_eq
    have as := sort_asc srt (perm.nodup_iff.mpr nd9')
    generalize upd HA L (.lst (ys.map V.str)) = HB at *
    refine ⟨L, rfl, ⟨_, SqL.of eB⟩, fun D hD => ?_⟩
    have LD : L ≠ D := ne_of_none eB hD
    refine lc_list (K := K) (a := L) (xs := ys.map V.str) (fun j H' => Same HB H' ∧ ∃ us : List V, H' D = some (.lst us) ∧ us.length ≤ j ∧ Paired (fun x pr => Dp K H' x (.tuple [.str pr.1, .int pr.2])) us ((ys.take j).map fun x => (x, (3 : Int))))
      ⟨same_new hD, [], upd_same, Nat.le_refl _, .nil⟩ (fun j H' _ h' => SqL.of (h'.1 _ _ eB)) ?_ ?_
    · rintro j x HC hx ⟨sC, us, eD, lu, pu⟩
      have hj : j < ys.length := by
        have := (List.getElem?_eq_some_iff.mp hx).1
        rwa [List.length_map] at this
      obtain ⟨nm, hnm⟩ : ∃ nm, ys[j]? = some nm := ⟨_, List.getElem?_eq_getElem hj⟩
      rw [List.getElem?_map, hnm] at hx
      simp only [Option.map_some, Option.some.injEq] at hx
      subst hx
      refine ⟨wipe1 (by decide), V.str nm, by kernel_rfl, (by show 2 ≤ sizeLine; decide), fun t ht => ?_⟩
      have s5 := same_new (o := .tup [V.str nm, V.int 3]) ht
      have eq5 := s5 _ _ eD
      have t5 : Tps (upd HC t (.tup [V.str nm, V.int 3])) (upd (upd HC t (.tup [V.str nm, V.int 3])) D (.lst (us ++ [.ref t]))) := Tps.lst eq5
      refine ⟨_, eq5, small1000 (by omega), fun b o z => ?_, us ++ [.ref t], upd_same, by rw [List.length_append]; show us.length + 1 ≤ j + 1; omega, ?_⟩
      · rw [upd_ne (ne_of_none z hD)]
        exact s5 _ _ (sC _ _ z)
      · rw [take_snoc hnm, List.map_append]
        exact Paired.snoc (Paired.mapP pu fun _ pr z => Dp.tps ((Tps.of s5).trans t5) z rfl) (.tup (t5.sqt (SqT.of upd_same)) (.cons (.str _) (.cons (.int _) .nil)))
    rintro HC ⟨sC, us, eD, lu, pu⟩
    rw [List.length_map] at pu lu
    rw [List.take_length] at pu
    refine ⟨D, us, rfl, .inl ⟨SqL.of eD, fun kt hkt => ⟨(by show 2 ≤ sizeLine; decide), fun t ht => ?_⟩⟩⟩
    have s5 := same_new (o := .tup us) hkt
    have s6 := same_new (o := .tup [V.int 0, .ref kt]) ht
    have dK : Dp K (upd (upd HC kt (.tup us)) t (.tup [.int 0, .ref kt])) (.ref t) (exD ⟨0, ys.map fun x => (x, (3 : Int))⟩) := .tup (SqT.of upd_same) (.cons (.int _) (.cons (.tup (SqT.same s6 (SqT.of upd_same)) (DpAll.ofPaired (Paired.mapP pu fun _ _ z => z.same (s5.trans s6)))) .nil))
    have okK : (∀ q ∈ ys.map fun x => (x, (3 : Int)), okN1 q.1 ∧ q.2 = 3) ∧ ((ys.map fun x => (x, (3 : Int))).map Prod.fst).Pairwise asc ∧ (ys.map fun x => (x, (3 : Int))).length ≤ 16 := by
      refine ⟨fun q hq => ?_, ?_, by rw [List.length_map]; omega⟩
      · obtain ⟨y, hy, rfl⟩ := List.mem_map.mp hq
        exact ⟨ok9' y (perm.mem_iff.mp hy), rfl⟩
      · rw [List.map_map]
        exact (by rw [show (Prod.fst ∘ fun x : Str => (x, (3 : Int))) = id from rfl, List.map_id]; exact as)
    have sz := ((sB.trans sC).trans s5).trans s6
    have PD := PA.same sz
    have RnhD := RnhA.same sz
    have RklD := RklA.same sz
    have RhlD := RhlA.same sz
    have WD := WA.same sz
    clear pu
    generalize (ys.map fun x => (x, (3 : Int))) = ke at *
    clear sz s5 s6
    generalize upd (upd HC kt (.tup us)) t (.tup [V.int 0, .ref kt]) = HD at *
    refine ⟨(by show 0 ≤ sizeLine; decide), fun fl hfl => ?_⟩
    have sE := same_new (o := .lst []) hfl
    have lfl : LsAt (upd HD fl (.lst [])) p c fl [] := LsAt.new PD hfl
    have PE := PD.same sE
    have nfnh : nh ≠ fl := ne_of_none RnhD.1.e hfl
    have nfkl : kl ≠ fl := ne_of_none RklD.1.e hfl
    have nfhl : hl ≠ fl := ne_of_none RhlD.1.e hfl
    have nfwl : wl ≠ fl := ne_of_none WD.1.e hfl
    have Rnh := RnhD.same sE
    have Rkl := RklD.same sE
    have Rhl := RhlD.same sE
    have WE := WD.same sE
    have dK := dK.same sE
    clear RnhD RklD RhlD WD sE PD hfl
    generalize upd HD fl (.lst []) = HE at *
    refine ⟨_, rfl, hl, rfl, ⟨_, SqL.of Rhl.1.e⟩, ?_⟩
    refine for_list (K := K) (a := hl) (xs := l2.map V.str) (fun j σ H' => (∃ x8 x10 x11 x12 x13 x14 x15 : Option V, σ = [some (.ref sc), some (.ref p), some (.ref wl), some (.bl far), some (.ref nh), some (.ref kl), some (.ref hl), some (.ref t), x8, some (.ref fl), x10, x11, x12, x13, x14, x15, none]) ∧ PoolAt H' p c (.int 30) (11 + 100000 * j) ∧ RwAt H' p c nh l1 ∧ RwAt H' p c kl [a2, a3] ∧ RwAt H' p c hl l2 ∧ WdAt H' p c wl [a0, a1, a2, a3, a4, a5, a6, a7, a8] ∧ Dp K H' (.ref t) (exD ⟨0, ke⟩) ∧
      ∃ (us : List V) (fs : List Fn), LsAt H' p c fl us ∧ us.length = j ∧ Paired (fun x f => Dp K H' x (fnD f)) us fs ∧ ∀ f ∈ fs, FnK f) ⟨⟨_, _, _, _, _, _, _, rfl⟩, PE, Rnh, Rkl, Rhl, WE, dK, [], [], lfl, rfl, .nil, fun _ z => (nomatch z)⟩ (fun j σ H' _ h' => SqL.of h'.2.2.2.2.1.1.e) ?_ ?_
    · rintro j x σ H1 hx ⟨⟨x8, x10, x11, x12, x13, x14, x15, rfl⟩, P1, Rnh, Rkl, Rhl, W1, dK, us, fs, lfl, lus, pus, fks⟩
      have hj : j < l2.length := by
        have := (List.getElem?_eq_some_iff.mp hx).1
        rwa [List.length_map] at this
      have hj2 : j < 2 := by have := Rhl.2.1; omega
      obtain ⟨hd, hhd⟩ : ∃ hd, l2[j]? = some hd := ⟨_, List.getElem?_eq_getElem hj⟩
      rw [List.getElem?_map, hhd] at hx
      simp only [Option.map_some, Option.some.injEq] at hx
      subst hx
      have okhd := Rhl.2.2 hd (List.mem_of_getElem? hhd)
      obtain ⟨own, eown, lo1, lo2, okown⟩ : ∃ own : List Str, cutV ([a0, a1, a2, a3, a4, a5, a6, a7, a8].map V.str) (some (6 - 6 * (if far = true then 1 else 0))) none = own.map V.str ∧ 1 ≤ own.length ∧ own.length ≤ 16 ∧ ∀ x ∈ own, okN1 x := by
        cases far
        · exact ⟨[a6, a7, a8], rfl, (by show 1 ≤ 3; decide), (by show 3 ≤ 16; decide), fun x hx => ok9 x (by simp only [List.mem_cons, List.not_mem_nil, or_false] at hx; rcases hx with rfl | rfl | rfl <;> simp)⟩
        · exact ⟨[a0, a1, a2, a3, a4, a5, a6, a7, a8], rfl, (by show 1 ≤ 9; decide), (by show 9 ≤ 16; decide), ok9⟩
      refine ⟨_, rfl, _, rfl, .inr ⟨_, rfl, _, _, rfl, rfl, .inl ⟨by decide, by decide⟩, _, _, rfl, rfl, _, rfl, wl, _, rfl, SqL.of W1.1.e, fun ol hol => ?_⟩⟩
      rw [eown]
      have s2 := same_new (o := .lst (own.map V.str)) hol
      have Lo : LsAt (upd H1 ol (.lst (own.map V.str))) p c ol (own.map V.str) := LsAt.new P1 hol
      have P2 := P1.same s2
      have b12 := But.of (p := p) (c := c) s2
      generalize upd H1 ol (.lst (own.map V.str)) = H2 at *
      clear eown
      refine ⟨_, rfl, p, c, _, _, 3, rfl, P2, by omega, by decide, by decide, fun r1 H3 q0 q1 P3 b3 => ?_⟩
      have Lo := Lo.but b3
      have b13 := b12.trans b3
      refine ⟨r1, rfl, by omega, by omega, fun D hD => ?_⟩
      have Dp' := P3.ne1 hD
      have Dc' := P3.ne2 hD
      have oD : ol ≠ D := ne_of_none Lo.e hD
      refine lc_range (lo := 0) (n := r1.toNat) (fun i H' => PoolAt H' p c (.int 30) (11 + 100000 * j + 1 + 2 * i) ∧ But p c H3 H' ∧ LsAt H' p c ol (own.map V.str) ∧ ∃ (us : List V) (es : List (Str × Bool)), H' D = some (.lst us) ∧ us.length = i ∧ Paired (fun x pr => Dp K H' x (prD pr)) us es ∧ ∀ pr ∈ es, okN1 pr.1)
        ⟨P3.same (same_new hD), But.of (same_new hD), Lo.same (same_new hD), [], [], upd_same, rfl, .nil, fun _ z => (nomatch z)⟩ ?_ ?_
      · rintro i H4 hi ⟨P4, b4, Lo4, us4, es4, eD4, lu4, pu4, ok4⟩
        refine ⟨wipe1 (by decide), V.ref p, by kernel_rfl, V.ref ol, by kernel_rfl, p, c, ol, _, _, _, rfl, P4, by omega, Lo4, lo1, lo2, fun x H5 hx P5 b5 => ?_⟩
        refine ⟨V.ref p, by kernel_rfl, p, c, _, _, 2, rfl, P5, by omega, by decide, by decide, fun r2 H6 z0 z1 P6 b6 => ⟨rfl, ?_⟩⟩
        generalize (decide (V.int r2 = V.int 1)) = by2
        have b46 := b5.trans b6
        have eD6 := b46 _ _ eD4 Dp' Dc'
        refine ⟨(by show 2 ≤ sizeLine; decide), fun t9 ht9 => ?_⟩
        have s7 := same_new (o := .tup [V.str x, V.bl by2]) ht9
        have eD7 := s7 _ _ eD6
        have t7 : Tps (upd H6 t9 (.tup [V.str x, V.bl by2])) (upd (upd H6 t9 (.tup [V.str x, V.bl by2])) D (.lst (us4 ++ [.ref t9]))) := Tps.lst eD7
        have t47 := ((b46.tps P4).trans (Tps.of s7)).trans t7
        refine ⟨_, eD7, small1000 (by omega), ((P6.same s7).upd Dp' Dc').mono (by omega), fun b o z h1 h2 => ?_, ((Lo4.but b46).same s7).upd oD, us4 ++ [.ref t9], es4 ++ [(x, by2)], upd_same, by rw [List.length_append, lu4]; rfl, ?_, fun pr hpr => ?_⟩
        · rw [upd_ne (ne_of_none z hD)]
          exact s7 _ _ (b46 _ _ (b4 _ _ z h1 h2) h1 h2)
        · exact Paired.snoc (Paired.mapP pu4 fun _ pr z => Dp.tps t47 z rfl) (.tup (t7.sqt (SqT.of upd_same)) (.cons (.str _) (.cons (.bl _) .nil)))
        · rcases List.mem_append.mp hpr with z | z
          · exact ok4 pr z
          · rw [List.mem_singleton.mp z]; exact okown x hx
      rintro H4 ⟨P4, b4, Lo4, us4, ps4, eD4, lu4, pu4, ok4⟩
      have lps : ps4.length ≤ 2 := by have := Paired.length pu4; omega
      have LD4 : LsAt H4 p c D us4 := ⟨eD4, Dp', Dc'⟩
      have b14 := b13.trans b4
      have P4 : PoolAt H4 p c (.int 30) (11 + 100000 * j + 10) := P4.mono (by omega)
      have W4 := W1.but b14
      -- the words used
      refine ⟨fun σ H' => ∃ (uw : Addr) (ws : List Str) (y13 : Option V), σ = [some (.ref sc), some (.ref p), some (.ref wl), some (.bl far), some (.ref nh), some (.ref kl), some (.ref hl), some (.ref t), x8, some (.ref fl), some (.str hd), some (.ref ol), some (.ref D), y13, some (.ref uw), x15, none] ∧ PoolAt H' p c (.int 30) (11 + 100000 * j + 20) ∧ But p c H4 H' ∧ WdAt H' p c uw ws ∧ ∀ x ∈ ws, okN1 x, ?_, ?_⟩
      · refine ⟨_, rfl, p, c, _, _, 3, rfl, P4, by omega, by decide, by decide, fun r2 H5 z0 z1 P5 b5 => ?_⟩
        have W5 := W4.but b5
        refine ⟨rfl, _, rfl, ite2 (fun hc => ?_) (fun hc => ?_)⟩
        · exact ⟨_, rfl, wl, _, _, rfl, P5.mono (by omega), b5, W5, ok9⟩
        · refine ⟨_, rfl, _, rfl, wl, _, rfl, SqL.of W5.1.e, fun c1 h1 => ?_⟩
          rw [show cutV ([a0, a1, a2, a3, a4, a5, a6, a7, a8].map V.str) none (some 2) = [a0, a1].map V.str from rfl]
          have s6 := same_new (o := .lst ([a0, a1].map V.str)) h1
          have e6 : upd H5 c1 (.lst ([a0, a1].map V.str)) c1 = some (.lst ([a0, a1].map V.str)) := upd_same
          have W6 := W5.same s6
          have P6 := P5.same s6
          generalize upd H5 c1 (.lst ([a0, a1].map V.str)) = H6 at *
          refine ⟨_, rfl, _, rfl, wl, _, rfl, SqL.of W6.1.e, fun c2 h2 => ?_⟩
          rw [show cutV ([a0, a1, a2, a3, a4, a5, a6, a7, a8].map V.str) (some 6) none = [a6, a7, a8].map V.str from rfl]
          have s7 := same_new (o := .lst ([a6, a7, a8].map V.str)) h2
          refine ⟨c1, c2, _, _, rfl, rfl, s7 _ _ e6, upd_same, (by show 5 ≤ sizeLine; decide), fun q5 hq5 => ?_⟩
          have s8 := same_new (o := .lst ([a0, a1].map V.str ++ [a6, a7, a8].map V.str)) hq5
          have P7 := P6.same s7
          rw [show [a0, a1].map V.str ++ [a6, a7, a8].map V.str = [a0, a1, a6, a7, a8].map V.str from rfl] at s8 ⊢
          have sub5 : [a0, a1, a6, a7, a8].Sublist [a0, a1, a2, a3, a4, a5, a6, a7, a8] := .cons₂ _ (.cons₂ _ (.cons _ (.cons _ (.cons _ (.cons _ (List.Sublist.refl _))))))
          exact ⟨q5, [a0, a1, a6, a7, a8], _, rfl, (P7.same s8).mono (by omega), b5.trans (But.of ((s6.trans s7).trans s8)), ⟨LsAt.new P7 hq5, nd9.sublist sub5, (by show 2 ≤ 5; decide), (by show 5 ≤ 16; decide)⟩, fun x hx => ok9 x (sub5.subset hx)⟩
      rintro σ' H5 ⟨uw, ws, y13, rfl, P5, b5, W5, okws⟩
      have LD5 := LD4.but b5
      have pu5 : Paired (fun x pr => Dp K H5 x (prD pr)) us4 ps4 := Paired.mapP pu4 fun _ pr z => Dp.tps (b5.tps P4) z rfl
      refine ⟨_, rfl, p, c, _, _, 3, rfl, P5, by omega, by decide, by decide, fun r3 H6 z0 z1 P6 b6 => ?_⟩
      have b46 := b5.trans b6
      have W6 := W5.but b6
      refine ⟨_, _, rfl, rfl, _, rfl, by omega, by omega, fun E hE => ?_⟩
      have Ep' := P6.ne1 hE
      have Ec' := P6.ne2 hE
      have uE : uw ≠ E := ne_of_none W6.1.e hE
      refine lc_range (lo := 0) (n := (1 + r3).toNat) (fun i H' => PoolAt H' p c (.int 30) (11 + 100000 * j + 21 + 3000 * i) ∧ But p c H6 H' ∧ WdAt H' p c uw ws ∧ ∃ (us : List V) (es : List St), H' E = some (.lst us) ∧ us.length = i ∧ Paired (fun x s => Dp K H' x (stD s)) us es ∧ ∀ s ∈ es, PcK ws 2 s)
        ⟨P6.same (same_new hE), But.of (same_new hE), W6.same (same_new hE), [], [], upd_same, rfl, .nil, fun _ z => (nomatch z)⟩ ?_ ?_
      · rintro i H7 hi ⟨P7, b7, W7, us7, es7, eE7, lu7, pu7, ok7⟩
        refine ⟨wipe1 (by decide), V.ref p, by kernel_rfl, V.ref uw, by kernel_rfl, p, c, uw, _, _, ws, 2, rfl, by decide, P7, by omega, W7, fun v st H8 pk dv P8 b8 => ?_⟩
        have eE8 := b8 _ _ eE7 Ep' Ec'
        have t8 : Tps H8 (upd H8 E (.lst (us7 ++ [v]))) := Tps.lst eE8
        have t78 := (b8.tps P7).trans t8
        refine ⟨_, eE8, small1000 (by omega), (P8.upd Ep' Ec').mono (by omega), fun b o z h1 h2 => ?_, ⟨(W7.but b8).1.upd uE, W7.2⟩, us7 ++ [v], es7 ++ [st], upd_same, by rw [List.length_append, lu7]; rfl, ?_, fun s hs => ?_⟩
        · rw [upd_ne (ne_of_none z hE)]
          exact b8 _ _ (b7 _ _ z h1 h2) h1 h2
        · exact Paired.snoc (Paired.mapP pu7 fun _ s z => Dp.tps t78 z (noL_st s)) (Dp.tps t8 dv (noL_st st))
        · rcases List.mem_append.mp hs with z | z
          · exact ok7 s z
          · rw [List.mem_singleton.mp z]; exact pk
      rintro H7 ⟨P7, b7, W7, us7, es7, eE7, lu7, pu7, ok7⟩
      have les : es7.length ≤ 3 := by have := Paired.length pu7; omega
      have LE7 : LsAt H7 p c E us7 := ⟨eE7, Ep', Ec'⟩
      have b57 := b6.trans b7
      have b17 := b14.trans (b5.trans b57)
      have LD7 := LD5.but b57
      have pu7' : Paired (fun x pr => Dp K H7 x (prD pr)) us4 ps4 := Paired.mapP pu5 fun _ pr z => Dp.tps (b57.tps P5) z rfl
      have lfl7 := lfl.but b17
      refine ⟨_, rfl, .inl ⟨rfl, _, SqL.of lfl7.e⟩, _, rfl, _, rfl, D, us4, rfl, .inl ⟨SqL.of LD7.e, fun k1 hk1 => ?_⟩⟩
      have s8 := same_new (o := .tup us4) hk1
      have LE8 := LE7.same s8
      refine ⟨_, rfl, E, us7, rfl, .inl ⟨SqL.of LE8.e, fun k2 hk2 => ?_⟩⟩
      have s9 := same_new (o := .tup us7) hk2
      refine ⟨(by show 3 ≤ sizeLine; decide), fun k3 hk3 => ?_⟩
      have sA := same_new (o := .tup [.str hd, .ref k1, .ref k2]) hk3
      have s7A := (s8.trans s9).trans sA
      have dF : Dp K (upd (upd (upd H7 k1 (.tup us4)) k2 (.tup us7)) k3 (.tup [.str hd, .ref k1, .ref k2])) (.ref k3) (fnD ⟨hd, ps4, es7⟩) :=
        .tup (SqT.of upd_same) (.cons (.str _) (.cons (.tup (SqT.same (s9.trans sA) (SqT.of upd_same)) (DpAll.ofPaired (Paired.mapP pu7' fun _ _ z => z.same s7A))) (.cons (.tup (SqT.same sA (SqT.of upd_same)) (by rw [stsD_map]; exact DpAll.ofPaired (Paired.mapP pu7 fun _ _ z => z.same s7A))) .nil)))
      have P8 := P7.same s7A
      have b18 := b17.trans (But.of s7A)
      have lfl8 := lfl.but b18
      generalize upd (upd (upd H7 k1 (.tup us4)) k2 (.tup us7)) k3 (.tup [.str hd, .ref k1, .ref k2]) = H8 at *
      refine ⟨fl, _, _, rfl, rfl, lfl8.e, small1000 (by omega), ?_⟩
      have t8 : Tps H8 (upd H8 fl (.lst (us ++ [.ref k3]))) := Tps.lst lfl8.e
      have t18 := (b18.tps P1).trans t8
      have Rnh8 := Rnh.but b18
      have Rkl8 := Rkl.but b18
      have Rhl8 := Rhl.but b18
      have W8 := W1.but b18
      refine ⟨⟨_, _, _, _, _, _, _, rfl⟩, (P8.upd lfl.n1 lfl.n2).mono (by omega), Rnh8.upd nfnh, Rkl8.upd nfkl, Rhl8.upd nfhl, ⟨W8.1.upd nfwl, W8.2⟩, Dp.tps t18 dK (noL_ex _), us ++ [.ref k3], fs ++ [⟨hd, ps4, es7⟩], ⟨upd_same, lfl.n1, lfl.n2⟩, by rw [List.length_append, lus]; rfl, ?_, fun f hf => ?_⟩
      · exact Paired.snoc (Paired.mapP pus fun _ f z => Dp.tps t18 z (noL_fn f)) (Dp.tps t8 dF (noL_fn _))
      · rcases List.mem_append.mp hf with z | z
        · exact fks f z
        · rw [List.mem_singleton.mp z]
          exact ⟨okhd, ⟨lps, ok4⟩, les, ws, okws, W6.2.2.2, ok7⟩
    · rintro σ H1 ⟨⟨x8, x10, x11, x12, x13, x14, x15, rfl⟩, P1, Rnh, Rkl, Rhl, W1, dK, us, fs, lfl, lus, pus, fks⟩
      have tok : Tr10 ⟨l1, [a2, a3], [⟨0, ke⟩], fs⟩ := ⟨⟨by have := Rnh.2.1; show l1.length ≤ 2; omega, Rnh.2.2⟩, ⟨Nat.le_refl 2, Rkl.2.2⟩, ⟨_, rfl, rfl, okK.2.2, okK.1, okK.2.1⟩, by
        have := Paired.length pus
        have := Rhl.2.1
        rw [List.length_map] at lus
        show fs.length ≤ 2
        omega, fks⟩
      refine ⟨_, rfl, nh, _, rfl, .inl ⟨SqL.of Rnh.1.e, fun t1 h1 => ?_⟩⟩
      have s2 := same_new (o := .tup (l1.map V.str)) h1
      refine ⟨_, rfl, kl, _, rfl, .inl ⟨SqL.of (Rkl.1.same s2).e, fun t2 h2 => ?_⟩⟩
      have s3 := same_new (o := .tup ([a2, a3].map V.str)) h2
      refine ⟨_, rfl, (by show 1 ≤ sizeLine; decide), fun t3 h3 => ?_⟩
      have s4 := same_new (o := .tup [.ref t]) h3
      refine ⟨_, rfl, fl, _, rfl, .inl ⟨SqL.of (lfl.same ((s2.trans s3).trans s4)).e, fun t4 h4 => ?_⟩⟩
      have s5 := same_new (o := .tup us) h4
      refine ⟨(by show 4 ≤ sizeLine; decide), fun tr htr => ?_⟩
      have s6 := same_new (o := .tup [.ref t1, .ref t2, .ref t3, .ref t4]) htr
      have s36 := ((s3.trans s4).trans s5).trans s6
      have s16 := s2.trans s36
      have dT : Dp K (upd (upd (upd (upd (upd H1 t1 (.tup (l1.map V.str))) t2 (.tup ([a2, a3].map V.str))) t3 (.tup [.ref t])) t4 (.tup us)) tr (.tup [.ref t1, .ref t2, .ref t3, .ref t4])) (.ref tr) (trD ⟨l1, [a2, a3], [⟨0, ke⟩], fs⟩) :=
        .tup (SqT.of upd_same) (.cons (.tup (SqT.same s36 (SqT.of upd_same)) (dp_strL l1)) (.cons (.tup (SqT.same ((s4.trans s5).trans s6) (SqT.of upd_same)) (dp_strL [a2, a3])) (.cons (.tup (SqT.same (s5.trans s6) (SqT.of upd_same)) (.cons (dK.same s16) .nil)) (.cons (.tup (SqT.same s6 (SqT.of upd_same)) (DpAll.ofPaired (Paired.mapP pus fun _ _ z => z.same s16))) .nil))))
      generalize upd (upd (upd (upd (upd H1 t1 (.tup (l1.map V.str))) t2 (.tup ([a2, a3].map V.str))) t3 (.tup [.ref t])) t4 (.tup us)) tr (.tup [.ref t1, .ref t2, .ref t3, .ref t4]) = H2 at *
      generalize (⟨l1, [a2, a3], [⟨0, ke⟩], fs⟩ : Tr) = TR at *
      refine ⟨_, rfl, .ref tr, TR, rfl, dT, tok.ok, tok.small, tok.named, fun u H3 s7 d7 => ?_⟩
      refine ⟨_, rfl, .ref tr, TR, rfl, dT.same s7, tok.due, fun u2 H4 he s8 d8 => ?_⟩
      refine ⟨_, _, d7.same s8, d8, out_sh he, out_sh he, ?_⟩
      rw [SeqAt.eqv_refl _ (SeqAt.canLay_of_shaped (out_sh he))]
      exact k H4
end

/-! ### what the written part says of the classes -/
structure XcK (K : PySem.W.Frag) (C : Addr) (bm : List Value) (newId : String) (f : Str) : Prop where
  lk : ∃ nm q N bs sn sub ab col dd k0 k1 k2 k3 k5, K.lookup C = some (excClassObj nm q C N bs bm true sn sub ab col dd k0 k1 k2 k3 k5 newId)
  sa : PySem.W.findIn K (.ref C) "__setattr__" = some (some (.builtin "object.__setattr__"))
  kc : PySem.W.keepIn K (.ref C) = true
  no : PySem.W.findIn K (.ref C) f = some none
  ga : PySem.W.findIn K (.ref C) "__getattribute__" = some (some (.builtin "BaseException.__getattribute__"))
  gg : PySem.W.findIn K (.ref C) "__getattr__" = some none
  ca : PySem.W.findIn K (.ref C) "__class__" = some (some (.builtin "object.__class__"))
section
variable {K : PySem.W.Frag} {C : Addr} {bm bmB : List Value} {newId : String} {f : Str}
theorem lk_cls {nm q N bs sn sub ab col dd k0 k1 k2 k3 k5} (h : K.lookup C = some (excClassObj nm q C N bs bm true sn sub ab col dd k0 k1 k2 k3 k5 newId)) : ∃ cd, PySem.W.clsIn K C = some cd ∧ cd.mro = .ref C :: bm ∧ cd.hasDict = true :=
  ⟨_, by unfold PySem.W.clsIn; rw [h], rfl, rfl⟩
theorem XcK.cls (T : XcK K C bm newId f) : ∃ cd, PySem.W.clsIn K C = some cd ∧ cd.mro = .ref C :: bm ∧ cd.hasDict = true := by
  obtain ⟨_, _, _, _, _, _, _, _, _, _, _, _, _, _, h⟩ := T.lk
  exact lk_cls h
theorem sub_cls (h : ∃ cd, PySem.W.clsIn K C = some cd ∧ cd.mro = .ref C :: bm ∧ cd.hasDict = true) (x : Value) : PySem.W.subIn K (.ref C) x = some ((Value.ref C :: bm).contains x) := by
  obtain ⟨cd, e, m, _⟩ := h
  show PySem.W.mroIn K C x = _
  unfold PySem.W.mroIn
  rw [e, Option.bind_some, m]
  rfl
theorem XcK.ty (T : XcK K C bm newId f) : PySem.W.typeIn K (.ref C) = some (.type "type") := by
  obtain ⟨_, _, _, _, _, _, _, _, _, _, _, _, _, _, h⟩ := T.lk
  show (K.lookup C).map (·.cls) = _
  rw [h]; rfl
theorem XcK.hd (T : XcK K C bm newId f) : PySem.W.hasDictIn K C = true := by
  obtain ⟨cd, e, _, d⟩ := T.cls
  unfold PySem.W.hasDictIn
  rw [e]; exact d
theorem tail_has (ht : PySem.W.excTail bmB bm = true) (X : String) (h : bmB.contains (.type X) = true) : (Value.ref C :: bm).contains (.type X) = true := by
  rw [List.contains_cons, PySem.W.excTail_contains _ _ ht, h, Bool.or_true]
theorem XcK.oex (T : XcK K C bm newId f) (B : XC.Bas bmB newId) (ht : PySem.W.excTail bmB bm = true) (hb : bmB.contains (.type "BaseException") = true) : OexG K C := by
  refine ⟨⟨bmB, newId, B, ?_, ?_⟩, T.hd, T.sa, (sub_cls T.cls _).trans (by rw [tail_has ht _ hb]), T.ty, T.kc⟩
  · obtain ⟨_, _, _, _, _, _, _, _, _, _, _, _, _, _, h⟩ := T.lk
    unfold PySem.W.excInitIn
    rw [h]
    simp [ht]
  · obtain ⟨cd, e, m, _⟩ := T.cls
    unfold PySem.W.excOver
    rw [e]
    show (match cd.mro with | .ref C' :: bm => C' == C && PySem.W.excTail bmB bm | _ => false) = true
    rw [m]
    simp [ht]
theorem XcK.xf (T : XcK K C bm newId f) (ht : PySem.W.excTail bmB bm = true) (hb : bmB.contains (.type "BaseException") = true) : XfC K C := ⟨T.ga, T.gg, (sub_cls T.cls _).trans (by rw [tail_has ht _ hb]), T.hd⟩
theorem XcK.ex (T : XcK K C bm newId f) (ht : PySem.W.excTail bmB bm = true) (hb : bmB.contains (.type "BaseException") = true) (ho : bmB.contains (.type "object") = true)
    (sp : PySem.W.specialIn K (.builtin "object.__class__") "__get__" = some (some (.builtin "getset_descriptor.__get__"))) (tk : PySem.W.takesIn K (.builtin "object.__class__") = some true) : ExcC K C :=
  ⟨T.ga, T.gg, (sub_cls T.cls _).trans (by rw [tail_has ht _ hb]), T.hd, T.ca, sp, tk, (sub_cls T.cls (.type "object")).trans (by rw [tail_has ht _ ho])⟩
end
theorem oexV {K : PySem.W.Frag} {C CP : Addr} {f : Str} (h : XcK K C (.ref CP :: XC.tlV) "ValueError.__new__" f) : OexG K C := h.oex XC.basV (by show PySem.W.excTail XC.tlV XC.tlV = true; decide +kernel) (by decide +kernel)
theorem oexK {K : PySem.W.Frag} {C : Addr} {f : Str} (h : XcK K C XC.tlK "LookupError.__new__" f) : OexG K C := h.oex XC.basK (by decide +kernel) (by decide +kernel)
theorem oexR {K : PySem.W.Frag} {C : Addr} {f : Str} (h : XcK K C XC.tlR "RuntimeError.__new__" f) : OexG K C := h.oex XC.basR (by decide +kernel) (by decide +kernel)

theorem xcB_ok {K : PySem.W.Frag} {x : Str} {bm : List Value} {newId : String} {f : Str} (h : xcB K x bm newId f = true) : XcK K (He.ga K x) bm newId f := by
  obtain ⟨h1, h⟩ := He.ba h
  obtain ⟨h2, h⟩ := He.ba h
  obtain ⟨h3, h⟩ := He.ba h
  obtain ⟨h4, h⟩ := He.ba h
  obtain ⟨h5, h⟩ := He.ba h
  obtain ⟨h6, h7⟩ := He.ba h
  refine ⟨?_, He.eqO_ok h2, h3, He.eqO_ok h4, He.eqO_ok h5, He.eqO_ok h6, He.eqO_ok h7⟩
  cases e : K.lookup (He.ga K x) with
  | none =>
    rw [e] at h1
    cases h1
  | some o =>
    rw [e] at h1
    obtain ⟨cl, dd, dt, sl⟩ := o
    cases dt with
    | cls cd =>
      obtain ⟨nm, bs, mro, N, q, hd, sn, sub, ab, col, del⟩ := cd
      obtain ⟨a1, b1⟩ := He.ba (show (decide (cl = .type "type") && (decide (mro = .ref (He.ga K x) :: bm) && (hd && (!del && (match sl.toList with
        | [_, _, _, _, some n, _] => decide (n = .builtin newId)
        | _ => false))))) = true from h1)
      obtain ⟨a2, b2⟩ := He.ba b1
      obtain ⟨a3, b3⟩ := He.ba b2
      obtain ⟨a4, b4⟩ := He.ba b3
      split at b4
      · rename_i k0 k1 k2 k3 n k5 hs
        obtain ⟨sl⟩ := sl
        have hs2 : sl = [k0, k1, k2, k3, some n, k5] := hs
        cases hs2
        cases of_decide_eq_true b4
        cases of_decide_eq_true a1
        cases of_decide_eq_true a2
        cases a3
        cases del with
        | true => cases a4
        | false => exact ⟨_, _, _, _, _, _, _, _, _, _, _, _, _, _, rfl⟩
      · cases b4
    | _ => cases h1

/-! ### the end -/
theorem khFacts {l : PySem.W.OpenLaw} {w : World} {K : PySem.W.Frag} {h : Heap} {mg : Str → Option Value} {fa : Addr} (X : K.In h) (G : h.Ns mainGlobals mg) (hfa : mg "law" = some (.ref fa)) (c : SaysA khX khF khD khW K) :
    ∃ fd : FuncData, (∀ (s : Shared) (v : Value), BindsTo s fd ⟨[v], []⟩ [("_law_script", v)]) ∧ ∀ base : Heap, K.In base → base.Ns mainGlobals mg → FnOk l.prog w K mg base CX0 29 fa fd PLaw (spLaw K) := by
  have gMixed := He.glo_ok X G (x := "_law_mixed") (c.fact 0 (by kernel_rfl))
  obtain ⟨fdMixed, FMixed⟩ := c.def_ 0 (a := ("_law_mixed", none)) (x := "_law_mixed") (q := "_law_mixed") (st := sMixed) (by kernel_rfl)
  have bMixed := FMixed.binds (ps := PMixed) fun _ _ _ _ _ _ us hl => match us, hl with | [_, _, _], _ => rfl
  have kMixed := FMixed.kp
  have gDraw := He.glo_ok X G (x := "_law_draw") (c.fact 1 (by kernel_rfl))
  obtain ⟨fdDraw, FDraw⟩ := c.def_ 1 (a := ("_law_draw", none)) (x := "_law_draw") (q := "_law_draw") (st := sDraw) (by kernel_rfl)
  have bDraw := FDraw.binds (ps := PDraw) fun _ _ _ _ _ _ us hl => match us, hl with | [_, _], _ => rfl
  have kDraw := FDraw.kp
  have gPool := He.glo_ok X G (x := "_law_pool") (c.fact 2 (by kernel_rfl))
  obtain ⟨fdPool, FPool⟩ := c.def_ 2 (a := ("_law_pool", none)) (x := "_law_pool") (q := "_law_pool") (st := sPool) (by kernel_rfl)
  have bPool := FPool.binds (ps := PPool) fun _ _ _ _ _ _ us hl => match us, hl with | [_], _ => rfl
  have kPool := FPool.kp
  have gIsName := He.glo_ok X G (x := "is_name") (c.fact 3 (by kernel_rfl))
  obtain ⟨fdIsName, FIsName⟩ := c.def_ 3 (a := ("is_name", none)) (x := "is_name") (q := "is_name") (st := sIsName) (by kernel_rfl)
  have bIsName := FIsName.binds (ps := PIsName) fun _ _ _ _ _ _ us hl => match us, hl with | [_], _ => rfl
  have kIsName := FIsName.kp
  have gParts := He.glo_ok X G (x := "parts_of") (c.fact 4 (by kernel_rfl))
  obtain ⟨fdParts, FParts⟩ := c.def_ 4 (a := ("parts_of", none)) (x := "parts_of") (q := "parts_of") (st := sParts) (by kernel_rfl)
  have bParts := FParts.binds (ps := PParts) fun _ _ _ _ _ _ us hl => match us, hl with | [_], _ => rfl
  have kParts := FParts.kp
  have gSize := He.glo_ok X G (x := "size_of") (c.fact 5 (by kernel_rfl))
  obtain ⟨fdSize, FSize⟩ := c.def_ 5 (a := ("size_of", none)) (x := "size_of") (q := "size_of") (st := sSize) (by kernel_rfl)
  have bSize := FSize.binds (ps := PSize) fun _ _ _ _ _ _ us hl => match us, hl with | [_], _ => rfl
  have kSize := FSize.kp
  have gNumb := He.glo_ok X G (x := "numbered") (c.fact 6 (by kernel_rfl))
  obtain ⟨fdNumb, FNumb⟩ := c.def_ 6 (a := ("numbered", none)) (x := "numbered") (q := "numbered") (st := sNumb) (by kernel_rfl)
  have bNumb := FNumb.binds (ps := PNumb) fun _ _ _ _ _ _ us hl => match us, hl with | [_, _], _ => rfl
  have kNumb := FNumb.kp
  have gNPar := He.glo_ok X G (x := "numbered_parts") (c.fact 7 (by kernel_rfl))
  obtain ⟨fdNPar, FNPar⟩ := c.def_ 7 (a := ("numbered_parts", none)) (x := "numbered_parts") (q := "numbered_parts") (st := sNPar) (by kernel_rfl)
  have bNPar := FNPar.binds (ps := PNPar) fun _ _ _ _ _ _ us hl => match us, hl with | [_, _], _ => rfl
  have kNPar := FNPar.kp
  have gAllN := He.glo_ok X G (x := "all_numbered") (c.fact 8 (by kernel_rfl))
  obtain ⟨fdAllN, FAllN⟩ := c.def_ 8 (a := ("all_numbered", none)) (x := "all_numbered") (q := "all_numbered") (st := sAllN) (by kernel_rfl)
  have bAllN := FAllN.binds (ps := PAllN) fun _ _ _ _ _ _ us hl => match us, hl with | [_, _], _ => rfl
  have kAllN := FAllN.kp
  have gIsPair := He.glo_ok X G (x := "is_pair") (c.fact 9 (by kernel_rfl))
  obtain ⟨fdIsPair, FIsPair⟩ := c.def_ 9 (a := ("is_pair", none)) (x := "is_pair") (q := "is_pair") (st := sIsPair) (by kernel_rfl)
  have bIsPair := FIsPair.binds (ps := PIsPair) fun _ _ _ _ _ _ us hl => match us, hl with | [_], _ => rfl
  have kIsPair := FIsPair.kp
  have gRowN := He.glo_ok X G (x := "is_row_of_names") (c.fact 10 (by kernel_rfl))
  obtain ⟨fdRowN, FRowN⟩ := c.def_ 10 (a := ("is_row_of_names", none)) (x := "is_row_of_names") (q := "is_row_of_names") (st := sRowN) (by kernel_rfl)
  have bRowN := FRowN.binds (ps := PRowN) fun _ _ _ _ _ _ us hl => match us, hl with | [_], _ => rfl
  have kRowN := FRowN.kp
  have gIsInt := He.glo_ok X G (x := "is_integer") (c.fact 11 (by kernel_rfl))
  obtain ⟨fdIsInt, FIsInt⟩ := c.def_ 11 (a := ("is_integer", none)) (x := "is_integer") (q := "is_integer") (st := sIsInt) (by kernel_rfl)
  have bIsInt := FIsInt.binds (ps := PIsInt) fun _ _ _ _ _ _ us hl => match us, hl with | [_], _ => rfl
  have kIsInt := FIsInt.kp
  have gIsExp := He.glo_ok X G (x := "is_expression") (c.fact 12 (by kernel_rfl))
  obtain ⟨fdIsExp, FIsExp⟩ := c.def_ 12 (a := ("is_expression", none)) (x := "is_expression") (q := "is_expression") (st := sIsExp) (by kernel_rfl)
  have bIsExp := FIsExp.binds (ps := PIsExp) fun _ _ _ _ _ _ us hl => match us, hl with | [_], _ => rfl
  have kIsExp := FIsExp.kp
  have gIsArg := He.glo_ok X G (x := "is_arg") (c.fact 13 (by kernel_rfl))
  obtain ⟨fdIsArg, FIsArg⟩ := c.def_ 13 (a := ("is_arg", none)) (x := "is_arg") (q := "is_arg") (st := sIsArg) (by kernel_rfl)
  have bIsArg := FIsArg.binds (ps := PIsArg) fun _ _ _ _ _ _ us hl => match us, hl with | [_], _ => rfl
  have kIsArg := FIsArg.kp
  have gIsCal := He.glo_ok X G (x := "is_call") (c.fact 14 (by kernel_rfl))
  obtain ⟨fdIsCal, FIsCal⟩ := c.def_ 14 (a := ("is_call", none)) (x := "is_call") (q := "is_call") (st := sIsCal) (by kernel_rfl)
  have bIsCal := FIsCal.binds (ps := PIsCal) fun _ _ _ _ _ _ us hl => match us, hl with | [_], _ => rfl
  have kIsCal := FIsCal.kp
  have gIsSim := He.glo_ok X G (x := "is_simple") (c.fact 15 (by kernel_rfl))
  obtain ⟨fdIsSim, FIsSim⟩ := c.def_ 15 (a := ("is_simple", none)) (x := "is_simple") (q := "is_simple") (st := sIsSim) (by kernel_rfl)
  have bIsSim := FIsSim.binds (ps := PIsSim) fun _ _ _ _ _ _ us hl => match us, hl with | [_], _ => rfl
  have kIsSim := FIsSim.kp
  have gIsBlk := He.glo_ok X G (x := "is_block") (c.fact 16 (by kernel_rfl))
  obtain ⟨fdIsBlk, FIsBlk⟩ := c.def_ 16 (a := ("is_block", none)) (x := "is_block") (q := "is_block") (st := sIsBlk) (by kernel_rfl)
  have bIsBlk := FIsBlk.binds (ps := PIsBlk) fun _ _ _ _ _ _ us hl => match us, hl with | [_, _], _ => rfl
  have kIsBlk := FIsBlk.kp
  have gIsHnd := He.glo_ok X G (x := "is_handler") (c.fact 17 (by kernel_rfl))
  obtain ⟨fdIsHnd, FIsHnd⟩ := c.def_ 17 (a := ("is_handler", none)) (x := "is_handler") (q := "is_handler") (st := sIsHnd) (by kernel_rfl)
  have bIsHnd := FIsHnd.binds (ps := PIsHnd) fun _ _ _ _ _ _ us hl => match us, hl with | [_, _], _ => rfl
  have kIsHnd := FIsHnd.kp
  have gIsSta := He.glo_ok X G (x := "is_statement") (c.fact 18 (by kernel_rfl))
  obtain ⟨fdIsSta, FIsSta⟩ := c.def_ 18 (a := ("is_statement", none)) (x := "is_statement") (q := "is_statement") (st := sIsSta) (by kernel_rfl)
  have bIsSta := FIsSta.binds (ps := PIsSta) fun _ _ _ _ _ _ us hl => match us, hl with | [_, _], _ => rfl
  have kIsSta := FIsSta.kp
  have gIsPar := He.glo_ok X G (x := "is_param") (c.fact 19 (by kernel_rfl))
  obtain ⟨fdIsPar, FIsPar⟩ := c.def_ 19 (a := ("is_param", none)) (x := "is_param") (q := "is_param") (st := sIsPar) (by kernel_rfl)
  have bIsPar := FIsPar.binds (ps := PIsPar) fun _ _ _ _ _ _ us hl => match us, hl with | [_], _ => rfl
  have kIsPar := FIsPar.kp
  have gIsFun := He.glo_ok X G (x := "is_function") (c.fact 20 (by kernel_rfl))
  obtain ⟨fdIsFun, FIsFun⟩ := c.def_ 20 (a := ("is_function", none)) (x := "is_function") (q := "is_function") (st := sIsFun) (by kernel_rfl)
  have bIsFun := FIsFun.binds (ps := PIsFun) fun _ _ _ _ _ _ us hl => match us, hl with | [_], _ => rfl
  have kIsFun := FIsFun.kp
  have gIsTree := He.glo_ok X G (x := "is_tree") (c.fact 21 (by kernel_rfl))
  obtain ⟨fdIsTree, FIsTree⟩ := c.def_ 21 (a := ("is_tree", none)) (x := "is_tree") (q := "is_tree") (st := sIsTree) (by kernel_rfl)
  have bIsTree := FIsTree.binds (ps := PIsTree) fun _ _ _ _ _ _ us hl => match us, hl with | [_], _ => rfl
  have kIsTree := FIsTree.kp
  have gAsg := He.glo_ok X G (x := "assigned_names") (c.fact 22 (by kernel_rfl))
  obtain ⟨fdAsg, FAsg⟩ := c.def_ 22 (a := ("assigned_names", none)) (x := "assigned_names") (q := "assigned_names") (st := sAsg) (by kernel_rfl)
  have bAsg := FAsg.binds (ps := PAsg) fun _ _ _ _ _ _ us hl => match us, hl with | [_], _ => rfl
  have kAsg := FAsg.kp
  have gOwn := He.glo_ok X G (x := "own_names") (c.fact 23 (by kernel_rfl))
  obtain ⟨fdOwn, FOwn⟩ := c.def_ 23 (a := ("own_names", none)) (x := "own_names") (q := "own_names") (st := sOwn) (by kernel_rfl)
  have bOwn := FOwn.binds (ps := POwn) fun _ _ _ _ _ _ us hl => match us, hl with | [_, _], _ => rfl
  have kOwn := FOwn.kp
  have gUnl := He.glo_ok X G (x := "check_unlike") (c.fact 24 (by kernel_rfl))
  obtain ⟨fdUnl, FUnl⟩ := c.def_ 24 (a := ("check_unlike", none)) (x := "check_unlike") (q := "check_unlike") (st := sUnl) (by kernel_rfl)
  have bUnl := FUnl.binds (ps := PUnl) fun _ _ _ _ _ _ us hl => match us, hl with | [_], _ => rfl
  have kUnl := FUnl.kp
  have gNoA := He.glo_ok X G (x := "names_of_args") (c.fact 25 (by kernel_rfl))
  obtain ⟨fdNoA, FNoA⟩ := c.def_ 25 (a := ("names_of_args", none)) (x := "names_of_args") (q := "names_of_args") (st := sNoA) (by kernel_rfl)
  have bNoA := FNoA.binds (ps := PNoA) fun _ _ _ _ _ _ us hl => match us, hl with | [_], _ => rfl
  have kNoA := FNoA.kp
  have gExs := He.glo_ok X G (x := "expressions_of") (c.fact 26 (by kernel_rfl))
  obtain ⟨fdExs, FExs⟩ := c.def_ 26 (a := ("expressions_of", none)) (x := "expressions_of") (q := "expressions_of") (st := sExs) (by kernel_rfl)
  have bExs := FExs.binds (ps := PExs) fun _ _ _ _ _ _ us hl => match us, hl with | [_], _ => rfl
  have kExs := FExs.kp
  have gFits := He.glo_ok X G (x := "fits") (c.fact 27 (by kernel_rfl))
  obtain ⟨fdFits, FFits⟩ := c.def_ 27 (a := ("fits", none)) (x := "fits") (q := "fits") (st := sFits) (by kernel_rfl)
  have bFits := FFits.binds (ps := PFits) fun _ _ _ _ _ _ us hl => match us, hl with | [_, _, _], _ => rfl
  have kFits := FFits.kp
  have gNmI := He.glo_ok X G (x := "named_in") (c.fact 28 (by kernel_rfl))
  obtain ⟨fdNmI, FNmI⟩ := c.def_ 28 (a := ("named_in", none)) (x := "named_in") (q := "named_in") (st := sNmI) (by kernel_rfl)
  have bNmI := FNmI.binds (ps := PNmI) fun _ _ _ _ _ _ us hl => match us, hl with | [_], _ => rfl
  have kNmI := FNmI.kp
  have gGrt := He.glo_ok X G (x := "has_great_number") (c.fact 29 (by kernel_rfl))
  obtain ⟨fdGrt, FGrt⟩ := c.def_ 29 (a := ("has_great_number", none)) (x := "has_great_number") (q := "has_great_number") (st := sGrt) (by kernel_rfl)
  have bGrt := FGrt.binds (ps := PGrt) fun _ _ _ _ _ _ us hl => match us, hl with | [_], _ => rfl
  have kGrt := FGrt.kp
  have gDep := He.glo_ok X G (x := "depth_of") (c.fact 30 (by kernel_rfl))
  obtain ⟨fdDep, FDep⟩ := c.def_ 30 (a := ("depth_of", none)) (x := "depth_of") (q := "depth_of") (st := sDep) (by kernel_rfl)
  have bDep := FDep.binds (ps := PDep) fun _ _ _ _ _ _ us hl => match us, hl with | [_], _ => rfl
  have kDep := FDep.kp
  have gChS := He.glo_ok X G (x := "check_sizes") (c.fact 31 (by kernel_rfl))
  obtain ⟨fdChS, FChS⟩ := c.def_ 31 (a := ("check_sizes", none)) (x := "check_sizes") (q := "check_sizes") (st := sChS) (by kernel_rfl)
  have bChS := FChS.binds (ps := PChS) fun _ _ _ _ _ _ us hl => match us, hl with | [_], _ => rfl
  have kChS := FChS.kp
  have gNames := He.glo_ok X G (x := "_law_names") (c.fact 32 (by kernel_rfl))
  obtain ⟨fdNames, FNames⟩ := c.def_ 32 (a := ("_law_names", none)) (x := "_law_names") (q := "_law_names") (st := sNames) (by kernel_rfl)
  have bNames := FNames.binds (ps := PNames) fun _ _ _ _ _ _ us hl => match us, hl with | [_], _ => rfl
  have kNames := FNames.kp
  have gUnX := He.glo_ok X G (x := "check_unlike") (c.fact 33 (by kernel_rfl))
  obtain ⟨fdUnX, FUnX⟩ := c.def_ 33 (a := ("check_unlike", none)) (x := "check_unlike") (q := "check_unlike") (st := sUnX) (by kernel_rfl)
  have bUnX := FUnX.binds (ps := PUnX) fun _ _ _ _ _ _ us hl => match us, hl with | [_], _ => rfl
  have kUnX := FUnX.kp
  have gFiX := He.glo_ok X G (x := "fits") (c.fact 34 (by kernel_rfl))
  obtain ⟨fdFiX, FFiX⟩ := c.def_ 34 (a := ("fits", none)) (x := "fits") (q := "fits") (st := sFiX) (by kernel_rfl)
  have bFiX := FFiX.binds (ps := PFiX) fun _ _ _ _ _ _ us hl => match us, hl with | [_, _, _], _ => rfl
  have kFiX := FFiX.kp
  have gChT := He.glo_ok X G (x := "check_statement") (c.fact 35 (by kernel_rfl))
  obtain ⟨fdChT, FChT⟩ := c.def_ 35 (a := ("check_statement", none)) (x := "check_statement") (q := "check_statement") (st := sChT) (by kernel_rfl)
  have bChT := FChT.binds (ps := PChT) fun _ _ _ _ _ _ us hl => match us, hl with | [_, _, _, _], _ => rfl
  have kChT := FChT.kp
  have gChX := He.glo_ok X G (x := "check_statement") (c.fact 36 (by kernel_rfl))
  obtain ⟨fdChX, FChX⟩ := c.def_ 36 (a := ("check_statement", none)) (x := "check_statement") (q := "check_statement") (st := sChX) (by kernel_rfl)
  have bChX := FChX.binds (ps := PChX) fun _ _ _ _ _ _ us hl => match us, hl with | [_, _, _, _], _ => rfl
  have kChX := FChX.kp
  have gChN := He.glo_ok X G (x := "check_names") (c.fact 37 (by kernel_rfl))
  obtain ⟨fdChN, FChN⟩ := c.def_ 37 (a := ("check_names", none)) (x := "check_names") (q := "check_names") (st := sChN) (by kernel_rfl)
  have bChN := FChN.binds (ps := PChN) fun _ _ _ _ _ _ us hl => match us, hl with | [_], _ => rfl
  have kChN := FChN.kp
  have gChY := He.glo_ok X G (x := "check_names") (c.fact 38 (by kernel_rfl))
  obtain ⟨fdChY, FChY⟩ := c.def_ 38 (a := ("check_names", none)) (x := "check_names") (q := "check_names") (st := sChY) (by kernel_rfl)
  have bChY := FChY.binds (ps := PChY) fun _ _ _ _ _ _ us hl => match us, hl with | [_], _ => rfl
  have kChY := FChY.kp
  have gLPk := He.glo_ok X G (x := "_law_pick") (c.fact 39 (by kernel_rfl))
  obtain ⟨fdLPk, FLPk⟩ := c.def_ 39 (a := ("_law_pick", none)) (x := "_law_pick") (q := "_law_pick") (st := sLPk) (by kernel_rfl)
  have bLPk := FLPk.binds (ps := PLPk) fun _ _ _ _ _ _ us hl => match us, hl with | [_, _], _ => rfl
  have kLPk := FLPk.kp
  have gLSu := He.glo_ok X G (x := "_law_sum") (c.fact 40 (by kernel_rfl))
  obtain ⟨fdLSu, FLSu⟩ := c.def_ 40 (a := ("_law_sum", none)) (x := "_law_sum") (q := "_law_sum") (st := sLSu) (by kernel_rfl)
  have bLSu := FLSu.binds (ps := PLSu) fun _ _ _ _ _ _ us hl => match us, hl with | [_, _], _ => rfl
  have kLSu := FLSu.kp
  have gLCl := He.glo_ok X G (x := "_law_call") (c.fact 41 (by kernel_rfl))
  obtain ⟨fdLCl, FLCl⟩ := c.def_ 41 (a := ("_law_call", none)) (x := "_law_call") (q := "_law_call") (st := sLCl) (by kernel_rfl)
  have bLCl := FLCl.binds (ps := PLCl) fun _ _ _ _ _ _ us hl => match us, hl with | [_, _], _ => rfl
  have kLCl := FLCl.kp
  have gLPi := He.glo_ok X G (x := "_law_piece") (c.fact 42 (by kernel_rfl))
  obtain ⟨fdLPi, FLPi⟩ := c.def_ 42 (a := ("_law_piece", none)) (x := "_law_piece") (q := "_law_piece") (st := sLPi) (by kernel_rfl)
  have bLPi := FLPi.binds (ps := PLPi) fun _ _ _ _ _ _ us hl => match us, hl with | [_, _, _], _ => rfl
  have kLPi := FLPi.kp
  have gLPt := He.glo_ok X G (x := "_law_parts") (c.fact 43 (by kernel_rfl))
  obtain ⟨fdLPt, FLPt⟩ := c.def_ 43 (a := ("_law_parts", none)) (x := "_law_parts") (q := "_law_parts") (st := sLPt) (by kernel_rfl)
  have bLPt := FLPt.binds (ps := PLPt) fun _ _ _ _ _ _ us hl => match us, hl with | [_], _ => rfl
  have kLPt := FLPt.kp
  have gLSz := He.glo_ok X G (x := "_law_size") (c.fact 44 (by kernel_rfl))
  obtain ⟨fdLSz, FLSz⟩ := c.def_ 44 (a := ("_law_size", none)) (x := "_law_size") (q := "_law_size") (st := sLSz) (by kernel_rfl)
  have bLSz := FLSz.binds (ps := PLSz) fun _ _ _ _ _ _ us hl => match us, hl with | [_], _ => rfl
  have kLSz := FLSz.kp
  have gLNu := He.glo_ok X G (x := "_law_numbered") (c.fact 45 (by kernel_rfl))
  obtain ⟨fdLNu, FLNu⟩ := c.def_ 45 (a := ("_law_numbered", none)) (x := "_law_numbered") (q := "_law_numbered") (st := sLNu) (by kernel_rfl)
  have bLNu := FLNu.binds (ps := PLNu) fun _ _ _ _ _ _ us hl => match us, hl with | [_, _], _ => rfl
  have kLNu := FLNu.kp
  have gLOn := He.glo_ok X G (x := "_law_own_names") (c.fact 46 (by kernel_rfl))
  obtain ⟨fdLOn, FLOn⟩ := c.def_ 46 (a := ("_law_own_names", none)) (x := "_law_own_names") (q := "_law_own_names") (st := sLOn) (by kernel_rfl)
  have bLOn := FLOn.binds (ps := PLOn) fun _ _ _ _ _ _ us hl => match us, hl with | [_, _], _ => rfl
  have kLOn := FLOn.kp
  have gLTw := He.glo_ok X G (x := "_law_twice") (c.fact 47 (by kernel_rfl))
  obtain ⟨fdLTw, FLTw⟩ := c.def_ 47 (a := ("_law_twice", none)) (x := "_law_twice") (q := "_law_twice") (st := sLTw) (by kernel_rfl)
  have bLTw := FLTw.binds (ps := PLTw) fun _ _ _ _ _ _ us hl => match us, hl with | [_], _ => rfl
  have kLTw := FLTw.kp
  have gLWo := He.glo_ok X G (x := "_law_words_of") (c.fact 48 (by kernel_rfl))
  obtain ⟨fdLWo, FLWo⟩ := c.def_ 48 (a := ("_law_words_of", none)) (x := "_law_words_of") (q := "_law_words_of") (st := sLWo) (by kernel_rfl)
  have bLWo := FLWo.binds (ps := PLWo) fun _ _ _ _ _ _ us hl => match us, hl with | [_], _ => rfl
  have kLWo := FLWo.kp
  have gLOc := He.glo_ok X G (x := "_law_of_calls") (c.fact 49 (by kernel_rfl))
  obtain ⟨fdLOc, FLOc⟩ := c.def_ 49 (a := ("_law_of_calls", none)) (x := "_law_of_calls") (q := "_law_of_calls") (st := sLOc) (by kernel_rfl)
  have bLOc := FLOc.binds (ps := PLOc) fun _ _ _ _ _ _ us hl => match us, hl with | [_, _, _, _], _ => rfl
  have kLOc := FLOc.kp
  have gLEr := He.glo_ok X G (x := "_law_errors") (c.fact 50 (by kernel_rfl))
  obtain ⟨fdLEr, FLEr⟩ := c.def_ 50 (a := ("_law_errors", none)) (x := "_law_errors") (q := "_law_errors") (st := sLEr) (by kernel_rfl)
  have bLEr := FLEr.binds (ps := PLEr) fun _ _ _ _ _ _ us hl => match us, hl with | [_, _, _, _], _ => rfl
  have kLEr := FLEr.kp
  have gLDu := He.glo_ok X G (x := "_law_due") (c.fact 51 (by kernel_rfl))
  obtain ⟨fdLDu, FLDu⟩ := c.def_ 51 (a := ("_law_due", none)) (x := "_law_due") (q := "_law_due") (st := sLDu) (by kernel_rfl)
  have bLDu := FLDu.binds (ps := PLDu) fun _ _ _ _ _ _ us hl => match us, hl with | [_], _ => rfl
  have kLDu := FLDu.kp
  have gLTd := He.glo_ok X G (x := "_law_told") (c.fact 52 (by kernel_rfl))
  obtain ⟨fdLTd, FLTd⟩ := c.def_ 52 (a := ("_law_told", none)) (x := "_law_told") (q := "_law_told") (st := sLTd) (by kernel_rfl)
  have bLTd := FLTd.binds (ps := PLTd) fun _ _ _ _ _ _ us hl => match us, hl with | [_], _ => rfl
  have kLTd := FLTd.kp
  have gLaw := He.glo_ok X G (x := "law") (c.fact 53 (by kernel_rfl))
  obtain ⟨fdLaw, FLaw⟩ := c.def_ 53 (a := ("law", none)) (x := "law") (q := "law") (st := sLaw) (by kernel_rfl)
  have bLaw := FLaw.binds (ps := PLaw) fun _ _ _ _ _ _ us hl => match us, hl with | [_], _ => rfl
  have kLaw := FLaw.kp
  have gProgramError := He.glo_ok X G (x := "ProgramError") (c.fact 54 (by kernel_rfl))
  have gProgram := He.glo_ok X G (x := "Program") (c.fact 55 (by kernel_rfl))
  have clProgram := He.cls_ok (x := "Program") (c.fact 56 (by kernel_rfl))
  have mkProgram := He.mkr_ok (x := "Program") (c.fact 57 (by kernel_rfl))
  have noProgram_content := He.noat_ok (x := "Program") (f := "content") (c.fact 58 (by kernel_rfl))
  have noProgram_globals := He.noat_ok (x := "Program") (f := "globals") (c.fact 59 (by kernel_rfl))
  have mePIX := He.meth_ok (x := "Program") (m := "__init__") (c.fact 60 (by kernel_rfl))
  obtain ⟨fdPIX, FPIX⟩ := c.def_ 54 (a := ("Program", some "__init__")) (x := "__init__") (q := "Program.__init__") (st := sPIX) (by kernel_rfl)
  have bPIX := FPIX.binds (ps := PPIX) fun _ _ _ _ _ _ us hl => match us, hl with | [_, _], _ => rfl
  have kPIX := FPIX.kp
  have x_3 : XcK K (He.ga K "DuplicateName") (.ref (He.ga K "ProgramError") :: XC.tlV) "ValueError.__new__" "name" := xcB_ok (c.x 0 (f := fun K => xcB K "DuplicateName" (.ref (He.ga K "ProgramError") :: XC.tlV) "ValueError.__new__" "name") (by kernel_rfl))
  have gDuplicateName := He.glo_ok X G (x := "DuplicateName") (c.fact 61 (by kernel_rfl))
  have meXI3 := He.meth_ok (x := "DuplicateName") (m := "__init__") (c.fact 62 (by kernel_rfl))
  obtain ⟨fdXI3, FXI3⟩ := c.def_ 55 (a := ("DuplicateName", some "__init__")) (x := "__init__") (q := "DuplicateName.__init__") (st := sXI3) (by kernel_rfl)
  have bXI3 := FXI3.binds (ps := PXI3) fun _ _ _ _ _ _ us hl => match us, hl with | [_, _], _ => rfl
  have kXI3 := FXI3.kp
  have x_4 : XcK K (He.ga K "UnknownName") (.ref (He.ga K "ProgramError") :: XC.tlV) "ValueError.__new__" "name" := xcB_ok (c.x 1 (f := fun K => xcB K "UnknownName" (.ref (He.ga K "ProgramError") :: XC.tlV) "ValueError.__new__" "name") (by kernel_rfl))
  have gUnknownName := He.glo_ok X G (x := "UnknownName") (c.fact 63 (by kernel_rfl))
  have meXI4 := He.meth_ok (x := "UnknownName") (m := "__init__") (c.fact 64 (by kernel_rfl))
  obtain ⟨fdXI4, FXI4⟩ := c.def_ 56 (a := ("UnknownName", some "__init__")) (x := "__init__") (q := "UnknownName.__init__") (st := sXI4) (by kernel_rfl)
  have bXI4 := FXI4.binds (ps := PXI4) fun _ _ _ _ _ _ us hl => match us, hl with | [_, _], _ => rfl
  have kXI4 := FXI4.kp
  have x_5 : XcK K (He.ga K "WrongArguments") (.ref (He.ga K "ProgramError") :: XC.tlV) "ValueError.__new__" "place" := xcB_ok (c.x 2 (f := fun K => xcB K "WrongArguments" (.ref (He.ga K "ProgramError") :: XC.tlV) "ValueError.__new__" "place") (by kernel_rfl))
  have gWrongArguments := He.glo_ok X G (x := "WrongArguments") (c.fact 65 (by kernel_rfl))
  have meXI5 := He.meth_ok (x := "WrongArguments") (m := "__init__") (c.fact 66 (by kernel_rfl))
  obtain ⟨fdXI5, FXI5⟩ := c.def_ 57 (a := ("WrongArguments", some "__init__")) (x := "__init__") (q := "WrongArguments.__init__") (st := sXI5) (by kernel_rfl)
  have bXI5 := FXI5.binds (ps := PXI5) fun _ _ _ _ _ _ us hl => match us, hl with | [_, _], _ => rfl
  have kXI5 := FXI5.kp
  have x_6 : XcK K (He.ga K "InvalidFinally") (.ref (He.ga K "ProgramError") :: XC.tlV) "ValueError.__new__" "place" := xcB_ok (c.x 3 (f := fun K => xcB K "InvalidFinally" (.ref (He.ga K "ProgramError") :: XC.tlV) "ValueError.__new__" "place") (by kernel_rfl))
  have gInvalidFinally := He.glo_ok X G (x := "InvalidFinally") (c.fact 67 (by kernel_rfl))
  have meXI6 := He.meth_ok (x := "InvalidFinally") (m := "__init__") (c.fact 68 (by kernel_rfl))
  obtain ⟨fdXI6, FXI6⟩ := c.def_ 58 (a := ("InvalidFinally", some "__init__")) (x := "__init__") (q := "InvalidFinally.__init__") (st := sXI6) (by kernel_rfl)
  have bXI6 := FXI6.binds (ps := PXI6) fun _ _ _ _ _ _ us hl => match us, hl with | [_, _], _ => rfl
  have kXI6 := FXI6.kp
  have m_int := He.free_ok X G (x := "int") (c.fact 69 (by kernel_rfl))
  have m_len := He.free_ok X G (x := "len") (c.fact 70 (by kernel_rfl))
  have m_isinstance := He.free_ok X G (x := "isinstance") (c.fact 71 (by kernel_rfl))
  have m_str := He.free_ok X G (x := "str") (c.fact 72 (by kernel_rfl))
  have m_sum := He.free_ok X G (x := "sum") (c.fact 73 (by kernel_rfl))
  have m_tuple := He.free_ok X G (x := "tuple") (c.fact 74 (by kernel_rfl))
  have m_bool := He.free_ok X G (x := "bool") (c.fact 75 (by kernel_rfl))
  have m_all := He.free_ok X G (x := "all") (c.fact 76 (by kernel_rfl))
  have m_zip := He.free_ok X G (x := "zip") (c.fact 77 (by kernel_rfl))
  have m_enumerate := He.free_ok X G (x := "enumerate") (c.fact 78 (by kernel_rfl))
  have m_max := He.free_ok X G (x := "max") (c.fact 79 (by kernel_rfl))
  have m_any := He.free_ok X G (x := "any") (c.fact 80 (by kernel_rfl))
  have m_list := He.free_ok X G (x := "list") (c.fact 81 (by kernel_rfl))
  have m_abs := He.free_ok X G (x := "abs") (c.fact 82 (by kernel_rfl))
  have m_range := He.free_ok X G (x := "range") (c.fact 83 (by kernel_rfl))
  have m_sorted := He.free_ok X G (x := "sorted") (c.fact 84 (by kernel_rfl))
  obtain ⟨t_LETTERS, m_LETTERS⟩ := He.str_ok X G (x := "LETTERS") (z := LET) (c.fact 85 (by kernel_rfl))
  obtain ⟨t_DIGITS, m_DIGITS⟩ := He.str_ok X G (x := "DIGITS") (z := DIG) (c.fact 86 (by kernel_rfl))
  obtain ⟨t_DEEPEST, m_DEEPEST⟩ := He.int_ok X G (x := "DEEPEST") (i := 30) (c.fact 87 (by kernel_rfl))
  obtain ⟨t_LIMIT, m_LIMIT⟩ := He.int_ok X G (x := "LIMIT") (i := 1000000000000) (c.fact 88 (by kernel_rfl))
  have m_KEYWORDS := He.glo_ok X G (x := "KEYWORDS") (c.fact 89 (by kernel_rfl))
  have l_KEYWORDS := fun H => He.tupB_ok (K := K) (x := "KEYWORDS") (vs := [.str "globals", .str "kinds", .str "keep", .str "def", .str "if", .str "else", .str "while", .str "risk", .str "raise", .str "try", .str "except", .str "finally", .str "undo", .str "with", .str "swallow", .str "return"]) (c.x 4 (f := fun K => He.tupB K "KEYWORDS" [.str "globals", .str "kinds", .str "keep", .str "def", .str "if", .str "else", .str "while", .str "risk", .str "raise", .str "try", .str "except", .str "finally", .str "undo", .str "with", .str "swallow", .str "return"]) (by kernel_rfl)) H
  have c_dd := c.x 5 (f := fun K => decide (PySem.W.exmOne K (.ref (He.ga K "DuplicateName")) (.ref (He.ga K "DuplicateName")) = some true)) (by kernel_rfl)
  have c_ud := c.x 6 (f := fun K => decide (PySem.W.exmOne K (.ref (He.ga K "UnknownName")) (.ref (He.ga K "DuplicateName")) = some false)) (by kernel_rfl)
  have c_wd := c.x 7 (f := fun K => decide (PySem.W.exmOne K (.ref (He.ga K "WrongArguments")) (.ref (He.ga K "DuplicateName")) = some false)) (by kernel_rfl)
  have c_fd := c.x 8 (f := fun K => decide (PySem.W.exmOne K (.ref (He.ga K "InvalidFinally")) (.ref (He.ga K "DuplicateName")) = some false)) (by kernel_rfl)
  have c_uu := c.x 9 (f := fun K => decide (PySem.W.exmOne K (.ref (He.ga K "UnknownName")) (.ref (He.ga K "UnknownName")) = some true)) (by kernel_rfl)
  have c_wu := c.x 10 (f := fun K => decide (PySem.W.exmOne K (.ref (He.ga K "WrongArguments")) (.ref (He.ga K "UnknownName")) = some false)) (by kernel_rfl)
  have c_fu := c.x 11 (f := fun K => decide (PySem.W.exmOne K (.ref (He.ga K "InvalidFinally")) (.ref (He.ga K "UnknownName")) = some false)) (by kernel_rfl)
  have c_ww := c.x 12 (f := fun K => decide (PySem.W.exmOne K (.ref (He.ga K "WrongArguments")) (.ref (He.ga K "WrongArguments")) = some true)) (by kernel_rfl)
  have c_fw := c.x 13 (f := fun K => decide (PySem.W.exmOne K (.ref (He.ga K "InvalidFinally")) (.ref (He.ga K "WrongArguments")) = some false)) (by kernel_rfl)
  have c_ff := c.x 14 (f := fun K => decide (PySem.W.exmOne K (.ref (He.ga K "InvalidFinally")) (.ref (He.ga K "InvalidFinally")) = some true)) (by kernel_rfl)
  have hE := hfa.symm.trans gLaw
  cases hE
  have T0 : TxPool mg := ⟨m_int, m_len⟩
  have TN : TxName K mg (He.ga K "KEYWORDS") := { n_isinstance := m_isinstance, n_str := m_str, c_LETTERS := ⟨_, m_LETTERS, _, rfl⟩, c_DIGITS := ⟨_, m_DIGITS, _, rfl⟩, c_KEYWORDS := ⟨_, m_KEYWORDS, rfl⟩, kws := l_KEYWORDS }
  have TI : TxInt mg := ⟨m_int, m_bool, m_isinstance⟩
  have TT : TxTree mg := ⟨m_sum, m_isinstance, m_len⟩
  have TS : TxShape mg := ⟨m_isinstance, m_tuple, m_str, m_bool, m_len, m_all, m_zip⟩
  have TK : TxChk mg := ⟨m_enumerate, m_sum, m_max, m_len, m_any, m_list, m_abs⟩
  have TG : TxGen mg := ⟨m_sorted, m_tuple, m_range, m_len⟩
  have TC : TxPrg K (He.ga K "Program") := ⟨clProgram, noProgram_content, noProgram_globals⟩
  have T10 : TxK10 mg := ⟨m_sum, m_list, m_len, m_range, m_tuple, m_int⟩
  have TL : TxL10 mg := { T10 with n_sorted := m_sorted }
  refine ⟨fdLaw, ?_, fun base kB gB => ?_⟩
  · obtain ⟨_, _, _, _, _, _, _, _, _, rfl, _, _⟩ := FLaw.ex
    exact fun s v => .of_eq rfl
  have X : ErrH l.prog w K mg base (fun i => ([0, 0, 0, (He.ga K "DuplicateName"), (He.ga K "UnknownName"), (He.ga K "WrongArguments"), (He.ga K "InvalidFinally"), 0, 0] : List Addr).getD i 0) :=
    ⟨⟨_, _, _, oexV x_3, meXI3.at_, eq_of_beq meXI3.fn, ok_XI3 FXI3 (oexV x_3) x_3.no, gDuplicateName, bXI3⟩, ⟨_, _, _, oexV x_4, meXI4.at_, eq_of_beq meXI4.fn, ok_XI4 FXI4 (oexV x_4) x_4.no, gUnknownName, bXI4⟩, ⟨_, _, _, oexV x_5, meXI5.at_, eq_of_beq meXI5.fn, ok_XI5 FXI5 (oexV x_5) x_5.no, gWrongArguments, bXI5⟩, ⟨_, _, _, oexV x_6, meXI6.at_, eq_of_beq meXI6.fn, ok_XI6 FXI6 (oexV x_6) x_6.no, gInvalidFinally, bXI6⟩⟩
  have M : ErrN K mg (fun i => ([0, 0, 0, (He.ga K "DuplicateName"), (He.ga K "UnknownName"), (He.ga K "WrongArguments"), (He.ga K "InvalidFinally"), 0, 0] : List Addr).getD i 0) (He.ga K "ProgramError") := ⟨gProgramError, of_decide_eq_true c_dd, of_decide_eq_true c_ud, of_decide_eq_true c_wd, of_decide_eq_true c_fd, of_decide_eq_true c_uu, of_decide_eq_true c_wu, of_decide_eq_true c_fu, of_decide_eq_true c_ww, of_decide_eq_true c_fw, of_decide_eq_true c_ff, x_3.xf (bmB := XC.tlV) (by show PySem.W.excTail XC.tlV XC.tlV = true; decide +kernel) (by decide +kernel), x_3.no, x_4.xf (bmB := XC.tlV) (by show PySem.W.excTail XC.tlV XC.tlV = true; decide +kernel) (by decide +kernel), x_4.no, x_5.xf (bmB := XC.tlV) (by show PySem.W.excTail XC.tlV XC.tlV = true; decide +kernel) (by decide +kernel), x_5.no, x_6.xf (bmB := XC.tlV) (by show PySem.W.excTail XC.tlV XC.tlV = true; decide +kernel) (by decide +kernel), x_6.no⟩
  have GM : Has l.prog w K mg base CX0 1 "_law_mixed" PMixed spMixed := ⟨_, _, ok_Mixed FMixed T0, gMixed, kMixed, bMixed⟩
  have GD : Has l.prog w K mg base CX0 2 "_law_draw" PDraw spDraw := ⟨_, _, ok_Draw FDraw T0 GM, gDraw, kDraw, bDraw⟩
  have GP : Has l.prog w K mg base CX0 1 "_law_pool" PPool (spPool K) := ⟨_, _, ok_Pool FPool T0, gPool, kPool, bPool⟩
  have GN : Has l.prog w K mg base CX0 1 "is_name" PIsName (spName K) := ⟨_, _, ok_IsName FIsName TN, gIsName, kIsName, bIsName⟩
  have GPa : Has l.prog w K mg base CX0 1 "parts_of" PParts (spParts K) := ⟨_, _, ok_Parts FParts, gParts, kParts, bParts⟩
  have GSz : ∀ n, Has l.prog w K mg base CX0 (2 + n) "size_of" PSize (spSize K n) := fun n => ⟨_, _, ok_Size FSize TT GPa gSize kSize bSize n, gSize, kSize, bSize⟩
  have GNP : ∀ n, Has l.prog w K mg base CX0 (3 + n) "numbered_parts" PNPar (spNPar K n) := fun n => ⟨_, _, ok_NPar FNPar GPa (GSz n), gNPar, kNPar, bNPar⟩
  have GNu : ∀ n, Has l.prog w K mg base CX0 (3 + n) "numbered" PNumb (spNumb K n) := fun n => ⟨_, _, ok_Numb FNumb TT GPa (GSz n), gNumb, kNumb, bNumb⟩
  have GAl : Has l.prog w K mg base CX0 (4 + 6) "all_numbered" PAllN (spAllN K 6) := ⟨_, _, ok_AllN FAllN GNu GNP gAllN kAllN bAllN 6, gAllN, kAllN, bAllN⟩
  have GPr : Has l.prog w K mg base CX0 1 "is_pair" PIsPair (spIsPair K) := ⟨_, _, ok_IsPair FIsPair TS, gIsPair, kIsPair, bIsPair⟩
  have GRo : Has l.prog w K mg base CX0 2 "is_row_of_names" PRowN (spRowN K) := ⟨_, _, ok_RowN FRowN TS GN, gRowN, kRowN, bRowN⟩
  have GI : Has l.prog w K mg base CX0 1 "is_integer" PIsInt (spIsInt K) := ⟨_, _, ok_IsInt FIsInt TI, gIsInt, kIsInt, bIsInt⟩
  have GE : Has l.prog w K mg base CX0 2 "is_expression" PIsExp (spIsExp K) := ⟨_, _, ok_IsExp FIsExp TS GN GI GPr, gIsExp, kIsExp, bIsExp⟩
  have GAr : Has l.prog w K mg base CX0 3 "is_arg" PIsArg (spIsArg K) := ⟨_, _, ok_IsArg FIsArg TS GN GE GPr, gIsArg, kIsArg, bIsArg⟩
  have GCa : Has l.prog w K mg base CX0 4 "is_call" PIsCal (spIsCal K) := ⟨_, _, ok_IsCal FIsCal TS GN GAr GPr, gIsCal, kIsCal, bIsCal⟩
  have GSi : Has l.prog w K mg base CX0 5 "is_simple" PIsSim (spIsSim K) := ⟨_, _, ok_IsSim FIsSim GN GE GRo GCa, gIsSim, kIsSim, bIsSim⟩
  have GB : Has l.prog w K mg base CX0 (5 + 3 * 6) "is_block" PIsBlk (spIsBlk K 6) := ⟨_, _, ok_blocks FIsBlk FIsHnd FIsSta TS gIsBlk kIsBlk bIsBlk gIsHnd kIsHnd bIsHnd gIsSta kIsSta bIsSta GPr GSi GCa GRo 6, gIsBlk, kIsBlk, bIsBlk⟩
  have GPm : Has l.prog w K mg base CX0 2 "is_param" PIsPar (spIsPar K) := ⟨_, _, ok_IsPar FIsPar TS GN GPr, gIsPar, kIsPar, bIsPar⟩
  have GF : Has l.prog w K mg base CX0 (5 + 3 * 6 + 1) "is_function" PIsFun (spIsFun K 6) := ⟨_, _, ok_IsFun (n := 6) FIsFun TS ⟨_, m_DEEPEST, _, rfl⟩ GN GPm GB, gIsFun, kIsFun, bIsFun⟩
  have GTr : Has l.prog w K mg base CX0 (6 + 3 * 6 + 1) "is_tree" PIsTree (spIsTree K 6) := ⟨_, _, ok_IsTree (n := 6) FIsTree TS GRo GE GF, gIsTree, kIsTree, bIsTree⟩
  have GAs : Has l.prog w K mg base CX0 (4 + 6 + 1) "assigned_names" PAsg (spAsg K 6) := ⟨_, _, ok_Asg (n := 6) FAsg GAl, gAsg, kAsg, bAsg⟩
  have GOw : Has l.prog w K mg base CX0 (4 + 6 + 1 + 1) "own_names" POwn (spOwn K 6) := ⟨_, _, ok_Own (n := 6) FOwn TS GAs, gOwn, kOwn, bOwn⟩
  have GUn : Has l.prog w K mg base (L2N.CX l.prog w) 3 "check_unlike" PUnX (spUnX K (fun i => ([0, 0, 0, (He.ga K "DuplicateName"), (He.ga K "UnknownName"), (He.ga K "WrongArguments"), (He.ga K "InvalidFinally"), 0, 0] : List Addr).getD i 0)) := ⟨_, _, ok_UnX FUnX TK X, gUnX, kUnX, bUnX⟩
  have GNo : Has l.prog w K mg base CX0 1 "names_of_args" PNoA (spNoA K) := ⟨_, _, ok_NoA FNoA, gNoA, kNoA, bNoA⟩
  have GEx : Has l.prog w K mg base CX0 1 "expressions_of" PExs (spExs K) := ⟨_, _, ok_Exs FExs, gExs, kExs, bExs⟩
  have GFi : Has l.prog w K mg base CX0 1 "fits" PFiX (spFiX K) := ⟨_, _, ok_FiX FFiX, gFiX, kFiX, bFiX⟩
  have GNm : Has l.prog w K mg base CX0 3 "named_in" PNmI (spNmI K 2) := ⟨_, _, ok_NmI FNmI GNo gNmI kNmI bNmI 2, gNmI, kNmI, bNmI⟩
  have GGr : Has l.prog w K mg base CX0 (4 + 6 + 1) "has_great_number" PGrt (spGrt K 6) := ⟨_, _, ok_Grt (n := 6) FGrt TK ⟨_, m_LIMIT, _, rfl⟩ GAl GEx, gGrt, kGrt, bGrt⟩
  have GDe : Has l.prog w K mg base CX0 (2 + 6) "depth_of" PDep (spDep K 6) := ⟨_, _, ok_Dep FDep TK GPa gDep kDep bDep 6, gDep, kDep, bDep⟩
  have GCS : Has l.prog w K mg base CX0 (4 + 6 + 1 + 1 + 1) "check_sizes" PChS (spChS K 6) := ⟨_, _, ok_ChS (n := 6) FChS TK m_int GOw (GSz 6) GDe GGr, gChS, kChS, bChS⟩
  have GCT : Has l.prog w K mg base (L2N.CX l.prog w) (4 + 6 + 1) "check_statement" PChX (spChX K (fun i => ([0, 0, 0, (He.ga K "DuplicateName"), (He.ga K "UnknownName"), (He.ga K "WrongArguments"), (He.ga K "InvalidFinally"), 0, 0] : List Addr).getD i 0) 6) := ⟨_, _, ok_ChX (n := 6) FChX GNm X GFi GAl, gChX, kChX, bChX⟩
  have GCN : Has l.prog w K mg base (L2N.CX l.prog w) (4 + 6 + 1 + 1 + 1) "check_names" PChY (spChY K (fun i => ([0, 0, 0, (He.ga K "DuplicateName"), (He.ga K "UnknownName"), (He.ga K "WrongArguments"), (He.ga K "InvalidFinally"), 0, 0] : List Addr).getD i 0) 6) := ⟨_, _, ok_ChY (n := 6) FChY TK GOw X GUn GAl GCT, gChY, kChY, bChY⟩
  have HC : HasC l.prog w K mg base (L2N.CX l.prog w) (6 + 3 * 6 + 1 + 1) "Program" (He.ga K "Program") PPIX (spPIX K (He.ga K "Program") (fun i => ([0, 0, 0, (He.ga K "DuplicateName"), (He.ga K "UnknownName"), (He.ga K "WrongArguments"), (He.ga K "InvalidFinally"), 0, 0] : List Addr).getD i 0) 6) := ⟨_, _, mkProgram, ok_PIX (n := 6) FPIX TC GTr GCS GCN, gProgram, bPIX⟩
  have GLN : Has l.prog w K mg base CX0 3 "_law_names" PNames spNames := ⟨_, _, ok_Names FNames ⟨m_str, m_range⟩ GD, gNames, kNames, bNames⟩
  have GPk : Has l.prog w K mg base CX0 3 "_law_pick" PLPk spLPk := ⟨_, _, ok_LPk FLPk TG GD, gLPk, kLPk, bLPk⟩
  have GSu : Has l.prog w K mg base CX0 3 "_law_sum" PLSu (spLSu K) := ⟨_, _, ok_LSu FLSu TG GD, gLSu, kLSu, bLSu⟩
  have GCl : Has l.prog w K mg base CX0 4 "_law_call" PLCl (spLCl K) := ⟨_, _, ok_LCl FLCl TG GD GPk GSu, gLCl, kLCl, bLCl⟩
  have GPi : Has l.prog w K mg base CX0 8 "_law_piece" PLPi (spLPi K 3) := ⟨_, _, ok_LPis FLPi TG GD GPk GSu GCl gLPi kLPi bLPi 3, gLPi, kLPi, bLPi⟩
  have GPt : Has l.prog w K mg base CX0 1 "_law_parts" PLPt (spLPt K) := ⟨_, _, ok_LPt FLPt, gLPt, kLPt, bLPt⟩
  have GZs : ∀ n, Has l.prog w K mg base CX0 (2 + n) "_law_size" PLSz (spLSz K n) := fun n => ⟨_, _, ok_LSzs FLSz T10 GPt gLSz kLSz bLSz n, gLSz, kLSz, bLSz⟩
  have GNs : ∀ n, Has l.prog w K mg base CX0 (3 + n) "_law_numbered" PLNu (spLNu K n) := fun n => ⟨_, _, ok_LNus FLNu GPt GZs gLNu kLNu bLNu n, gLNu, kLNu, bLNu⟩
  have GTw : Has l.prog w K mg base CX0 1 "_law_twice" PLTw (spLTw K) := ⟨_, _, ok_LTw FLTw T10, gLTw, kLTw, bLTw⟩
  have GOn : Has l.prog w K mg base CX0 (3 + 6 + 1) "_law_own_names" PLOn (spLOn K 6) := ⟨_, _, ok_LOn (n := 6) FLOn T10 GNs, gLOn, kLOn, bLOn⟩
  have GWo : Has l.prog w K mg base CX0 1 "_law_words_of" PLWo (spLWo K) := ⟨_, _, ok_LWo FLWo, gLWo, kLWo, bLWo⟩
  have GOc : Has l.prog w K mg base CX0 2 "_law_of_calls" PLOc (spLOc K) := ⟨_, _, ok_LOc FLOc GWo, gLOc, kLOc, bLOc⟩
  have GEr : Has l.prog w K mg base CX0 (3 + 6 + 1) "_law_errors" PLEr (spLEr K 6) := ⟨_, _, ok_LEr (n := 6) FLEr T10 GOc GNs, gLEr, kLEr, bLEr⟩
  have GDu : Has l.prog w K mg base CX0 (3 + 6 + 1 + 1) "_law_due" PLDu (spLDu K 6) := ⟨_, _, ok_LDu (n := 6) FLDu T10 GTw GOn GNs GEr, gLDu, kLDu, bLDu⟩
  have GTd : Has l.prog w K mg base CX0 (6 + 3 * 6 + 1 + 1 + 1 + 1) "_law_told" PLTd (spLTd K 6) := ⟨_, _, ok_LTd (n := 6) FLTd X M HC, gLTd, kLTd, bLTd⟩
  exact ok_Law FLaw TL GP GLN GD GPk GPi GTd GDu
end Aon
open PySem PySem.W PySem.Calls PyProof.Rows
set_option maxRecDepth 100000 in
set_option maxHeartbeats 0 in
theorem PySem.Challenge.cw_allornothing_k10_errors_of_names_holds : PySem.Challenge.rw_allornothing_k10_errors_of_names.Holds := by
  w_on; o_law
  refine HandSHeadRun.head_any (r := PySem.W.OpenLaw.row PySem.Challenge.rw_allornothing_k10_errors_of_names) (q := Aon.khQ) (H := Aon.khH) (ob := Aon.khO) (M := 60000) (loose := Aon.khN) (d := HandSHeadRun.topDef (PySem.W.OpenLaw.row PySem.Challenge.rw_allornothing_k10_errors_of_names).prog 85) (kwd := []) Aon.khO_eq
    (by kernel_rfl) (fun s => by kernel_rfl) Aon.khRun (by kernel_rfl) (by kernel_rfl) (by kernel_rfl) (by rfl) (by first | assumption | decide +kernel) (by decide +kernel) ⟨rfl, rfl, rfl, rfl, rfl, by decide +kernel⟩ ?hw ?hc
  case hw => w_witness2
  case hc =>
    refine L2.walk_ofE (l := PySem.Challenge.rw_allornothing_k10_errors_of_names) (n := 63) (k := 29) (x := "_law_script") (CX := L2.CX0) rfl (by decide) (by kernel_rfl) ⟨rfl, by decide, by decide⟩ ?F (fun _ _ _ _ z => z)
    intro w mg fa h Y G hmg0
    obtain ⟨K, KX, c⟩ := Y
    have hmg : mg ("law" : PySem.Str) = some (.ref fa) := by
      have e : (HandSHeadRun.topDef (PySem.W.OpenLaw.row PySem.Challenge.rw_allornothing_k10_errors_of_names).prog 85).name = ("law" : PySem.Str) := by kernel_rfl
      rw [← e]
      exact hmg0
    obtain ⟨fd, hb, hF⟩ := Aon.khFacts (l := PySem.Challenge.rw_allornothing_k10_errors_of_names) (w := w) KX G hmg c
    exact ⟨K, fd, Aon.spLaw K, KX, hb, fun _ a ns hl _ hS => ⟨a, ns, rfl, hS, hl, fun _ => rfl⟩, hF⟩
#print axioms PySem.Challenge.cw_allornothing_k10_errors_of_names_holds

